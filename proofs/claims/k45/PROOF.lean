import PyProof.Rows.All
import HandS.ForMost
import HandS.Star
import HandS.Defaults
import HandS.SlotsVar
import HandS.Wide
import HandS.TupAny
import HandS.TupMul
import HandS.IsInst
import HandS.Flow
import KE.GoesEnum
import HandS.Zip
import HandS.Conv
import PySem.Challenge.RW_boundedlevels_k45_held_additions
import Wide.All
import OpenK.AllK
import Wide.FinOn
import KE.KStateDown
import Lean
import HandS.Ends
import HandS.Head0
import HandS.Head1
import HandS.Head2
import HandS.HeadEnd
import HandS.HeadHook1
import HandS.HeadHook2
set_option Elab.async false
set_option linter.all false
set_option maxRecDepth 100000
set_option maxHeartbeats 0
/-! Mi: pure data beside the layer's abstract heap: D what is shared and never changed, W with list nodes that one place alone holds. -/
namespace Mi
open PySem PySem.Spec PyProof.Rows L2

inductive D where
  | non | bl (b : Bool) | int (i : Int) | str (s : Str)
  | tup (xs : List D) | lst (xs : List D) | obj (c : Nat) (fs : List D)
  /-- the script: a list that is only read -/
  | scr (xs : List D)

/-- K: the written part; cl: where each class of the text stands -/
structure Cfg where
  K : PySem.W.Frag
  cl : Nat → Addr

abbrev AP := Addr → Prop
abbrev Sg := L2.St

/-- what was shared stays as it was, and shared -/
def Keep (H : Hp) (O : AP) (H' : Hp) (O' : AP) : Prop := ∀ a o, H a = some o → ¬ O a → H' a = some o ∧ ¬ O' a

/-- a tuple that may be read: tracked and shared, or written -/
def Tp (C : Cfg) (H : Hp) (O : AP) (a : Addr) (xs : List V) : Prop :=
  (Rd H a (.tup xs) ∧ ¬ O a) ∨
    ∃ (o : Obj) (its : Array Value) (n : Nat), C.K.lookup a = some o ∧ o.cls = .type "tuple" ∧ o.data = .seq its n ∧ its.size ≤ sizeLine ∧ Vals xs its.toList
theorem Tp.sq {C : Cfg} {H : Hp} {O : AP} {a : Addr} {xs : List V} (h : Tp C H O a xs) : SqT C.K H a xs := by
  rcases h with ⟨h, _⟩ | h
  · exact .inl h
  · exact .inr h
theorem Rd.keep {H H' : Hp} {O O' : AP} {a : Addr} {u : HO} (k : Keep H O H' O') (h : Rd H a u) (n : ¬ O a) : Rd H' a u ∧ ¬ O' a := by
  rcases h with h | ⟨o, h⟩
  · obtain ⟨q, r⟩ := k _ _ h n; exact ⟨.inl q, r⟩
  · obtain ⟨q, r⟩ := k _ _ h n; exact ⟨.inr ⟨o, q⟩, r⟩
theorem Tp.keep {C : Cfg} {H H' : Hp} {O O' : AP} {a : Addr} {xs : List V} (k : Keep H O H' O') (h : Tp C H O a xs) : Tp C H' O' a xs := by
  rcases h with ⟨h, n⟩ | h
  · exact .inl (Rd.keep k h n)
  · exact .inr h

/-- a list that is only read: tracked or locked, or written -/
def Sc (C : Cfg) (H : Hp) (O : AP) (a : Addr) (xs : List V) : Prop :=
  (Rd H a (.lst xs) ∧ ¬ O a) ∨
    ∃ (o : Obj) (its : Array Value) (n : Nat), C.K.lookup a = some o ∧ o.cls = .type "list" ∧ o.dict = none ∧ o.data = .seq its n ∧ its.size ≤ sizeLine ∧ Vals xs its.toList
theorem Sc.sq {C : Cfg} {H : Hp} {O : AP} {a : Addr} {xs : List V} (h : Sc C H O a xs) : SqL C.K H a xs := by
  rcases h with ⟨h, _⟩ | h
  · exact .inl h
  · exact .inr h
theorem Sc.keep {C : Cfg} {H H' : Hp} {O O' : AP} {a : Addr} {xs : List V} (k : Keep H O H' O') (h : Sc C H O a xs) : Sc C H' O' a xs := by
  rcases h with ⟨h, n⟩ | h
  · exact .inl (Rd.keep k h n)
  · exact .inr h

mutual
def RepD (C : Cfg) (H : Hp) (O : AP) : D → V → Prop
  | .non, v => v = .non
  | .bl b, v => v = .bl b
  | .int i, v => v = .int i
  | .str s, v => v = .str s
  | .tup ds, v => ∃ a xs, v = .ref a ∧ Tp C H O a xs ∧ RepDs C H O ds xs
  | .lst ds, v => ∃ a xs, v = .ref a ∧ H a = some (.lst xs) ∧ ¬ O a ∧ RepDs C H O ds xs
  | .scr ds, v => ∃ a xs, v = .ref a ∧ Sc C H O a xs ∧ RepDs C H O ds xs
  | .obj c fs, v => ∃ a dx xs, v = .ref a ∧ H dx = some (.own a) ∧ dx ≠ a ∧ H a = some (SlO (C.cl c) dx a (xs.map some)) ∧ ¬ O a ∧ ¬ O dx ∧ RepDs C H O fs xs
def RepDs (C : Cfg) (H : Hp) (O : AP) : List D → List V → Prop
  | [], xs => xs = []
  | d :: ds, xs => ∃ x r, xs = x :: r ∧ RepD C H O d x ∧ RepDs C H O ds r
end

mutual
theorem RepD.keep {C : Cfg} {H H' : Hp} {O O' : AP} (k : Keep H O H' O') : ∀ (d : D) (v : V), RepD C H O d v → RepD C H' O' d v
  | .non, v, h => h
  | .bl b, v, h => h
  | .int i, v, h => h
  | .str s, v, h => h
  | .tup ds, v, h => by
    obtain ⟨a, xs, e, t, r⟩ := h
    exact ⟨a, xs, e, t.keep k, RepDs.keep k ds xs r⟩
  | .lst ds, v, h => by
    obtain ⟨a, xs, e, t, n, r⟩ := h
    obtain ⟨t', n'⟩ := k _ _ t n
    exact ⟨a, xs, e, t', n', RepDs.keep k ds xs r⟩
  | .scr ds, v, h => by
    obtain ⟨a, xs, e, t, r⟩ := h
    exact ⟨a, xs, e, t.keep k, RepDs.keep k ds xs r⟩
  | .obj c fs, v, h => by
    obtain ⟨a, dx, xs, e, h1, h2, h3, n1, n2, r⟩ := h
    exact ⟨a, dx, xs, e, (k _ _ h1 n2).1, h2, (k _ _ h3 n1).1, (k _ _ h3 n1).2, (k _ _ h1 n2).2, RepDs.keep k fs xs r⟩
theorem RepDs.keep {C : Cfg} {H H' : Hp} {O O' : AP} (k : Keep H O H' O') : ∀ (ds : List D) (xs : List V), RepDs C H O ds xs → RepDs C H' O' ds xs
  | [], xs, h => h
  | d :: ds, xs, h => by
    obtain ⟨x, r, e, h1, h2⟩ := h
    exact ⟨x, r, e, RepD.keep k d x h1, RepDs.keep k ds r h2⟩
end
theorem RepDs.length {C : Cfg} {H : Hp} {O : AP} : ∀ {ds : List D} {xs : List V}, RepDs C H O ds xs → xs.length = ds.length
  | [], _, h => by rw [show _ = [] from h]; rfl
  | d :: ds, xs, h => by
    obtain ⟨x, r, e, _, h2⟩ := h
    rw [e, List.length_cons, List.length_cons, RepDs.length h2]
theorem RepDs.get {C : Cfg} {H : Hp} {O : AP} : ∀ {ds : List D} {xs : List V} {i : Nat} {d : D}, RepDs C H O ds xs → ds[i]? = some d → ∃ x, xs[i]? = some x ∧ RepD C H O d x
  | [], _, _, _, _, e => by simp at e
  | d :: ds, xs, 0, d', h, e => by
    obtain ⟨x, r, e1, h1, h2⟩ := h
    simp at e; subst e; subst e1
    exact ⟨x, by simp, h1⟩
  | d :: ds, xs, i + 1, d', h, e => by
    obtain ⟨x, r, e1, h1, h2⟩ := h
    subst e1
    obtain ⟨y, q1, q2⟩ := RepDs.get (i := i) h2 (by simpa using e)
    exact ⟨y, by simpa using q1, q2⟩
theorem RepDs.get' {C : Cfg} {H : Hp} {O : AP} {ds : List D} {xs : List V} {i : Nat} {x : V} (h : RepDs C H O ds xs) (e : xs[i]? = some x) : ∃ d, ds[i]? = some d ∧ RepD C H O d x := by
  have hl := h.length
  obtain ⟨hi, _⟩ := List.getElem?_eq_some_iff.mp e
  have hd : ds[i]? = some ds[i] := List.getElem?_eq_getElem (by omega)
  obtain ⟨y, q1, q2⟩ := h.get hd
  rw [e] at q1; cases q1
  exact ⟨_, hd, q2⟩
theorem RepDs.nil {C : Cfg} {H : Hp} {O : AP} : RepDs C H O [] [] := rfl
theorem RepDs.cons {C : Cfg} {H : Hp} {O : AP} {d : D} {x : V} {ds : List D} {xs : List V} (h : RepD C H O d x) (r : RepDs C H O ds xs) : RepDs C H O (d :: ds) (x :: xs) := ⟨x, xs, rfl, h, r⟩
theorem RepDs.append {C : Cfg} {H : Hp} {O : AP} : ∀ {ds : List D} {xs : List V} {es : List D} {ys : List V}, RepDs C H O ds xs → RepDs C H O es ys → RepDs C H O (ds ++ es) (xs ++ ys)
  | [], xs, es, ys, h, g => by rw [show xs = [] from h]; exact g
  | d :: ds, xs, es, ys, h, g => by
    obtain ⟨x, r, e, h1, h2⟩ := h
    subst e
    exact .cons h1 (RepDs.append h2 g)
theorem RepDs.take {C : Cfg} {H : Hp} {O : AP} : ∀ {ds : List D} {xs : List V} (n : Nat), RepDs C H O ds xs → RepDs C H O (ds.take n) (xs.take n)
  | [], xs, n, h => by rw [show xs = [] from h]; simp [RepDs]
  | d :: ds, xs, 0, h => by simp [RepDs]
  | d :: ds, xs, n + 1, h => by
    obtain ⟨x, r, e, h1, h2⟩ := h
    subst e
    exact .cons h1 (RepDs.take n h2)
theorem RepDs.drop {C : Cfg} {H : Hp} {O : AP} : ∀ {ds : List D} {xs : List V} (n : Nat), RepDs C H O ds xs → RepDs C H O (ds.drop n) (xs.drop n)
  | [], xs, n, h => by rw [show xs = [] from h]; simp [RepDs]
  | d :: ds, xs, 0, h => by simpa using h
  | d :: ds, xs, n + 1, h => by
    obtain ⟨x, r, e, h1, h2⟩ := h
    subst e
    simpa using RepDs.drop n h2

/-! ### with list nodes that are held by one place alone -/
inductive W where
  | fz (d : D)
  | lst (ws : List W)
mutual
def frz : W → D
  | .fz d => d
  | .lst ws => .lst (frzs ws)
def frzs : List W → List D
  | [] => []
  | w :: ws => frz w :: frzs ws
end
theorem frzs_map : ∀ ws : List W, frzs ws = ws.map frz
  | [] => rfl
  | w :: ws => by rw [frzs, frzs_map ws]; rfl
theorem frzs_fz : ∀ ds : List D, frzs (ds.map W.fz) = ds
  | [] => rfl
  | d :: ds => by show frz (.fz d) :: frzs (ds.map W.fz) = _; rw [frzs_fz ds]; rfl
mutual
def RepW (C : Cfg) (H : Hp) (O : AP) : W → V → List Addr → Prop
  | .fz d, v, L => L = [] ∧ RepD C H O d v
  | .lst ws, v, L => ∃ a xs L', v = .ref a ∧ H a = some (.lst xs) ∧ O a ∧ L = a :: L' ∧ RepWs C H O ws xs L'
def RepWs (C : Cfg) (H : Hp) (O : AP) : List W → List V → List Addr → Prop
  | [], xs, L => xs = [] ∧ L = []
  | w :: ws, xs, L => ∃ x r L1 L2, xs = x :: r ∧ L = L1 ++ L2 ∧ RepW C H O w x L1 ∧ RepWs C H O ws r L2
end
/-- .. kept, with what is held -/
structure KeepL (H : Hp) (O : AP) (H' : Hp) (O' : AP) (L : List Addr) : Prop where
  k : Keep H O H' O'
  l : ∀ a ∈ L, ∀ o, H a = some o → H' a = some o ∧ O' a
theorem KeepL.sub {H H' : Hp} {O O' : AP} {L L' : List Addr} (h : KeepL H O H' O' L) (s : ∀ a ∈ L', a ∈ L) : KeepL H O H' O' L' := ⟨h.k, fun a ha o e => h.l a (s a ha) o e⟩
mutual
theorem RepW.keep {C : Cfg} {H H' : Hp} {O O' : AP} : ∀ (w : W) (v : V) (L : List Addr), KeepL H O H' O' L → RepW C H O w v L → RepW C H' O' w v L
  | .fz d, v, L, k, h => ⟨h.1, RepD.keep k.k d v h.2⟩
  | .lst ws, v, L, k, h => by
    obtain ⟨a, xs, L', e, h1, h2, h3, r⟩ := h
    subst h3
    obtain ⟨q1, q2⟩ := k.l a (by simp) _ h1
    exact ⟨a, xs, L', e, q1, q2, rfl, RepWs.keep ws xs L' (k.sub fun b hb => by simp [hb]) r⟩
theorem RepWs.keep {C : Cfg} {H H' : Hp} {O O' : AP} : ∀ (ws : List W) (xs : List V) (L : List Addr), KeepL H O H' O' L → RepWs C H O ws xs L → RepWs C H' O' ws xs L
  | [], xs, L, k, h => h
  | w :: ws, xs, L, k, h => by
    obtain ⟨x, r, L1, L2, e, e2, h1, h2⟩ := h
    subst e2
    exact ⟨x, r, L1, L2, e, rfl, RepW.keep w x L1 (k.sub fun b hb => by simp [hb]) h1, RepWs.keep ws r L2 (k.sub fun b hb => by simp [hb]) h2⟩
end
mutual
theorem RepW.own {C : Cfg} {H : Hp} {O : AP} : ∀ (w : W) (v : V) (L : List Addr), RepW C H O w v L → ∀ a ∈ L, O a ∧ ∃ xs, H a = some (.lst xs)
  | .fz d, v, L, h, a, ha => by rw [h.1] at ha; simp at ha
  | .lst ws, v, L, h, a, ha => by
    obtain ⟨b, xs, L', e, h1, h2, h3, r⟩ := h
    subst h3
    rcases List.mem_cons.mp ha with rfl | ha
    · exact ⟨h2, xs, h1⟩
    · exact RepWs.own ws xs L' r a ha
theorem RepWs.own {C : Cfg} {H : Hp} {O : AP} : ∀ (ws : List W) (xs : List V) (L : List Addr), RepWs C H O ws xs L → ∀ a ∈ L, O a ∧ ∃ xs, H a = some (.lst xs)
  | [], xs, L, h, a, ha => by rw [h.2] at ha; simp at ha
  | w :: ws, xs, L, h, a, ha => by
    obtain ⟨x, r, L1, L2, e, e2, h1, h2⟩ := h
    subst e2
    rcases List.mem_append.mp ha with ha | ha
    · exact RepW.own w x L1 h1 a ha
    · exact RepWs.own ws r L2 h2 a ha
end
mutual
/-- what was held is shared from now on -/
theorem RepW.frz {C : Cfg} {H : Hp} {O O' : AP} : ∀ (w : W) (v : V) (L : List Addr), (∀ a, O' a → O a ∧ a ∉ L) → RepW C H O w v L → RepD C H O' (frz w) v
  | .fz d, v, L, k, h => RepD.keep (fun a o e n => ⟨e, fun q => n (k a q).1⟩) d v h.2
  | .lst ws, v, L, k, h => by
    obtain ⟨a, xs, L', e, h1, h2, h3, r⟩ := h
    subst h3
    exact ⟨a, xs, e, h1, fun q => (k a q).2 (by simp), RepWs.frz ws xs L' (fun b q => ⟨(k b q).1, fun z => (k b q).2 (by simp [z])⟩) r⟩
theorem RepWs.frz {C : Cfg} {H : Hp} {O O' : AP} : ∀ (ws : List W) (xs : List V) (L : List Addr), (∀ a, O' a → O a ∧ a ∉ L) → RepWs C H O ws xs L → RepDs C H O' (frzs ws) xs
  | [], xs, L, k, h => h.1
  | w :: ws, xs, L, k, h => by
    obtain ⟨x, r, L1, L2, e, e2, h1, h2⟩ := h
    subst e2
    exact ⟨x, r, e, RepW.frz w x L1 (fun b q => ⟨(k b q).1, fun z => (k b q).2 (by simp [z])⟩) h1, RepWs.frz ws r L2 (fun b q => ⟨(k b q).1, fun z => (k b q).2 (by simp [z])⟩) h2⟩
end
theorem RepWs.length {C : Cfg} {H : Hp} {O : AP} : ∀ {ws : List W} {xs : List V} {L : List Addr}, RepWs C H O ws xs L → xs.length = ws.length
  | [], _, _, h => by rw [h.1]; rfl
  | w :: ws, xs, L, h => by
    obtain ⟨x, r, _, _, e, _, _, h2⟩ := h
    rw [e, List.length_cons, List.length_cons, RepWs.length h2]
theorem RepWs.append {C : Cfg} {H : Hp} {O : AP} : ∀ {ws us : List W} {xs ys : List V} {L M : List Addr}, RepWs C H O ws xs L → RepWs C H O us ys M → RepWs C H O (ws ++ us) (xs ++ ys) (L ++ M)
  | [], us, xs, ys, L, M, h, g => by rw [h.1, h.2]; exact g
  | w :: ws, us, xs, ys, L, M, h, g => by
    obtain ⟨x, r, L1, L2, e, e2, h1, h2⟩ := h
    subst e; subst e2
    exact ⟨x, r ++ ys, L1, L2 ++ M, rfl, by rw [List.append_assoc], h1, RepWs.append h2 g⟩
theorem RepWs.one {C : Cfg} {H : Hp} {O : AP} {w : W} {x : V} {L : List Addr} (h : RepW C H O w x L) : RepWs C H O [w] [x] L := ⟨x, [], L, [], rfl, by simp, h, rfl, rfl⟩
theorem RepWs.ofD {C : Cfg} {H : Hp} {O : AP} : ∀ {ds : List D} {xs : List V}, RepDs C H O ds xs → RepWs C H O (ds.map W.fz) xs []
  | [], xs, h => ⟨h, rfl⟩
  | d :: ds, xs, h => by
    obtain ⟨x, r, e, h1, h2⟩ := h
    exact ⟨x, r, [], [], e, rfl, ⟨rfl, h1⟩, RepWs.ofD h2⟩
theorem RepWs.toD {C : Cfg} {H : Hp} {O : AP} : ∀ {ds : List D} {xs : List V} {L : List Addr}, RepWs C H O (ds.map W.fz) xs L → RepDs C H O ds xs ∧ L = []
  | [], xs, L, h => h
  | d :: ds, xs, L, h => by
    obtain ⟨x, r, L1, L2, e, e2, h1, h2⟩ := h
    obtain ⟨q1, q2⟩ := RepWs.toD h2
    exact ⟨⟨x, r, e, h1.2, q1⟩, by rw [e2, h1.1, q2]; rfl⟩

/-! ### the slots -/
abbrev En := List (Option W)
def SlotR (C : Cfg) (H : Hp) (O : AP) : Option W → Option V → List Addr → Prop
  | none, _, L => L = []
  | some w, y, L => ∃ v, y = some v ∧ RepW C H O w v L
def EnvR (C : Cfg) (H : Hp) (O : AP) : En → Sg → List Addr → Prop
  | [], σ, L => σ = [] ∧ L = []
  | x :: ρ, σ, L => ∃ y r L1 L2, σ = y :: r ∧ L = L1 ++ L2 ∧ SlotR C H O x y L1 ∧ EnvR C H O ρ r L2
theorem SlotR.keep {C : Cfg} {H H' : Hp} {O O' : AP} {x : Option W} {y : Option V} {L : List Addr} (k : KeepL H O H' O' L) (h : SlotR C H O x y L) : SlotR C H' O' x y L := by
  cases x with
  | none => exact h
  | some w => obtain ⟨v, e, r⟩ := h; exact ⟨v, e, RepW.keep w v L k r⟩
theorem EnvR.keep {C : Cfg} {H H' : Hp} {O O' : AP} : ∀ {ρ : En} {σ : Sg} {L : List Addr}, KeepL H O H' O' L → EnvR C H O ρ σ L → EnvR C H' O' ρ σ L
  | [], σ, L, k, h => h
  | x :: ρ, σ, L, k, h => by
    obtain ⟨y, r, L1, L2, e, e2, h1, h2⟩ := h
    subst e2
    exact ⟨y, r, L1, L2, e, rfl, h1.keep (k.sub fun b hb => by simp [hb]), EnvR.keep (k.sub fun b hb => by simp [hb]) h2⟩
theorem EnvR.own {C : Cfg} {H : Hp} {O : AP} : ∀ {ρ : En} {σ : Sg} {L : List Addr}, EnvR C H O ρ σ L → ∀ a ∈ L, O a ∧ ∃ xs, H a = some (.lst xs)
  | [], σ, L, h, a, ha => by rw [h.2] at ha; simp at ha
  | x :: ρ, σ, L, h, a, ha => by
    obtain ⟨y, r, L1, L2, e, e2, h1, h2⟩ := h
    subst e2
    rcases List.mem_append.mp ha with ha | ha
    · cases x with
      | none => rw [show L1 = [] from h1] at ha; simp at ha
      | some w => obtain ⟨v, _, r'⟩ := h1; exact RepW.own w v L1 r' a ha
    · exact EnvR.own h2 a ha
theorem EnvR.length {C : Cfg} {H : Hp} {O : AP} : ∀ {ρ : En} {σ : Sg} {L : List Addr}, EnvR C H O ρ σ L → σ.length = ρ.length
  | [], _, _, h => by rw [h.1]; rfl
  | x :: ρ, σ, L, h => by
    obtain ⟨y, r, L1, L2, e, e2, h1, h2⟩ := h
    rw [e, List.length_cons, List.length_cons, EnvR.length h2]
/-- one slot apart from the others: it may be changed -/
theorem EnvR.focus {C : Cfg} {H : Hp} {O : AP} : ∀ {ρ : En} {σ : Sg} {L : List Addr} {i : Nat} {x : Option W}, EnvR C H O ρ σ L → ρ[i]? = some x →
    ∃ y L1 L0, σ[i]? = some y ∧ SlotR C H O x y L1 ∧ L.Perm (L1 ++ L0) ∧
      ∀ (H' : Hp) (O' : AP) (x' : Option W) (y' : Option V) (L1' : List Addr), KeepL H O H' O' L0 → SlotR C H' O' x' y' L1' → ∃ L', L'.Perm (L1' ++ L0) ∧ EnvR C H' O' (ρ.set i x') (σ.set i y') L'
  | [], _, _, _, _, _, e => by simp at e
  | x :: ρ, σ, L, 0, x0, h, e => by
    obtain ⟨y, r, L1, L2, e1, e2, h1, h2⟩ := h
    simp at e
    subst e; subst e1; subst e2
    refine ⟨y, L1, L2, by simp, h1, .refl _, fun H' O' x' y' L1' k s => ⟨L1' ++ L2, .refl _, ?_⟩⟩
    exact ⟨y', r, L1', L2, rfl, rfl, s, EnvR.keep k h2⟩
  | x :: ρ, σ, L, i + 1, x0, h, e => by
    obtain ⟨y, r, L1, L2, e1, e2, h1, h2⟩ := h
    subst e1; subst e2
    obtain ⟨y0, M1, M0, q1, q2, q3, q4⟩ := EnvR.focus (i := i) h2 (by simpa using e)
    refine ⟨y0, M1, L1 ++ M0, by simpa using q1, q2, ?_, fun H' O' x' y' L1' k s => ?_⟩
    · refine (List.Perm.append_left L1 q3).trans ?_
      rw [← List.append_assoc, ← List.append_assoc]
      exact List.Perm.append_right M0 List.perm_append_comm
    · obtain ⟨L', p, z⟩ := q4 H' O' x' y' L1' (k.sub fun b hb => by simp [hb]) s
      refine ⟨L1 ++ L', ?_, ⟨y, r.set i y', L1, L', by simp, rfl, h1.keep (k.sub fun b hb => by simp [hb]), z⟩⟩
      refine (List.Perm.append_left L1 p).trans ?_
      rw [← List.append_assoc, ← List.append_assoc]
      exact List.Perm.append_right M0 List.perm_append_comm
theorem EnvR.nones {C : Cfg} {H : Hp} {O : AP} : ∀ (n : Nat) (σ : Sg), σ.length = n → EnvR C H O (List.replicate n none) σ []
  | 0, σ, h => by
    cases σ with
    | nil => exact ⟨rfl, rfl⟩
    | cons x r => simp at h
  | n + 1, σ, h => by
    cases σ with
    | nil => simp at h
    | cons x r => exact ⟨x, r, [], [], rfl, rfl, rfl, EnvR.nones n r (by simpa using h)⟩

/-! ### a step of the state: what was not held by us stays -/
structure Stp (H : Hp) (O : AP) (L : List Addr) (H' : Hp) (O' : AP) (L' : List Addr) : Prop where
  fr : ∀ a o, H a = some o → a ∉ L → H' a = some o
  nw : ∀ a, O' a → O a ∨ H a = none
  ol : ∀ a o, H a = some o → O a → a ∉ L → O' a
  ll : ∀ a ∈ L', a ∈ L ∨ H a = none
  dm : ∀ a o, H a = some o → ∃ o', H' a = some o'
theorem Stp.refl (H : Hp) (O : AP) (L : List Addr) : Stp H O L H O L := ⟨fun _ _ h _ => h, fun _ h => .inl h, fun _ _ _ h _ => h, fun _ h => .inl h, fun _ o h => ⟨o, h⟩⟩
theorem Stp.none_of {H H' : Hp} {O O' : AP} {L L' : List Addr} (s : Stp H O L H' O' L') {a : Addr} (h : H' a = none) : H a = none := by
  cases e : H a with
  | none => rfl
  | some o => obtain ⟨o', q⟩ := s.dm a o e; rw [h] at q; cases q
theorem Stp.trans {H H1 H2 : Hp} {O O1 O2 : AP} {L L1 L2 : List Addr} (a : Stp H O L H1 O1 L1) (b : Stp H1 O1 L1 H2 O2 L2) : Stp H O L H2 O2 L2 where
  fr := fun c o e n => b.fr c o (a.fr c o e n) fun z => by
    rcases a.ll c z with q | q
    · exact n q
    · rw [e] at q; cases q
  nw := fun c q => by
    rcases b.nw c q with q | q
    · exact a.nw c q
    · exact .inr (a.none_of q)
  ol := fun c o e q n => b.ol c o (a.fr c o e n) (a.ol c o e q n) fun z => by
    rcases a.ll c z with r | r
    · exact n r
    · rw [e] at r; cases r
  ll := fun c z => by
    rcases b.ll c z with q | q
    · exact a.ll c q
    · exact .inr (a.none_of q)
  dm := fun c o e => by
    obtain ⟨o', q⟩ := a.dm c o e
    exact b.dm c o' q
end Mi
/-! Mi: values of expressions, what is borrowed from a slot, the judgement for expressions -/
namespace Mi
open PySem PySem.Spec PyProof.Rows L2

inductive Res (α : Type) where
  | ok (a : α) | err
def Res.bind {α β : Type} : Res α → (α → Res β) → Res β
  | .ok a, f => f a
  | .err, _ => .err
@[simp] theorem Res.bind_ok {α β : Type} (a : α) (f : α → Res β) : (Res.ok a).bind f = f a := rfl
@[simp] theorem Res.bind_err {α β : Type} (f : α → Res β) : (Res.err : Res α).bind f = .err := rfl
theorem Res.of_bind {α β : Type} {r : Res α} {f : α → Res β} {b : β} (h : r.bind f = .ok b) : ∃ a, r = .ok a ∧ f a = .ok b := by
  cases r with
  | ok a => exact ⟨a, rfl, h⟩
  | err => cases h
def Res.of {α : Type} : Option α → Res α
  | some a => .ok a
  | none => .err
theorem Res.of_ok {α : Type} {o : Option α} {a : α} (h : Res.of o = .ok a) : o = some a := by
  cases o with
  | none => cases h
  | some b => cases h; rfl

def chk : Bool → Res Unit
  | true => .ok ()
  | false => .err
@[simp] theorem chk_true : chk true = .ok () := rfl
theorem chk_ok {b : Bool} {u : Unit} (h : chk b = .ok u) : b = true := by
  cases b with
  | true => rfl
  | false => cases h
theorem chk_dec {p : Prop} [Decidable p] {u : Unit} (h : chk (decide p) = .ok u) : p := of_decide_eq_true (chk_ok h)

/-! ### places within a slot -/
def getP : W → List Nat → Option W
  | w, [] => some w
  | .lst ws, k :: p => match ws[k]? with
    | some w1 => getP w1 p
    | none => none
  | .fz _, _ :: _ => none
def setP : W → List Nat → W → W
  | _, [], w' => w'
  | .lst ws, k :: p, w' => match ws[k]? with
    | some w1 => .lst (ws.set k (setP w1 p w'))
    | none => .lst ws
  | .fz d, _ :: _, _ => .fz d
def PathR (H : Hp) : W → V → List Nat → V → Prop
  | _, v, [], v' => v' = v
  | .lst ws, v, k :: p, v' => ∃ a xs x w1, v = .ref a ∧ H a = some (.lst xs) ∧ xs[k]? = some x ∧ ws[k]? = some w1 ∧ PathR H w1 x p v'
  | .fz _, _, _ :: _, _ => False
theorem PathR.ext {H H' : Hp} (h : ∀ a o, H a = some o → H' a = some o) : ∀ (p : List Nat) (w : W) (v v' : V), PathR H w v p v' → PathR H' w v p v'
  | [], w, v, v', q => by cases w <;> exact q
  | k :: p, .fz _, v, v', q => q.elim
  | k :: p, .lst ws, v, v', q => by
    obtain ⟨a, xs, x, w1, e, h1, h2, h3, r⟩ := q
    exact ⟨a, xs, x, w1, e, h _ _ h1, h2, h3, PathR.ext h p w1 x v' r⟩
/-- one element apart from the others -/
theorem RepWs.focus {C : Cfg} {H : Hp} {O : AP} : ∀ {ws : List W} {xs : List V} {L : List Addr} {i : Nat} {w : W}, RepWs C H O ws xs L → ws[i]? = some w →
    ∃ x L1 L0, xs[i]? = some x ∧ RepW C H O w x L1 ∧ L.Perm (L1 ++ L0) ∧
      ∀ (H' : Hp) (O' : AP) (w' : W) (x' : V) (L1' : List Addr), KeepL H O H' O' L0 → RepW C H' O' w' x' L1' → ∃ L', L'.Perm (L1' ++ L0) ∧ RepWs C H' O' (ws.set i w') (xs.set i x') L'
  | [], _, _, _, _, _, e => by simp at e
  | w :: ws, xs, L, 0, w0, h, e => by
    obtain ⟨x, r, L1, L2, e1, e2, h1, h2⟩ := h
    simp at e
    subst e; subst e1; subst e2
    exact ⟨x, L1, L2, by simp, h1, .refl _, fun H' O' w' x' L1' k s => ⟨L1' ++ L2, .refl _, x', r, L1', L2, rfl, rfl, s, RepWs.keep ws r L2 k h2⟩⟩
  | w :: ws, xs, L, i + 1, w0, h, e => by
    obtain ⟨x, r, L1, L2, e1, e2, h1, h2⟩ := h
    subst e1; subst e2
    obtain ⟨y0, M1, M0, q1, q2, q3, q4⟩ := RepWs.focus (i := i) h2 (by simpa using e)
    refine ⟨y0, M1, L1 ++ M0, by simpa using q1, q2, ?_, fun H' O' w' x' L1' k s => ?_⟩
    · refine (List.Perm.append_left L1 q3).trans ?_
      rw [← List.append_assoc, ← List.append_assoc]
      exact List.Perm.append_right M0 List.perm_append_comm
    · obtain ⟨L', p, z⟩ := q4 H' O' w' x' L1' (k.sub fun b hb => by simp [hb]) s
      refine ⟨L1 ++ L', ?_, ⟨x, r.set i x', L1, L', by simp, rfl, RepW.keep w x L1 (k.sub fun b hb => by simp [hb]) h1, z⟩⟩
      refine (List.Perm.append_left L1 p).trans ?_
      rw [← List.append_assoc, ← List.append_assoc]
      exact List.Perm.append_right M0 List.perm_append_comm
theorem set_same {α : Type} : ∀ {l : List α} {i : Nat} {x : α}, l[i]? = some x → l.set i x = l
  | [], _, _, h => by simp at h
  | y :: r, 0, x, h => by simp at h; simp [h]
  | y :: r, i + 1, x, h => by simp only [List.set_cons_succ]; rw [set_same (i := i) (by simpa using h)]
/-- what stands at a place -/
theorem RepW.path {C : Cfg} {H : Hp} {O : AP} : ∀ {p : List Nat} {w : W} {v v' : V} {L : List Addr} {w1 : W}, RepW C H O w v L → L.Nodup → PathR H w v p v' → getP w p = some w1 →
    ∃ L1 L0, RepW C H O w1 v' L1 ∧ L.Perm (L1 ++ L0) ∧
      ∀ (H' : Hp) (O' : AP) (w1' : W) (L1' : List Addr), KeepL H O H' O' L0 → RepW C H' O' w1' v' L1' → ∃ L', L'.Perm (L1' ++ L0) ∧ RepW C H' O' (setP w p w1') v L'
  | [], w, v, v', L, w1, h, nd, q, e => by
    have e1 : w1 = w := by cases w <;> (simp [getP] at e; exact e.symm)
    have e2 : v' = v := by cases w <;> exact q
    subst e1; subst e2
    refine ⟨L, [], h, by simp, fun H' O' w1' L1' k s => ⟨L1', by simp, ?_⟩⟩
    cases w1 <;> exact s
  | k :: p, .fz d, v, v', L, w1, h, nd, q, e => q.elim
  | k :: p, .lst ws, v, v', L, w1, h, nd, q, e => by
    obtain ⟨a, xs, L', e1, h1, h2, h3, r⟩ := h
    obtain ⟨a', xs', x, w2, e1', h1', h2', h3', q⟩ := q
    subst e1; cases e1'
    rw [h1] at h1'; cases h1'
    subst h3
    obtain ⟨x0, M1, M0, g1, g2, g3, g4⟩ := r.focus h3'
    rw [h2'] at g1; cases g1
    have nd' : L'.Nodup := (List.nodup_cons.mp nd).2
    have ndM : (M1 ++ M0).Nodup := g3.nodup_iff.mp nd'
    have e' : getP w2 p = some w1 := by simpa [getP, h3'] using e
    obtain ⟨N1, N0, f1, f2, f3⟩ := RepW.path g2 (List.nodup_append.mp ndM).1 q e'
    refine ⟨N1, a :: (N0 ++ M0), f1, ?_, fun H' O' w1' L1' kk s => ?_⟩
    · refine ((g3.trans (f2.append_right M0)).cons a).trans ?_
      rw [List.append_assoc]
      exact (List.perm_middle (l₁ := N1) (a := a) (l₂ := N0 ++ M0)).symm
    · obtain ⟨P1, p1, p2⟩ := f3 H' O' w1' L1' (kk.sub fun b hb => by simp [hb]) s
      obtain ⟨P2, p3, p4⟩ := g4 H' O' (setP w2 p w1') x P1 (kk.sub fun b hb => by simp [hb]) p2
      obtain ⟨z1, z2⟩ := kk.l a (by simp) _ h1
      rw [set_same h2'] at p4
      have es : setP (W.lst ws) (k :: p) w1' = .lst (ws.set k (setP w2 p w1')) := by simp [setP, h3']
      rw [es]
      refine ⟨a :: P2, ?_, a, xs, P2, rfl, z1, z2, rfl, p4⟩
      refine ((p3.trans (p1.append_right M0)).cons a).trans ?_
      rw [List.append_assoc]
      exact (List.perm_middle (l₁ := L1') (a := a) (l₂ := N0 ++ M0)).symm

/-! ### what an expression gives: a value of its own, or a place -/
inductive B where
  | tmp (w : W) | bor (i : Nat) (p : List Nat)
def BR (C : Cfg) (H : Hp) (O : AP) (ρ : En) (σ : Sg) : B → V → List Addr → Prop
  | .tmp w, v, L => RepW C H O w v L
  | .bor i p, v, L => L = [] ∧ ∃ v0, σ[i]? = some (some v0) ∧ (p = [] → v = v0) ∧ (p ≠ [] → ∃ w0, ρ[i]? = some (some w0) ∧ PathR H w0 v0 p v)
abbrev CE := En → Res (B × En)
/-- the content; what is one's own is shared from now on -/
def cont : B → En → Res W
  | .tmp w, _ => .ok (.fz (frz w))
  | .bor i p, ρ => match ρ[i]? with
    | some (some w) => Res.of (getP w p)
    | _ => .err
/-- taken over: what was borrowed is shared from now on -/
def take : B → En → Res (W × En)
  | .tmp w, ρ => .ok (w, ρ)
  | .bor i p, ρ => match ρ[i]? with
    | some (some w) => (Res.of (getP w p)).bind fun w1 => .ok (.fz (frz w1), ρ.set i (some (setP w p (.fz (frz w1)))))
    | _ => .err

structure PostE (C : Cfg) (σ : Sg) (H : Hp) (O : AP) (L : List Addr) (ρ : En) (qt : Bool) (b : B) (ρ' : En) (v : V) (H' : Hp) (O' : AP) (L' Lb : List Addr) : Prop where
  env : EnvR C H' O' ρ' σ L'
  br : BR C H' O' ρ' σ b v Lb
  nd : (L' ++ Lb).Nodup
  st : Stp H O L H' O' (L' ++ Lb)
  qu : qt = true → ρ' = ρ ∧ ∀ a o, H a = some o → H' a = some o
def tE (C : Cfg) (qt : Bool) (c : CE) : TE := fun σ H Q => ∃ O L ρ b ρ', EnvR C H O ρ σ L ∧ L.Nodup ∧ c ρ = .ok (b, ρ') ∧ ∀ v H' O' L' Lb, PostE C σ H O L ρ qt b ρ' v H' O' L' Lb → Q v H'
/-- the judgement -/
def SE (X : Cx) (cl : Nat → Addr) (qt : Bool) (e : Expr) (c : CE) : Prop := PE X e (tE ⟨X.K, cl⟩ qt c)
theorem PE.imp {X : Cx} {e : Expr} {t t' : TE} (h : PE X e t) (k : ∀ σ H Q, t' σ H Q → t σ H Q) : PE X e t' := ⟨fun pins s σ H Q I q => h.run pins s σ H Q I (k σ H Q q)⟩
theorem PT.imp {X : Cx} {e : Expr} {t t' : TT} (h : PT X e t) (k : ∀ σ H Q, t' σ H Q → t σ H Q) : PT X e t' := ⟨fun pins s σ H Q I q => h.run pins s σ H Q I (k σ H Q q)⟩
theorem PW.imp {X : Cx} {e : Expr} {t t' : TT} (h : PW X e t) (k : ∀ σ H Q, t' σ H Q → t σ H Q) : PW X e t' := ⟨fun wh pins s σ H Q I q => h.run wh pins s σ H Q I (k σ H Q q)⟩
theorem PA.imp {X : Cx} {e : List Expr} {t t' : TA} (h : PA X e t) (k : ∀ σ H Q, t' σ H Q → t σ H Q) : PA X e t' := ⟨fun pos pins s σ H Q I q => h.run pos pins s σ H Q I (k σ H Q q)⟩
theorem PS.imp {X : Cx} {st : Stmt} {t t' : TS} (h : PS X st t) (k : ∀ D σ H, t' D σ H → t D σ H) : PS X st t' := ⟨fun pins s σ H D I q => h.run pins s σ H D I (k D σ H q)⟩
theorem PSs.imp {X : Cx} {st : List Stmt} {t t' : TS} (h : PSs X st t) (k : ∀ D σ H, t' D σ H → t D σ H) : PSs X st t' := ⟨fun pins s σ H D I q => h.run pins s σ H D I (k D σ H q)⟩
theorem PG.imp {X : Cx} {e : Expr} {t t' : TG} (h : PG X e t) (k : ∀ v σ H Q, t' v σ H Q → t v σ H Q) : PG X e t' := ⟨fun pins s σ H v u Q I r q => h.run pins s σ H v u Q I r (k v σ H Q q)⟩
theorem PI.imp {X : Cx} {tg e : Expr} {t t' : TI} (h : PI X tg e t) (k : ∀ σ H R, t' σ H R → t σ H R) : PI X tg e t' := ⟨fun pins s σ H R I q => h.run pins s σ H R I (k σ H R q)⟩

/-! ### steps -/
section
variable {C : Cfg} {H H1 H2 H' : Hp} {O O1 O2 O' : AP} {L L1 L2 L' M T : List Addr} {ρ ρ1 : En} {σ : Sg}
theorem Stp.frame (s : Stp H O L H' O' M) (T : List Addr) : Stp H O (L ++ T) H' O' (M ++ T) :=
  ⟨fun a o e n => s.fr a o e fun z => n (by simp [z]), s.nw, fun a o e q n => s.ol a o e q fun z => n (by simp [z]), fun a h => by
    rcases List.mem_append.mp h with h | h
    · rcases s.ll a h with q | q
      · exact .inl (by simp [q])
      · exact .inr q
    · exact .inl (by simp [h]), s.dm⟩
theorem Stp.perm (s : Stp H O L H' O' M) (p : ∀ a, a ∈ T → a ∈ M) : Stp H O L H' O' T := ⟨s.fr, s.nw, s.ol, fun a h => s.ll a (p a h), s.dm⟩
/-- ownership given up -/
def Less (O : AP) (T : List Addr) : AP := fun a => O a ∧ a ∉ T
theorem Stp.drop (s : Stp H O L H' O' (M ++ T)) : Stp H O L H' (Less O' T) M :=
  ⟨s.fr, fun a q => s.nw a q.1, fun a o e q n => ⟨s.ol a o e q n, fun z => by
    rcases s.ll a (by simp [z]) with r | r
    · exact n r
    · rw [e] at r; cases r⟩, fun a h => s.ll a (by simp [h]), s.dm⟩
theorem keep_less (d : ∀ a ∈ L, a ∉ T) (own : ∀ a ∈ L, O a) : KeepL H O H (Less O T) L := ⟨fun a o e n => ⟨e, fun q => n q.1⟩, fun a ha o e => ⟨e, own a ha, d a ha⟩⟩
theorem EnvR.less (h : EnvR C H O ρ σ L) (d : ∀ a ∈ L, a ∉ T) : EnvR C H (Less O T) ρ σ L := EnvR.keep (keep_less d fun a ha => (h.own a ha).1) h
theorem Stp.keep (s : Stp H O L H' O' M) (own : ∀ a ∈ L, O a) : Keep H O H' O' := fun a o e n => ⟨s.fr a o e fun z => n (own a z), fun q => by
  rcases s.nw a q with r | r
  · exact n r
  · rw [e] at r; cases r⟩
/-- what is not among the state's own is kept over a step -/
theorem Stp.keepL (s : Stp H O L H' O' M) (own : ∀ a ∈ L, O a) (hT : ∀ a ∈ T, O a) (d : ∀ a ∈ T, a ∉ L) : KeepL H O H' O' T := ⟨s.keep own, fun a ha o e => ⟨s.fr a o e (d a ha), s.ol a o e (hT a ha) (d a ha)⟩⟩
theorem nodup_frame (s : Stp H O L H' O' M) (nM : M.Nodup) (nT : T.Nodup) (hT : ∀ a ∈ T, ∃ o, H a = some o) (d : ∀ a ∈ T, a ∉ L) : (M ++ T).Nodup := by
  refine List.nodup_append.mpr ⟨nM, nT, fun a ha b hb e => ?_⟩
  subst e
  rcases s.ll a ha with q | q
  · exact d a hb q
  · obtain ⟨o, e⟩ := hT a hb; rw [e] at q; cases q
/-- a growth: nothing changes, the things of Lw are new and held -/
structure Gr (H : Hp) (O : AP) (H' : Hp) (O' : AP) (Lw : List Addr) : Prop where
  ex : ∀ a o, H a = some o → H' a = some o
  o1 : ∀ a, O' a → O a ∨ a ∈ Lw
  o2 : ∀ a o, H a = some o → O a → O' a
  nw : ∀ a ∈ Lw, H a = none
  nd : Lw.Nodup
theorem Gr.refl (H : Hp) (O : AP) : Gr H O H O [] := ⟨fun _ _ h => h, fun _ q => .inl q, fun _ _ _ q => q, fun _ h => by simp at h, List.nodup_nil⟩
theorem Gr.stp (g : Gr H O H' O' T) : Stp H O L H' O' (L ++ T) := ⟨fun a o e _ => g.ex a o e, fun a q => by
    rcases g.o1 a q with q | q
    · exact .inl q
    · exact .inr (g.nw a q), fun a o e q _ => g.o2 a o e q, fun a h => by
    rcases List.mem_append.mp h with h | h
    · exact .inl h
    · exact .inr (g.nw a h), fun a o e => ⟨o, g.ex a o e⟩⟩
theorem Gr.keep (g : Gr H O H' O' T) : Keep H O H' O' := fun a o e n => ⟨g.ex a o e, fun q => by
  rcases g.o1 a q with q | q
  · exact n q
  · rw [g.nw a q] at e; cases e⟩
theorem Gr.keepL (g : Gr H O H' O' T) (own : ∀ a ∈ L, O a) : KeepL H O H' O' L := ⟨g.keep, fun a ha o e => ⟨g.ex a o e, g.o2 a o e (own a ha)⟩⟩
theorem EnvR.grow (g : Gr H O H' O' T) (h : EnvR C H O ρ σ L) : EnvR C H' O' ρ σ L := EnvR.keep (g.keepL fun a ha => (h.own a ha).1) h
/-- a new object, shared or held -/
theorem Gr.new {p : Addr} {o : HO} (h : H p = none) : Gr H O (upd H p o) (Less O [p]) [] where
  ex := fun a u e => by rw [upd_ne (ne_of_none e h)]; exact e
  o1 := fun a q => .inl q.1
  o2 := fun a o e q => ⟨q, fun z => by
    have z' : a = p := by simpa using z
    rw [z', h] at e
    cases e⟩
  nw := fun _ z => by simp at z
  nd := List.nodup_nil
theorem Gr.newO {p : Addr} {o : HO} (h : H p = none) : Gr H O (upd H p o) (fun a => O a ∨ a = p) [p] where
  ex := fun a u e => by rw [upd_ne (ne_of_none e h)]; exact e
  o1 := fun a q => q.elim .inl fun z => .inr (by simp [z])
  o2 := fun a o e q => .inl q
  nw := fun a z => by simp at z; rw [z]; exact h
  nd := by simp
theorem Gr.trans0 (g : Gr H O H1 O1 []) (k : Gr H1 O1 H' O' T) : Gr H O H' O' T where
  ex := fun a o e => k.ex a o (g.ex a o e)
  o1 := fun a q => by
    rcases k.o1 a q with q | q
    · rcases g.o1 a q with q | q
      · exact .inl q
      · simp at q
    · exact .inr q
  o2 := fun a o e q => k.o2 a o (g.ex a o e) (g.o2 a o e q)
  nw := fun a h => by
    cases e : H a with
    | none => rfl
    | some o =>
      have := k.nw a h
      rw [g.ex a o e] at this
      cases this
  nd := k.nd
end
end Mi
/-! Mi: operators -/
namespace Mi
open PySem PySem.Spec PyProof.Rows L2
section
variable {C : Cfg} {H H1 H2 H' : Hp} {O O1 O2 O' : AP} {L L1 L2 L' La Lb M T : List Addr} {ρ ρ1 ρ2 : En} {σ : Sg} {i : Nat} {p : List Nat} {v : V} {w w1 : W} {b : B} {qb : Bool}
theorem env_path (e : EnvR C H O ρ σ L) (nd : L.Nodup) (hb : BR C H O ρ σ (.bor i p) v Lb) (hi : ρ[i]? = some (some w)) (g : getP w p = some w1) :
    ∃ L1 L0, RepW C H O w1 v L1 ∧ L.Perm (L1 ++ L0) ∧ ∀ H' O' w1' L1', KeepL H O H' O' L0 → RepW C H' O' w1' v L1' → ∃ L', L'.Perm (L1' ++ L0) ∧ EnvR C H' O' (ρ.set i (some (setP w p w1'))) σ L' := by
  obtain ⟨y, M1, M0, q1, ⟨v0, q2, q3⟩, q4, q5⟩ := e.focus hi
  obtain ⟨_, v0', h1, h2, h3⟩ := hb
  rw [q1, q2] at h1; cases h1
  subst q2
  have hp : PathR H w v0 p v := by
    cases p with
    | nil => rw [h2 rfl]; cases w <;> rfl
    | cons k r =>
      obtain ⟨w0, e1, e2⟩ := h3 (by simp)
      rw [hi] at e1; cases e1
      exact e2
  have nM : (M1 ++ M0).Nodup := q4.nodup_iff.mp nd
  obtain ⟨N1, N0, f1, f2, f3⟩ := RepW.path q3 (List.nodup_append.mp nM).1 hp g
  refine ⟨N1, N0 ++ M0, f1, ?_, fun H' O' w1' L1' k r => ?_⟩
  · rw [← List.append_assoc]; exact q4.trans (f2.append_right M0)
  · obtain ⟨P1, p1, p2⟩ := f3 H' O' w1' L1' (k.sub fun a ha => by simp [ha]) r
    obtain ⟨L', p3, p4⟩ := q5 H' O' (some (setP w p w1')) (some v0) P1 (k.sub fun a ha => by simp [ha]) ⟨v0, rfl, p2⟩
    rw [set_same q1] at p4
    exact ⟨L', by rw [← List.append_assoc]; exact p3.trans (p1.append_right M0), p4⟩
theorem cont_rep (h : BR C H O ρ σ b v Lb) (e : EnvR C H O ρ σ L) (nd : L.Nodup) (d : ∀ a ∈ L, a ∉ T) (s : ∀ a ∈ Lb, a ∈ T) (c : cont b ρ = .ok w) : ∃ Lw, RepW C H (Less O T) w v Lw ∧ ∀ a ∈ Lw, a ∈ L := by
  cases b with
  | tmp w0 =>
    have e1 : w = .fz (frz w0) := by simp [cont] at c; exact c.symm
    subst e1
    exact ⟨[], ⟨rfl, RepW.frz w0 v Lb (fun a q => ⟨q.1, fun z => q.2 (s a z)⟩) h⟩, fun a z => by simp at z⟩
  | bor i p =>
    simp only [cont] at c
    cases hi : ρ[i]? with
    | none => rw [hi] at c; cases c
    | some x =>
      rw [hi] at c
      cases x with
      | none => cases c
      | some w0 =>
        obtain ⟨M1, M0, r1, r2, _⟩ := env_path e nd h hi (Res.of_ok c)
        exact ⟨M1, RepW.keep w v M1 (keep_less (fun a ha => d a (r2.mem_iff.mpr (by simp [ha]))) fun a ha => (RepW.own w v M1 r1 a ha).1) r1, fun a ha => r2.mem_iff.mpr (by simp [ha])⟩
/-- a pending operand -/
def pend (qb : Bool) : B → Res Unit
  | .bor _ (_ :: _) => if qb then .ok () else .err
  | _ => .ok ()
theorem BR.pend {va : V} {b' : B} {vb : V} {Lb' : List Addr} (h : BR C H1 O1 ρ1 σ b va La) (own : ∀ a ∈ L1, O1 a) (nd : (L1 ++ La).Nodup) (P : PostE C σ H1 O1 L1 ρ1 qb b' ρ2 vb H2 O2 L2 Lb') (k : pend qb b = .ok ()) :
    BR C H2 O2 ρ2 σ b va La ∧ (L2 ++ Lb' ++ La).Nodup := by
  cases b with
  | tmp w =>
    have h : RepW C H1 O1 w va La := h
    have d : ∀ a ∈ La, a ∉ L1 := fun a ha z => (List.nodup_append.mp nd).2.2 a z a ha rfl
    have ow := RepW.own w va La h
    exact ⟨RepW.keep w va La (P.st.keepL own (fun a ha => (ow a ha).1) d) h, nodup_frame P.st P.nd (List.nodup_append.mp nd).2.1 (fun a ha => let ⟨_, xs, e⟩ := ow a ha; ⟨_, e⟩) d⟩
  | bor i p =>
    obtain ⟨e, v0, h1, h2, h3⟩ := h
    subst e
    refine ⟨⟨rfl, v0, h1, h2, fun hp => ?_⟩, by rw [List.append_nil]; exact P.nd⟩
    cases p with
    | nil => exact absurd rfl hp
    | cons j r =>
      have hq : qb = true := by
        cases qb with
        | true => rfl
        | false => simp [Mi.pend] at k
      obtain ⟨e1, e2⟩ := P.qu hq
      obtain ⟨w0, g1, g2⟩ := h3 hp
      exact ⟨w0, by rw [e1]; exact g1, PathR.ext e2 _ _ _ _ g2⟩
/-- the end of an operation: the operands' own things are given up, the result is new -/
theorem post_of {qt : Bool} {Lw : List Addr} (env : EnvR C H2 O2 ρ2 σ L2) (nd : (L2 ++ T).Nodup) (st : Stp H O L H2 O2 (L2 ++ T)) (qu : qt = true → ρ2 = ρ ∧ ∀ a o, H a = some o → H2 a = some o)
    (g : Gr H2 (Less O2 T) H' O' Lw) (r : RepW C H' O' w v Lw) : PostE C σ H O L ρ qt (.tmp w) ρ2 v H' O' L2 Lw := by
  have d : ∀ a ∈ L2, a ∉ T := fun a ha z => (List.nodup_append.mp nd).2.2 a ha a z rfl
  have env2 := env.less d
  refine ⟨env2.grow g, r, ?_, st.drop.trans g.stp, fun q => ⟨(qu q).1, fun a o e => g.ex a o ((qu q).2 a o e)⟩⟩
  refine List.nodup_append.mpr ⟨(List.nodup_append.mp nd).1, g.nd, fun a ha b hb e => ?_⟩
  subst e
  obtain ⟨_, xs, e⟩ := env2.own a ha
  rw [g.nw a hb] at e; cases e
end

/-! ### binary operators, by values -/
def OpS (C : Cfg) (r : R2) (f : W → W → Res W) : Prop := ∀ (H : Hp) (O : AP) (x y : V) (wx wy w : W) (Lx Ly : List Addr) (Q : VK), RepW C H O wx x Lx → RepW C H O wy y Ly → f wx wy = .ok w →
  (∀ v H' O' Lw, RepW C H' O' w v Lw → Gr H O H' O' Lw → Q v H') → r x y H Q
def cBin (f : W → W → Res W) (qb : Bool) (ca cb : CE) : CE := fun ρ =>
  (ca ρ).bind fun (a, ρ1) => (pend qb a).bind fun _ => (cb ρ1).bind fun (b, ρ2) => (cont a ρ2).bind fun x => (cont b ρ2).bind fun y => (f x y).bind fun w => .ok (.tmp w, ρ2)
theorem bin_core {C : Cfg} {r : R2} {f : W → W → Res W} {qa qb : Bool} {ca cb : CE} (hs : OpS C r f) {σ : Sg} {H : Hp} {Q : VK} (h : tE C (qa && qb) (cBin f qb ca cb) σ H Q) : tOp r (tE C qa ca) (tE C qb cb) σ H Q := by
  obtain ⟨O, L, ρ, b0, ρ', env, nd, c, q⟩ := h
  obtain ⟨⟨a, ρ1⟩, c1, c⟩ := Res.of_bind c
  obtain ⟨⟨⟩, c2, c⟩ := Res.of_bind c
  obtain ⟨⟨b, ρ2⟩, c3, c⟩ := Res.of_bind c
  obtain ⟨x, c4, c⟩ := Res.of_bind c
  obtain ⟨y, c5, c⟩ := Res.of_bind c
  obtain ⟨w, c6, c⟩ := Res.of_bind c
  cases c
  refine ⟨O, L, ρ, a, ρ1, env, nd, c1, fun va H1 O1 L1 La P1 => ?_⟩
  have own1 : ∀ z ∈ L1, O1 z := fun z hz => (P1.env.own z hz).1
  refine ⟨O1, L1, ρ1, b, ρ', P1.env, (List.nodup_append.mp P1.nd).1, c3, fun vb H2 O2 L2 Lb P2 => ?_⟩
  obtain ⟨ba, nd2⟩ := P1.br.pend own1 P1.nd P2 c2
  have nd3 : (L2 ++ (Lb ++ La)).Nodup := by rw [← List.append_assoc]; exact nd2
  have ndL := (List.nodup_append.mp nd3).1
  have d : ∀ z ∈ L2, z ∉ Lb ++ La := fun z hz q => (List.nodup_append.mp nd3).2.2 z hz z q rfl
  obtain ⟨Lx, rx, _⟩ := cont_rep (T := Lb ++ La) ba P2.env ndL d (fun z hz => by simp [hz]) c4
  obtain ⟨Ly, ry, _⟩ := cont_rep (T := Lb ++ La) P2.br P2.env ndL d (fun z hz => by simp [hz]) c5
  refine hs H2 (Less O2 (Lb ++ La)) va vb x y w Lx Ly _ rx ry c6 fun v H' O' Lw rw' g => ?_
  refine q v H' O' L2 Lw (post_of P2.env nd3 ?_ (fun hq => ?_) g rw')
  · refine (P1.st.trans (P2.st.frame La)).perm fun z hz => ?_
    rw [List.append_assoc]; exact hz
  · have hq' : qa = true ∧ qb = true := by simpa using hq
    exact ⟨(P2.qu hq'.2).1.trans (P1.qu hq'.1).1, fun z o e => (P2.qu hq'.2).2 z o ((P1.qu hq'.1).2 z o e)⟩
/-- one operand -/
def UnS (C : Cfg) (r : V → Hp → VK → Prop) (f : W → Res W) : Prop := ∀ (H : Hp) (O : AP) (x : V) (wx w : W) (Lx : List Addr) (Q : VK), RepW C H O wx x Lx → f wx = .ok w →
  (∀ v H' O' Lw, RepW C H' O' w v Lw → Gr H O H' O' Lw → Q v H') → r x H Q
def cUn (f : W → Res W) (ca : CE) : CE := fun ρ => (ca ρ).bind fun (a, ρ1) => (cont a ρ1).bind fun x => (f x).bind fun w => .ok (.tmp w, ρ1)
theorem un_core {C : Cfg} {r : V → Hp → VK → Prop} {f : W → Res W} {qa : Bool} {ca : CE} (hs : UnS C r f) {σ : Sg} {H : Hp} {Q : VK} (h : tE C qa (cUn f ca) σ H Q) : tUn r (tE C qa ca) σ H Q := by
  obtain ⟨O, L, ρ, b0, ρ', env, nd, c, q⟩ := h
  obtain ⟨⟨a, ρ1⟩, c1, c⟩ := Res.of_bind c
  obtain ⟨x, c4, c⟩ := Res.of_bind c
  obtain ⟨w, c6, c⟩ := Res.of_bind c
  cases c
  refine ⟨O, L, ρ, a, ρ', env, nd, c1, fun va H1 O1 L1 La P1 => ?_⟩
  have d : ∀ z ∈ L1, z ∉ La := fun z hz q => (List.nodup_append.mp P1.nd).2.2 z hz z q rfl
  obtain ⟨Lx, rx, _⟩ := cont_rep (T := La) P1.br P1.env (List.nodup_append.mp P1.nd).1 d (fun z hz => hz) c4
  exact hs H1 (Less O1 La) va x w Lx _ rx c6 fun v H' O' Lw rw' g => q v H' O' L1 Lw (post_of P1.env P1.nd P1.st P1.qu g rw')

/-! ### tests -/
abbrev CT := En → Res (Bool × En)
structure PostT (C : Cfg) (σ : Sg) (H : Hp) (O : AP) (L : List Addr) (ρ : En) (qt : Bool) (ρ' : En) (H' : Hp) (O' : AP) (L' : List Addr) : Prop where
  env : EnvR C H' O' ρ' σ L'
  nd : L'.Nodup
  st : Stp H O L H' O' L'
  qu : qt = true → ρ' = ρ ∧ ∀ a o, H a = some o → H' a = some o
def tT (C : Cfg) (qt : Bool) (c : CT) : TT := fun σ H Q => ∃ O L ρ k ρ', EnvR C H O ρ σ L ∧ L.Nodup ∧ c ρ = .ok (k, ρ') ∧ ∀ H' O' L', PostT C σ H O L ρ qt ρ' H' O' L' → Q k H'
def ST (X : Cx) (cl : Nat → Addr) (qt : Bool) (e : Expr) (c : CT) : Prop := PT X e (tT ⟨X.K, cl⟩ qt c)
def boolOf : B → Res Bool
  | .tmp (.fz (.bl k)) => .ok k
  | _ => .err
def cTest (c : CE) : CT := fun ρ => (c ρ).bind fun (b, ρ') => (boolOf b).bind fun k => .ok (k, ρ')
theorem boolOf_ok {b : B} {k : Bool} (h : boolOf b = .ok k) : b = .tmp (.fz (.bl k)) := by
  unfold boolOf at h
  split at h
  · cases h; rfl
  · cases h
theorem test_core {C : Cfg} {qt : Bool} {c : CE} {σ : Sg} {H : Hp} {Q : Bool → Hp → Prop} (h : tT C qt (cTest c) σ H Q) : tE C qt c σ H (fun x H' => ∃ k, x = .bl k ∧ Q k H') := by
  obtain ⟨O, L, ρ, k, ρ', env, nd, c0, q⟩ := h
  obtain ⟨⟨b, ρ1⟩, c1, c0⟩ := Res.of_bind c0
  obtain ⟨k', c2, c0⟩ := Res.of_bind c0
  cases c0
  have eb := boolOf_ok c2
  subst eb
  refine ⟨O, L, ρ, _, ρ', env, nd, c1, fun v H' O' L' Lb P => ?_⟩
  obtain ⟨e1, e2⟩ := P.br
  subst e1
  have nd' := P.nd
  have st' := P.st
  rw [List.append_nil] at nd' st'
  exact ⟨k, e2, q H' O' L' ⟨P.env, nd', st', P.qu⟩⟩
section
variable {X : Cx} {cl : Nat → Addr} {a b c : Expr} {ca cb cc : CE} {qa qb qc : Bool} {pos : Pos}
theorem se_bin {op : Operator} {r : R2} {f : W → W → Res W} (ho : OpR X (binaryOp op) r) (hs : OpS ⟨X.K, cl⟩ r f) (ha : SE X cl qa a ca) (hb : SE X cl qb b cb) : SE X cl (qa && qb) (.BinOp a op b pos) (cBin f qb ca cb) :=
  PE.imp (pe_op ho ha hb) fun σ H Q h => bin_core hs h
theorem se_cmp {op : CmpOp} {r : R2} {f : W → W → Res W} (ho : OpR X (compareOp op) r) (hs : OpS ⟨X.K, cl⟩ r f) (ha : SE X cl qa a ca) (hb : SE X cl qb b cb) (hm : behindInMarks op b = false) : SE X cl (qa && qb) (.Compare a [op] [b] pos) (cBin f qb ca cb) :=
  PE.imp (pe_cmpR ho ha hb hm) fun σ H Q h => bin_core hs h
theorem st_cmp {op : CmpOp} {r : R2} {f : W → W → Res W} (ho : OpR X (compareOp op) r) (hs : OpS ⟨X.K, cl⟩ r f) (ha : SE X cl qa a ca) (hb : SE X cl qb b cb) (hm : behindInMarks op b = false) : ST X cl (qa && qb) (.Compare a [op] [b] pos) (cTest (cBin f qb ca cb)) :=
  PT.imp (pt_cmpR ho ha hb hm) fun σ H Q h => bin_core hs (test_core h)
theorem se_un {op : UnaryOp} {r : V → Hp → VK → Prop} {f : W → Res W} (ho : UnR X (unaryOp op) r) (hs : UnS ⟨X.K, cl⟩ r f) (ha : SE X cl qa a ca) : SE X cl qa (.UnaryOp op a pos) (cUn f ca) :=
  PE.imp (pe_un ho ha) fun σ H Q h => un_core hs h
theorem st_val (ha : SE X cl qa a ca) (he : ∀ whole, isTrue a X.env whole = (do let v ← whole; standAt a.pos; holding [v] (truthy v)) := by intro _; rfl) : ST X cl qa a (cTest ca) :=
  PT.imp (pt_val ha he) fun σ H Q h => test_core h
/-! ### names, constants -/
def cVar (i : Nat) : CE := fun ρ => match ρ[i]? with
  | some (some (.fz d)) => .ok (.tmp (.fz d), ρ)
  | some (some (.lst _)) => .ok (.bor i [], ρ)
  | _ => .err
def cC (d : D) : CE := fun ρ => .ok (.tmp (.fz d), ρ)
theorem PostE.same {C : Cfg} {σ : Sg} {H : Hp} {O : AP} {L : List Addr} {ρ : En} {b : B} {v : V} (env : EnvR C H O ρ σ L) (nd : L.Nodup) (r : BR C H O ρ σ b v []) : PostE C σ H O L ρ true b ρ v H O L [] :=
  ⟨env, r, by rw [List.append_nil]; exact nd, by rw [List.append_nil]; exact Stp.refl _ _ _, fun _ => ⟨rfl, fun _ _ e => e⟩⟩
theorem se_var {i : Nat} {x : Str} (hN : X.N[i]? = some x) (hv : Vis X.env.scope x) (hd : (x == ("__debug__" : Str)) = false := by decide) (hcd : (x == ("__classdict__" : Str)) = false := by decide) : SE X cl true (.Name x pos) (cVar i) := by
  refine PE.imp (pe_var hN hv hd hcd) fun σ H Q h => ?_
  obtain ⟨O, L, ρ, b, ρ', env, nd, c, q⟩ := h
  unfold cVar at c
  cases hi : ρ[i]? with
  | none => rw [hi] at c; cases c
  | some x =>
    rw [hi] at c
    cases x with
    | none => cases c
    | some w =>
      obtain ⟨y, M1, M0, q1, ⟨v, q2, q3⟩, q4, q5⟩ := env.focus hi
      subst q2
      refine ⟨v, q1, ?_⟩
      cases w with
      | fz d =>
        cases c
        obtain ⟨e, r⟩ := q3
        exact q v H O L [] (PostE.same env nd ⟨rfl, r⟩)
      | lst ws =>
        cases c
        exact q v H O L [] (PostE.same env nd ⟨rfl, v, q1, fun _ => rfl, fun z => absurd rfl z⟩)
theorem se_c {e : Expr} {v : V} {d : D} (h : PE X e (tC v)) (r : ∀ H O, RepD ⟨X.K, cl⟩ H O d v) : SE X cl true e (cC d) := by
  refine PE.imp h fun σ H Q h => ?_
  obtain ⟨O, L, ρ, b, ρ', env, nd, c, q⟩ := h
  cases c
  exact q v H O L [] (PostE.same env nd ⟨rfl, r H O⟩)
theorem se_int {i : Int} {j : Nat} : SE X cl true (.Constant (.int i) j pos) (cC (.int i)) := se_c pe_int fun _ _ => rfl
theorem se_bl {b : Bool} {j : Nat} : SE X cl true (.Constant (.bool b) j pos) (cC (.bl b)) := se_c pe_bl fun _ _ => rfl
theorem se_non {j : Nat} : SE X cl true (.Constant .none j pos) (cC .non) := se_c pe_non fun _ _ => rfl
theorem se_str {x : Str} {j : Nat} : SE X cl true (.Constant (.str x) j pos) (cC (.str x)) := se_c pe_str fun _ _ => rfl
end

/-! ### the values' functions -/
section
variable {C : Cfg} {X : Cx}
theorem OpS.or {r r' : R2} {f : W → W → Res W} {g : W → W → Res W} (h : OpS C r f) (h' : OpS C r' g) (k : W → W → Bool) : OpS C (fun x y H Q => r x y H Q ∨ r' x y H Q) (fun x y => if k x y then f x y else g x y) := by
  intro H O x y wx wy w Lx Ly Q rx ry e q
  dsimp only at e
  cases hk : k wx wy with
  | true => rw [hk] at e; exact .inl (h H O x y wx wy w Lx Ly Q rx ry (by simpa using e) q)
  | false => rw [hk] at e; exact .inr (h' H O x y wx wy w Lx Ly Q rx ry (by simpa using e) q)
/-- both ints -/
def fI (g : Int → Int → Res D) : W → W → Res W
  | .fz (.int i), .fz (.int j) => (g i j).bind fun d => .ok (.fz d)
  | _, _ => .err
theorem fI_ok {g : Int → Int → Res D} {x y w : W} (h : fI g x y = .ok w) : ∃ i j d, x = .fz (.int i) ∧ y = .fz (.int j) ∧ g i j = .ok d ∧ w = .fz d := by
  unfold fI at h
  split at h
  · obtain ⟨d, h1, h2⟩ := Res.of_bind h
    cases h2
    exact ⟨_, _, d, rfl, rfl, h1, rfl⟩
  · cases h
theorem gr_same {H : Hp} {O : AP} {d : D} {v : V} {Q : VK} (r : RepD C H O d v) (q : ∀ v H' O' Lw, RepW C H' O' (.fz d) v Lw → Gr H O H' O' Lw → Q v H') : Q v H := q v H O [] ⟨rfl, r⟩ (Gr.refl H O)
theorem ops_I {P : Int → Int → Prop} [∀ i j, Decidable (P i j)] {g : Int → Int → V} {gd : Int → Int → D} (hg : ∀ i j H O, RepD C H O (gd i j) (g i j)) : OpS C (rI P g) (fI fun i j => if P i j then .ok (gd i j) else .err) := by
  intro H O x y wx wy w Lx Ly Q rx ry e q
  obtain ⟨i, j, d, rfl, rfl, e1, rfl⟩ := fI_ok e
  by_cases hp : P i j
  · rw [if_pos hp] at e1; cases e1
    exact ⟨i, j, rx.2, ry.2, hp, gr_same (hg i j H O) q⟩
  · rw [if_neg hp] at e1; cases e1
theorem ops_I0 {g : Int → Int → V} {gd : Int → Int → D} (hg : ∀ i j H O, RepD C H O (gd i j) (g i j)) : OpS C (rI0 g) (fI fun i j => .ok (gd i j)) := by
  intro H O x y wx wy w Lx Ly Q rx ry e q
  obtain ⟨i, j, d, rfl, rfl, e1, rfl⟩ := fI_ok e
  cases e1
  exact ⟨i, j, rx.2, ry.2, gr_same (hg i j H O) q⟩
instance {i j : Int} : Decidable (CMulW i j) := inferInstanceAs (Decidable (_ < _))
instance {i j : Int} : Decidable (CMul i j) := inferInstanceAs (Decidable (_ ∨ _))
instance {i j : Int} : Decidable (CDivW i j) := inferInstanceAs (Decidable (_ ∧ _))
instance {i j : Int} : Decidable (CPow i j) := inferInstanceAs (Decidable (_ ∧ _))
end
end Mi
/-! Mi: argument lists, displays, calls of built-ins -/
namespace Mi
open PySem PySem.Spec PyProof.Rows L2
section
variable {C : Cfg} {H H1 H2 H' : Hp} {O O1 O2 O' : AP} {L L1 L2 L' La Lb M T : List Addr} {ρ ρ1 ρ2 ρ' : En} {σ : Sg} {i : Nat} {p : List Nat} {v : V} {w w1 : W} {b : B} {qb : Bool}
/-- a step within the same heap: something is given up -/
theorem take_rep (h : BR C H O ρ σ b v Lb) (e : EnvR C H O ρ σ L) (nd : (L ++ Lb).Nodup) (c : take b ρ = .ok (w, ρ')) :
    ∃ O' L' Lw, EnvR C H O' ρ' σ L' ∧ RepW C H O' w v Lw ∧ (L' ++ Lw).Nodup ∧ (∀ a, O' a → O a) ∧ (∀ a, a ∈ L' ++ Lw → a ∈ L ++ Lb) ∧ ∀ a, O a → a ∉ L ++ Lb → O' a := by
  cases b with
  | tmp w0 =>
    cases c
    exact ⟨O, L, Lb, e, h, nd, fun _ q => q, fun _ q => q, fun _ q _ => q⟩
  | bor i p =>
    simp only [take] at c
    cases hi : ρ[i]? with
    | none => rw [hi] at c; cases c
    | some x =>
      rw [hi] at c
      cases x with
      | none => cases c
      | some w0 =>
        obtain ⟨w1, c1, c⟩ := Res.of_bind c
        cases c
        have nd1 := (List.nodup_append.mp nd).1
        obtain ⟨M1, M0, r1, r2, r3⟩ := env_path e nd1 h hi (Res.of_ok c1)
        have ndM : (M1 ++ M0).Nodup := r2.nodup_iff.mp nd1
        have d0 : ∀ a ∈ M0, a ∉ M1 := fun a ha z => (List.nodup_append.mp ndM).2.2 a z a ha rfl
        have rd : RepD C H (Less O M1) (frz w1) v := RepW.frz w1 v M1 (fun a q => q) r1
        have own : ∀ a ∈ M0, O a := fun a ha => (e.own a (r2.mem_iff.mpr (by simp [ha]))).1
        obtain ⟨L', p1, p2⟩ := r3 H (Less O M1) (.fz (frz w1)) [] (keep_less d0 own) ⟨rfl, rd⟩
        refine ⟨Less O M1, L', [], p2, ⟨rfl, rd⟩, ?_, fun a q => q.1, fun a q => ?_, fun a q n => ⟨q, fun z => n ?_⟩⟩
        · rw [List.append_nil]
          exact p1.nodup_iff.mpr (List.nodup_append.mp ndM).2.1
        · rw [List.append_nil] at q
          exact List.mem_append_left _ (r2.mem_iff.mpr (by simpa using Or.inr (p1.mem_iff.mp q)))
        · exact List.mem_append_left _ (r2.mem_iff.mpr (by simp [z]))
theorem Stp.ofO (h : ∀ a, O' a → O a) (k : ∀ a, a ∈ L' → a ∈ L) (g : ∀ a, O a → a ∉ L → O' a) : Stp H O L H O' L' :=
  ⟨fun _ _ e _ => e, fun a q => .inl (h a q), fun a _ _ q n => g a q n, fun a q => .inl (k a q), fun a o e => ⟨o, e⟩⟩

/-! ### lists of operands -/
def BRs (C : Cfg) (H : Hp) (O : AP) (ρ : En) (σ : Sg) : List B → List V → List Addr → Prop
  | [], vs, L => vs = [] ∧ L = []
  | b :: bs, vs, L => ∃ v r L1 L2, vs = v :: r ∧ L = L1 ++ L2 ∧ BR C H O ρ σ b v L1 ∧ BRs C H O ρ σ bs r L2
/-- no place within a slot is pending -/
def flatB : B → Bool
  | .bor _ (_ :: _) => false
  | _ => true
theorem BR.keep {bb : B} {vv : V} (f : flatB bb = true) (h : BR C H O ρ σ bb vv T) (k : KeepL H O H' O' T) : BR C H' O' ρ' σ bb vv T := by
  cases bb with
  | tmp w => exact RepW.keep w vv T k h
  | bor i p =>
    obtain ⟨e, v0, h1, h2, h3⟩ := h
    cases p with
    | nil => exact ⟨e, v0, h1, h2, fun z => absurd rfl z⟩
    | cons j r => cases f
theorem BRs.own : ∀ {bs : List B} {vs : List V} {L : List Addr}, BRs C H O ρ σ bs vs L → ∀ a ∈ L, O a ∧ ∃ xs, H a = some (.lst xs)
  | [], vs, L, h, a, ha => by rw [h.2] at ha; simp at ha
  | b :: bs, vs, L, h, a, ha => by
    obtain ⟨v, r, L1, L2, e, e2, h1, h2⟩ := h
    subst e2
    rcases List.mem_append.mp ha with ha | ha
    · cases b with
      | tmp w => exact RepW.own w v L1 h1 a ha
      | bor i p => rw [h1.1] at ha; simp at ha
    · exact BRs.own h2 a ha
end
abbrev CBs := En → Res (List B × En)
structure PostB (C : Cfg) (σ : Sg) (H : Hp) (O : AP) (L : List Addr) (ρ : En) (qt : Bool) (bs : List B) (ρ' : En) (vs : List V) (H' : Hp) (O' : AP) (L' Lb : List Addr) : Prop where
  env : EnvR C H' O' ρ' σ L'
  br : BRs C H' O' ρ' σ bs vs Lb
  nd : (L' ++ Lb).Nodup
  st : Stp H O L H' O' (L' ++ Lb)
  qu : qt = true → ρ' = ρ ∧ ∀ a o, H a = some o → H' a = some o
def tB (C : Cfg) (qt : Bool) (c : CBs) : TA := fun σ H Q => ∃ O L ρ bs ρ', EnvR C H O ρ σ L ∧ L.Nodup ∧ c ρ = .ok (bs, ρ') ∧ ∀ vs H' O' L' Lb, PostB C σ H O L ρ qt bs ρ' vs H' O' L' Lb → Q vs H'
def SB (X : Cx) (cl : Nat → Addr) (qt : Bool) (es : List Expr) (c : CBs) : Prop := PA X es (tB ⟨X.K, cl⟩ qt c)
def cNil : CBs := fun ρ => .ok ([], ρ)
/-- hold: a place within a slot stays pending (the rest must be quiet); else it is taken over at once -/
def early (qb : Bool) : B → En → Res (B × En)
  | .bor i (k :: p), ρ => if qb then .ok (.bor i (k :: p), ρ) else (take (.bor i (k :: p)) ρ).bind fun (w, ρ') => .ok (.tmp w, ρ')
  | b, ρ => .ok (b, ρ)
def cCons (qb : Bool) (ca : CE) (cb : CBs) : CBs := fun ρ =>
  (ca ρ).bind fun (a, ρ1) => (early qb a ρ1).bind fun (a, ρ1) => (cb ρ1).bind fun (bs, ρ2) => .ok (a :: bs, ρ2)
/-- the operands of a star -/
def cStar (ca : CE) (cb : CBs) (sq : W → Option (List D)) : CBs := fun ρ =>
  (ca ρ).bind fun (a, ρ1) => (cont a ρ1).bind fun x => (Res.of (sq x)).bind fun ds => (cb ρ1).bind fun (bs, ρ2) => .ok (ds.map (fun d => B.tmp (.fz d)) ++ bs, ρ2)
section
variable {X : Cx} {cl : Nat → Addr} {e : Expr} {es : List Expr} {ca : CE} {cb : CBs} {qa qb : Bool}
theorem sb_nil : SB X cl true [] cNil := by
  refine PA.imp pa_nil fun σ H Q h => ?_
  obtain ⟨O, L, ρ, bs, ρ', env, nd, c, q⟩ := h
  cases c
  exact q [] H O L [] ⟨env, ⟨rfl, rfl⟩, by rw [List.append_nil]; exact nd, by rw [List.append_nil]; exact Stp.refl _ _ _, fun _ => ⟨rfl, fun _ _ e => e⟩⟩
theorem early_flat {b b' : B} {ρ ρ' : En} (h : early qb b ρ = .ok (b', ρ')) : (b' = b ∧ ρ' = ρ ∧ (qb = true ∨ flatB b = true)) ∨ (qb = false ∧ ∃ w, take b ρ = .ok (w, ρ') ∧ b' = .tmp w) := by
  cases b with
  | tmp w => simp [early] at h; exact .inl ⟨h.1.symm, h.2.symm, .inr rfl⟩
  | bor i p =>
    cases p with
    | nil => simp [early] at h; exact .inl ⟨h.1.symm, h.2.symm, .inr rfl⟩
    | cons k p =>
      cases qb with
      | true => simp [early] at h; exact .inl ⟨h.1.symm, h.2.symm, .inl rfl⟩
      | false =>
        simp only [early] at h
        obtain ⟨⟨w, ρ2⟩, h1, h2⟩ := Res.of_bind h
        cases h2
        exact .inr ⟨rfl, w, h1, rfl⟩
theorem cons_core {C : Cfg} {σ : Sg} {H : Hp} {Q : List V → Hp → Prop} (h : tB C (qa && qb) (cCons qb ca cb) σ H Q) : tCons (tE C qa ca) (tB C qb cb) σ H Q := by
  obtain ⟨O, L, ρ, bs0, ρ', env, nd, c, q⟩ := h
  obtain ⟨⟨a, ρ1⟩, c1, c⟩ := Res.of_bind c
  obtain ⟨⟨a1, ρ1'⟩, c2, c⟩ := Res.of_bind c
  obtain ⟨⟨bs, ρ2⟩, c3, c⟩ := Res.of_bind c
  cases c
  refine ⟨O, L, ρ, a, ρ1, env, nd, c1, fun va H1 O1 L1 La P1 => ?_⟩
  -- behind the operand: either it is pending as it is, or it was taken over
  obtain ⟨O1', L1', La', env1, br1, nd1, st1, fl, qu1⟩ : ∃ O1' L1' La', EnvR C H1 O1' ρ1' σ L1' ∧ BR C H1 O1' ρ1' σ a1 va La' ∧ (L1' ++ La').Nodup ∧ Stp H1 O1 (L1 ++ La) H1 O1' (L1' ++ La') ∧ (qb = true ∨ flatB a1 = true) ∧ (qb = true → ρ1' = ρ1) := by
    rcases early_flat c2 with ⟨e1, e2, f⟩ | ⟨hq, w, t, e1⟩
    · subst e1; subst e2
      exact ⟨O1, L1, La, P1.env, P1.br, P1.nd, Stp.refl _ _ _, f, fun _ => rfl⟩
    · subst e1
      obtain ⟨O', L', Lw, g1, g2, g3, g4, g5, g6⟩ := take_rep P1.br P1.env P1.nd t
      exact ⟨O', L', Lw, g1, g2, g3, Stp.ofO g4 g5 g6, .inr rfl, fun z => by rw [hq] at z; cases z⟩
  have own1 : ∀ z ∈ L1', O1' z := fun z hz => (env1.own z hz).1
  have ndd := List.nodup_append.mp nd1
  refine ⟨O1', L1', ρ1', bs, ρ', env1, ndd.1, c3, fun vb H2 O2 L2 Lb P2 => ?_⟩
  have d : ∀ z ∈ La', z ∉ L1' := fun z hz q => ndd.2.2 z q z hz rfl
  have owA : ∀ z ∈ La', O1' z ∧ ∃ xs, H1 z = some (.lst xs) := by
    cases a1 with
    | tmp w => exact RepW.own w va La' br1
    | bor i p => intro z hz; rw [br1.1] at hz; simp at hz
  have kL : KeepL H1 O1' H2 O2 La' := P2.st.keepL own1 (fun z hz => (owA z hz).1) d
  have br2 : BR C H2 O2 ρ' σ a1 va La' := by
    rcases fl with hq | f
    · cases hf : flatB a1 with
      | true => exact br1.keep hf kL
      | false =>
        cases a1 with
        | tmp w => cases hf
        | bor i p =>
          obtain ⟨e, v0, h1, h2, h3⟩ := br1
          obtain ⟨g1, g2⟩ := P2.qu hq
          refine ⟨e, v0, h1, h2, fun hp => ?_⟩
          obtain ⟨w0, k1, k2⟩ := h3 hp
          exact ⟨w0, by rw [g1]; exact k1, PathR.ext g2 _ _ _ _ k2⟩
    · exact br1.keep f kL
  have nd2 : (L2 ++ Lb ++ La').Nodup := nodup_frame P2.st P2.nd ndd.2.1 (fun z hz => let ⟨_, xs, e⟩ := owA z hz; ⟨_, e⟩) d
  have pm : (L2 ++ Lb ++ La').Perm (L2 ++ (La' ++ Lb)) := by
    rw [List.append_assoc]; exact List.Perm.append_left L2 List.perm_append_comm
  refine q (va :: vb) H2 O2 L2 (La' ++ Lb) ⟨P2.env, ⟨va, vb, La', Lb, rfl, rfl, br2, P2.br⟩, pm.nodup_iff.mp nd2, ?_, fun hq => ?_⟩
  · exact ((P1.st.trans st1).trans (P2.st.frame La')).perm fun z hz => pm.mem_iff.mpr hz
  · have hq' : qa = true ∧ qb = true := by simpa using hq
    obtain ⟨g1, g2⟩ := P1.qu hq'.1
    obtain ⟨g3, g4⟩ := P2.qu hq'.2
    exact ⟨g3.trans ((qu1 hq'.2).trans g1), fun z o e => g4 z o (g2 z o e)⟩
theorem sb_cons (ha : SE X cl qa e ca) (hb : SB X cl qb es cb) (hs : starEach (e :: es) X.env = (false, eval e X.env) :: starEach es X.env := by rfl) : SB X cl (qa && qb) (e :: es) (cCons qb ca cb) :=
  PA.imp (pa_cons ha hb hs) fun σ H Q h => cons_core h
end
end Mi
/-! Mi: views, displays, calls of built-ins, tests -/
namespace Mi
open PySem PySem.Spec PyProof.Rows L2

/-! ### sequences as they are read -/
def unfz : List W → Option (List D)
  | [] => some []
  | .fz d :: ws => match unfz ws with
    | some ds => some (d :: ds)
    | none => none
  | .lst _ :: _ => none
theorem unfz_map : ∀ {ws : List W} {ds : List D}, unfz ws = some ds → ws = ds.map W.fz
  | [], ds, h => by cases h; rfl
  | .fz d :: ws, ds, h => by
    simp only [unfz] at h
    cases e : unfz ws with
    | none => rw [e] at h; cases h
    | some es => rw [e] at h; cases h; rw [unfz_map e]; rfl
  | .lst _ :: _, ds, h => by cases h
@[simp] theorem unfz_fz : ∀ ds : List D, unfz (ds.map W.fz) = some ds
  | [] => rfl
  | d :: ds => by simp only [List.map_cons, unfz]; rw [unfz_fz ds]
/-- a list that is tracked -/
def lstV : W → Option (List D)
  | .fz (.lst ds) => some ds
  | .lst ws => unfz ws
  | _ => none
def tupV : W → Option (List D)
  | .fz (.tup ds) => some ds
  | _ => none
/-- a list, a tuple, the script -/
def seqV : W → Option (List D)
  | .fz (.lst ds) => some ds
  | .fz (.tup ds) => some ds
  | .fz (.scr ds) => some ds
  | .lst ws => unfz ws
  | _ => none
section
variable {C : Cfg} {H H' : Hp} {O O' : AP} {w : W} {x : V} {L : List Addr} {ds : List D}
theorem lstV_rep (h : RepW C H O w x L) (e : lstV w = some ds) : ∃ a xs, x = .ref a ∧ H a = some (.lst xs) ∧ RepDs C H O ds xs := by
  cases w with
  | fz d =>
    cases d with
    | lst es =>
      cases e
      obtain ⟨_, a, xs, e1, h1, h2, r⟩ := h
      exact ⟨a, xs, e1, h1, r⟩
    | _ => cases e
  | lst ws =>
    have e' := unfz_map (show unfz ws = some ds from e)
    subst e'
    obtain ⟨a, xs, L', e1, h1, h2, h3, r⟩ := h
    exact ⟨a, xs, e1, h1, (RepWs.toD r).1⟩
theorem tupV_rep (h : RepW C H O w x L) (e : tupV w = some ds) : ∃ a xs, x = .ref a ∧ Tp C H O a xs ∧ RepDs C H O ds xs := by
  cases w with
  | fz d =>
    cases d with
    | tup es =>
      cases e
      obtain ⟨_, a, xs, e1, h1, r⟩ := h
      exact ⟨a, xs, e1, h1, r⟩
    | _ => cases e
  | lst ws => cases e
theorem seqV_rep (h : RepW C H O w x L) (e : seqV w = some ds) : ∃ a xs, x = .ref a ∧ (SqL C.K H a xs ∨ SqT C.K H a xs) ∧ RepDs C H O ds xs := by
  cases w with
  | fz d =>
    cases d with
    | lst es =>
      obtain ⟨a, xs, e1, h1, r⟩ := lstV_rep (ds := ds) h e
      exact ⟨a, xs, e1, .inl (SqL.of h1), r⟩
    | tup es =>
      obtain ⟨a, xs, e1, h1, r⟩ := tupV_rep (ds := ds) h e
      exact ⟨a, xs, e1, .inr h1.sq, r⟩
    | scr es =>
      cases e
      obtain ⟨_, a, xs, e1, h1, r⟩ := h
      exact ⟨a, xs, e1, .inl h1.sq, r⟩
    | _ => cases e
  | lst ws =>
    obtain ⟨a, xs, e1, h1, r⟩ := lstV_rep (ds := ds) h e
    exact ⟨a, xs, e1, .inl (SqL.of h1), r⟩
/-- a new tuple, a new list, of shared things -/
theorem new_tup {p : Addr} {xs : List V} (hp : H p = none) (r : RepDs C H O ds xs) : RepW C (upd H p (.tup xs)) (Less O [p]) (.fz (.tup ds)) (.ref p) [] := by
  refine ⟨rfl, p, xs, rfl, .inl ⟨.inl upd_same, fun q => q.2 (by simp)⟩, RepDs.keep (Gr.new (o := .tup xs) hp).keep ds xs r⟩
theorem new_lst {p : Addr} {xs : List V} (hp : H p = none) (r : RepDs C H O ds xs) : RepW C (upd H p (.lst xs)) (fun a => O a ∨ a = p) (.lst (ds.map W.fz)) (.ref p) [p] := by
  exact ⟨p, xs, [], rfl, upd_same, .inr rfl, rfl, RepWs.ofD (RepDs.keep (Gr.newO (o := .lst xs) hp).keep ds xs r)⟩
end
section
variable {X : Cx} {cl : Nat → Addr} {e : Expr} {es : List Expr} {ca : CE} {cb : CBs} {qa qb : Bool} {pos : Pos}
theorem sb_star {p : Pos} (ha : SE X cl qa e ca) (hb : SB X cl qb es cb) (hs : starEach (.Starred e p :: es) X.env = (true, eval e X.env) :: starEach es X.env := by rfl) : SB X cl (qa && qb) (.Starred e p :: es) (cStar ca cb seqV) := by
  refine PA.imp (StX.pa_star ha hb hs) fun σ H Q h => ?_
  obtain ⟨O, L, ρ, bs0, ρ', env, nd, c, q⟩ := h
  obtain ⟨⟨a, ρ1⟩, c1, c⟩ := Res.of_bind c
  obtain ⟨x, c2, c⟩ := Res.of_bind c
  obtain ⟨ds, c3, c⟩ := Res.of_bind c
  obtain ⟨⟨bs, ρ2⟩, c4, c⟩ := Res.of_bind c
  cases c
  refine ⟨O, L, ρ, a, ρ1, env, nd, c1, fun va H1 O1 L1 La P1 => ?_⟩
  have ndd := List.nodup_append.mp P1.nd
  have d : ∀ z ∈ L1, z ∉ La := fun z hz q => ndd.2.2 z hz z q rfl
  obtain ⟨Lx, rx, _⟩ := cont_rep (T := La) P1.br P1.env ndd.1 d (fun z hz => hz) c2
  obtain ⟨p0, xs, e1, hsq, rs⟩ := seqV_rep rx (Res.of_ok c3)
  refine ⟨p0, xs, e1, hsq.symm, ?_⟩
  have env1 := P1.env.less d
  have own1 : ∀ z ∈ L1, Less O1 La z := fun z hz => (env1.own z hz).1
  refine ⟨Less O1 La, L1, ρ1, bs, ρ', env1, ndd.1, c4, fun vb H2 O2 L2 Lb P2 => ?_⟩
  have rs2 := RepDs.keep (P2.st.keep own1) ds xs rs
  have brs : ∀ (ds : List D) (xs : List V), RepDs ⟨X.K, cl⟩ H2 O2 ds xs → BRs ⟨X.K, cl⟩ H2 O2 ρ' σ (ds.map (fun d => B.tmp (.fz d)) ++ bs) (xs ++ vb) Lb := by
    intro ds
    induction ds with
    | nil => intro xs h; rw [show xs = [] from h]; exact P2.br
    | cons d ds ih =>
      intro xs h
      obtain ⟨x, r, e, h1, h2⟩ := h
      subst e
      exact ⟨x, r ++ vb, [], Lb, rfl, rfl, ⟨rfl, h1⟩, ih r h2⟩
  refine q (xs ++ vb) H2 O2 L2 Lb ⟨P2.env, brs ds xs rs2, P2.nd, P1.st.drop.trans P2.st, fun hq => ?_⟩
  have hq' : qa = true ∧ qb = true := by simpa using hq
  obtain ⟨g1, g2⟩ := P1.qu hq'.1
  obtain ⟨g3, g4⟩ := P2.qu hq'.2
  exact ⟨g3.trans g1, fun z o e => g4 z o (g2 z o e)⟩
end
/-! ### displays -/
def takes : List B → En → Res (List W × En)
  | [], ρ => .ok ([], ρ)
  | b :: bs, ρ => (take b ρ).bind fun (w, ρ1) => (takes bs ρ1).bind fun (ws, ρ2) => .ok (w :: ws, ρ2)
def isTmp : B → Bool
  | .tmp _ => true
  | _ => false
section
variable {C : Cfg} {H : Hp} {σ : Sg}
theorem BRs.keep {ρ ρ' : En} {O O' : AP} : ∀ {bs : List B} {vs : List V} {L : List Addr}, bs.all flatB = true → KeepL H O H O' L → BRs C H O ρ σ bs vs L → BRs C H O' ρ' σ bs vs L
  | [], vs, L, f, k, h => h
  | b :: bs, vs, L, f, k, h => by
    obtain ⟨v, r, L1, L2, e, e2, h1, h2⟩ := h
    subst e2
    have f' : flatB b = true ∧ bs.all flatB = true := by simpa using f
    exact ⟨v, r, L1, L2, e, rfl, h1.keep f'.1 (k.sub fun a ha => by simp [ha]), BRs.keep f'.2 (k.sub fun a ha => by simp [ha]) h2⟩
theorem takes_rep : ∀ {bs : List B} {vs : List V} {ws : List W} {ρ ρ' : En} {O : AP} {L Lb : List Addr}, BRs C H O ρ σ bs vs Lb → EnvR C H O ρ σ L → (L ++ Lb).Nodup → bs.all flatB = true → takes bs ρ = .ok (ws, ρ') →
    ∃ O' L' Lw, EnvR C H O' ρ' σ L' ∧ RepWs C H O' ws vs Lw ∧ (L' ++ Lw).Nodup ∧ (∀ a, O' a → O a) ∧ (∀ a, a ∈ L' ++ Lw → a ∈ L ++ Lb) ∧ (∀ a, O a → a ∉ L ++ Lb → O' a) ∧ (bs.all isTmp = true → ρ' = ρ)
  | [], vs, ws, ρ, ρ', O, L, Lb, h, env, nd, f, c => by
    cases c
    rw [h.1, h.2]
    exact ⟨O, L, [], env, ⟨rfl, rfl⟩, by rw [List.append_nil]; exact (List.nodup_append.mp nd).1, fun _ q => q, fun _ q => by simpa using q, fun _ q _ => q, fun _ => rfl⟩
  | b :: bs, vs, ws, ρ, ρ', O, L, Lb, h, env, nd, f, c => by
    obtain ⟨v, r, L1, L2, e, e2, h1, h2⟩ := h
    subst e; subst e2
    have f' : flatB b = true ∧ bs.all flatB = true := by simpa using f
    obtain ⟨⟨w, ρ1⟩, c1, c⟩ := Res.of_bind c
    obtain ⟨⟨ws', ρ2⟩, c2, c⟩ := Res.of_bind c
    cases c
    have nd1 : (L ++ L1).Nodup := by
      rw [← List.append_assoc] at nd
      exact (List.nodup_append.mp nd).1
    have dis : ∀ a ∈ L2, a ∉ L ++ L1 := fun a ha z => by
      rw [← List.append_assoc] at nd
      exact (List.nodup_append.mp nd).2.2 a z a ha rfl
    have nd2 : L2.Nodup := by
      rw [← List.append_assoc] at nd
      exact (List.nodup_append.mp nd).2.1
    obtain ⟨O1, M, Lw, g1, g2, g3, g4, g5, g6⟩ := take_rep h1 env nd1 c1
    have own2 := BRs.own h2
    have k2 : KeepL H O H O1 L2 := ⟨fun a o e n => ⟨e, fun q => n (g4 a q)⟩, fun a ha o e => ⟨e, g6 a (own2 a ha).1 (dis a ha)⟩⟩
    have h2' : BRs C H O1 ρ1 σ bs r (L2) := BRs.keep f'.2 k2 h2
    have ndM : (M ++ L2).Nodup := List.nodup_append.mpr ⟨(List.nodup_append.mp g3).1, nd2, fun a ha b hb e => by subst e; exact dis a hb (g5 a (by simp [ha]))⟩
    obtain ⟨O', L', Lw', k1, k3, k4, k5, k6, k7, k8⟩ := takes_rep h2' g1 ndM f'.2 c2
    have dw : ∀ a ∈ Lw, a ∉ M ++ L2 := fun a ha z => by
      rcases List.mem_append.mp z with z | z
      · exact (List.nodup_append.mp g3).2.2 a z a ha rfl
      · exact dis a z (g5 a (by simp [ha]))
    have ow := RepW.own w v Lw g2
    have rw2 : RepW C H O' w v Lw := RepW.keep w v Lw ⟨fun a o e n => ⟨e, fun q => n (k5 a q)⟩, fun a ha o e => ⟨e, k7 a (ow a ha).1 (dw a ha)⟩⟩ g2
    refine ⟨O', L', Lw ++ Lw', k1, ⟨v, r, Lw, Lw', rfl, rfl, rw2, k3⟩, ?_, fun a q => g4 a (k5 a q), fun a q => ?_, fun a q n => ?_, fun t => ?_⟩
    · have p : (L' ++ Lw' ++ Lw).Perm (L' ++ (Lw ++ Lw')) := by rw [List.append_assoc]; exact List.Perm.append_left L' List.perm_append_comm
      refine p.nodup_iff.mp (List.nodup_append.mpr ⟨k4, (List.nodup_append.mp g3).2.1, fun a ha b hb e => ?_⟩)
      subst e
      exact dw a hb (k6 a ha)
    · rcases List.mem_append.mp q with q | q
      · rcases List.mem_append.mp (k6 a (by simp [q])) with z | z
        · have := g5 a (by simp [z]); simp only [List.mem_append] at this ⊢; rcases this with t | t <;> simp [t]
        · simp [z]
      · rcases List.mem_append.mp q with q | q
        · have := g5 a (by simp [q]); simp only [List.mem_append] at this ⊢; rcases this with t | t <;> simp [t]
        · rcases List.mem_append.mp (k6 a (by simp [q])) with z | z
          · have := g5 a (by simp [z]); simp only [List.mem_append] at this ⊢; rcases this with t | t <;> simp [t]
          · simp [z]
    · have n1 : a ∉ L ++ L1 := fun z => n (by simp only [List.mem_append] at z ⊢; rcases z with t | t <;> simp [t])
      have n2 : a ∉ L2 := fun z => n (by simp [z])
      refine k7 a (g6 a q n1) fun z => ?_
      rcases List.mem_append.mp z with z | z
      · exact n1 (g5 a (by simp [z]))
      · exact n2 z
    · have t' : isTmp b = true ∧ bs.all isTmp = true := by simpa using t
      have e1 : ρ1 = ρ := by
        cases b with
        | tmp w => cases c1; rfl
        | bor i p => cases t'.1
      exact (k8 t'.2).trans e1
end
/-- qd: nothing is taken over -/
def shut (qd : Bool) (bs : List B) : Bool := bs.all flatB && (!qd || bs.all isTmp)
def cTup (qd : Bool) (cb : CBs) : CE := fun ρ => (cb ρ).bind fun (bs, ρ1) => (chk (shut qd bs)).bind fun _ => (takes bs ρ1).bind fun (ws, ρ2) => (chk (decide (ws.length ≤ 16777216))).bind fun _ => .ok (.tmp (.fz (.tup (frzs ws))), ρ2)
def cLst (qd : Bool) (cb : CBs) : CE := fun ρ => (cb ρ).bind fun (bs, ρ1) => (chk (shut qd bs)).bind fun _ => (takes bs ρ1).bind fun (ws, ρ2) => (chk (decide (ws.length ≤ 16777216))).bind fun _ => .ok (.tmp (.lst ws), ρ2)
theorem shut_ok {qd : Bool} {bs : List B} (h : shut qd bs = true) : bs.all flatB = true ∧ (qd = true → bs.all isTmp = true) := by
  unfold shut at h
  obtain ⟨h1, h2⟩ := Bool.and_eq_true_iff.mp h
  refine ⟨h1, fun e => ?_⟩
  subst e
  simpa using h2
section
variable {X : Cx} {cl : Nat → Addr} {es : List Expr} {cb : CBs} {qb qd : Bool} {pos : Pos}
theorem se_tup {k : Nat} (hb : SB X cl qb es cb) : SE X cl (qb && qd) (.Tuple es k pos) (cTup qd cb) := by
  refine PE.imp (pe_tup hb) fun σ H Q h => ?_
  obtain ⟨O, L, ρ, b0, ρ', env, nd, c, q⟩ := h
  obtain ⟨⟨bs, ρ1⟩, c1, c⟩ := Res.of_bind c
  obtain ⟨_, cs, c⟩ := Res.of_bind c
  obtain ⟨hf, ht⟩ := shut_ok (chk_ok cs)
  obtain ⟨⟨ws, ρ2⟩, c2, c⟩ := Res.of_bind c
  obtain ⟨_, c9, c⟩ := Res.of_bind c
  have hl := chk_dec c9
  cases c
  · · 
      refine ⟨O, L, ρ, bs, ρ1, env, nd, c1, fun vs H1 O1 L1 Lb P => ?_⟩
      obtain ⟨O2, L2, Lw, g1, g2, g3, g4, g5, g6, g7⟩ := takes_rep (ρ' := ρ') P.br P.env P.nd hf c2
      refine ⟨by rw [g2.length, sizeLine_eq]; exact hl, fun p hp => ?_⟩
      have rd : RepDs ⟨X.K, cl⟩ H1 (Less O2 Lw) (frzs ws) vs := RepWs.frz ws vs Lw (fun a q => q) g2
      refine q (.ref p) _ _ L2 [] (post_of g1 g3 (P.st.trans (Stp.ofO g4 g5 g6)) (fun hq => ?_) (Gr.new hp) (new_tup hp rd))
      have hq' : qb = true ∧ qd = true := by simpa using hq
      exact ⟨(g7 (ht hq'.2)).trans (P.qu hq'.1).1, (P.qu hq'.1).2⟩
theorem se_lst (hb : SB X cl qb es cb) : SE X cl (qb && qd) (.List es pos) (cLst qd cb) := by
  refine PE.imp (pe_lst hb) fun σ H Q h => ?_
  obtain ⟨O, L, ρ, b0, ρ', env, nd, c, q⟩ := h
  obtain ⟨⟨bs, ρ1⟩, c1, c⟩ := Res.of_bind c
  obtain ⟨_, cs, c⟩ := Res.of_bind c
  obtain ⟨hf, ht⟩ := shut_ok (chk_ok cs)
  obtain ⟨⟨ws, ρ2⟩, c2, c⟩ := Res.of_bind c
  obtain ⟨_, c9, c⟩ := Res.of_bind c
  have hl := chk_dec c9
  cases c
  · · 
      refine ⟨O, L, ρ, bs, ρ1, env, nd, c1, fun vs H1 O1 L1 Lb P => ?_⟩
      obtain ⟨O2, L2, Lw, g1, g2, g3, g4, g5, g6, g7⟩ := takes_rep (ρ' := ρ') P.br P.env P.nd hf c2
      refine ⟨by rw [g2.length, sizeLine_eq]; exact hl, fun p hp => ?_⟩
      have g : Gr H1 O2 (upd H1 p (.lst vs)) (fun a => O2 a ∨ a = p) [p] := Gr.newO hp
      have ow : ∀ a ∈ Lw, O2 a := fun a ha => (RepWs.own ws vs Lw g2 a ha).1
      have ndw := List.nodup_append.mp g3
      refine q (.ref p) _ _ L2 (p :: Lw) ⟨g1.grow g, ⟨p, vs, Lw, rfl, upd_same, .inr rfl, rfl, RepWs.keep ws vs Lw (g.keepL ow) g2⟩, ?_, ?_, fun hq => ?_⟩
      · refine (List.perm_middle (l₁ := L2) (a := p) (l₂ := Lw)).nodup_iff.mpr (List.nodup_cons.mpr ⟨fun z => ?_, g3⟩)
        rcases List.mem_append.mp z with z | z
        · obtain ⟨_, xs, e⟩ := g1.own p z; rw [hp] at e; cases e
        · obtain ⟨_, xs, e⟩ := RepWs.own ws vs Lw g2 p z; rw [hp] at e; cases e
      · refine ((P.st.trans (Stp.ofO g4 g5 g6)).trans g.stp).perm fun a ha => ?_
        simp only [List.mem_append, List.mem_cons, List.mem_singleton, List.not_mem_nil, or_false] at ha ⊢
        rcases ha with ha | ha | ha
        · exact .inl (.inl ha)
        · exact .inr ha
        · exact .inl (.inr ha)
      · have hq' : qb = true ∧ qd = true := by simpa using hq
        exact ⟨(g7 (ht hq'.2)).trans (P.qu hq'.1).1, fun a o e => g.ex a o ((P.qu hq'.1).2 a o e)⟩
end
/-! ### calls of built-ins by values -/
def conts : List B → En → Res (List W)
  | [], _ => .ok []
  | b :: bs, ρ => (cont b ρ).bind fun w => (conts bs ρ).bind fun ws => .ok (w :: ws)
def RepA (C : Cfg) (H : Hp) (O : AP) : List W → List V → Prop
  | [], vs => vs = []
  | w :: ws, vs => ∃ v r L, vs = v :: r ∧ RepW C H O w v L ∧ RepA C H O ws r
theorem conts_rep {C : Cfg} {H : Hp} {O : AP} {ρ : En} {σ : Sg} {L T : List Addr} (e : EnvR C H O ρ σ L) (nd : L.Nodup) (d : ∀ a ∈ L, a ∉ T) : ∀ {bs : List B} {vs : List V} {ws : List W} {Lb : List Addr}, BRs C H O ρ σ bs vs Lb → (∀ a ∈ Lb, a ∈ T) → conts bs ρ = .ok ws → RepA C H (Less O T) ws vs
  | [], vs, ws, Lb, h, s, c => by cases c; exact h.1
  | b :: bs, vs, ws, Lb, h, s, c => by
    obtain ⟨v, r, L1, L2, e1, e2, h1, h2⟩ := h
    subst e2
    obtain ⟨w, c1, c⟩ := Res.of_bind c
    obtain ⟨ws', c2, c⟩ := Res.of_bind c
    cases c
    obtain ⟨Lw, rw', _⟩ := cont_rep h1 e nd d (fun a ha => s a (by simp [ha])) c1
    exact ⟨v, r, Lw, e1, rw', conts_rep e nd d h2 (fun a ha => s a (by simp [ha])) c2⟩
def CallS (C : Cfg) (r : List V → Hp → VK → Prop) (f : List W → Res W) : Prop := ∀ (H : Hp) (O : AP) (vs : List V) (ws : List W) (w : W) (Q : VK), RepA C H O ws vs → f ws = .ok w →
  (∀ v H' O' Lw, RepW C H' O' w v Lw → Gr H O H' O' Lw → Q v H') → r vs H Q
def cCallB (f : List W → Res W) (cb : CBs) : CE := fun ρ => (cb ρ).bind fun (bs, ρ1) => (conts bs ρ1).bind fun ws => (f ws).bind fun w => .ok (.tmp w, ρ1)
theorem callB_core {C : Cfg} {r : List V → Hp → VK → Prop} {f : List W → Res W} {qb : Bool} {cb : CBs} (hs : CallS C r f) {σ : Sg} {H : Hp} {Q : VK} (h : tE C qb (cCallB f cb) σ H Q) : tCB r (tB C qb cb) σ H Q := by
  obtain ⟨O, L, ρ, b0, ρ', env, nd, c, q⟩ := h
  obtain ⟨⟨bs, ρ1⟩, c1, c⟩ := Res.of_bind c
  obtain ⟨ws, c2, c⟩ := Res.of_bind c
  obtain ⟨w, c3, c⟩ := Res.of_bind c
  cases c
  refine ⟨O, L, ρ, bs, ρ', env, nd, c1, fun vs H1 O1 L1 Lb P => ?_⟩
  have ndd := List.nodup_append.mp P.nd
  have d : ∀ z ∈ L1, z ∉ Lb := fun z hz q => ndd.2.2 z hz z q rfl
  exact hs H1 (Less O1 Lb) vs ws w _ (conts_rep P.env ndd.1 d P.br (fun a ha => ha) c2) c3 fun v H' O' Lw rw' g => q v H' O' L1 Lw (post_of P.env P.nd P.st P.qu g rw')
section
variable {X : Cx} {cl : Nat → Addr} {x : Str} {p pos : Pos} {e : Expr} {es : List Expr} {cb : CBs} {qb : Bool} {id T : String} {r : List V → Hp → VK → Prop} {f : List W → Res W}
theorem se_callB (hc : CallR X (.builtin id) r) (hs : CallS ⟨X.K, cl⟩ r f) (hg : Gl X x) (hm : X.mg x = none) (hv : bootBuiltins x = some (.builtin id)) (hb : SB X cl qb (e :: es) cb) (hn : x ≠ "__name__" := by decide) (hdb : (x == ("__debug__" : Str)) = false := by decide)
    (he : starEach (e :: es) X.env = (false, eval e X.env) :: starEach es X.env := by rfl) (hpl : (backTo pos (starEach es X.env)).any (·.1) = false := by rfl) : SE X cl qb (.Call (.Name x p) (e :: es) [] pos) (cCallB f cb) :=
  PE.imp (pe_callB hc hg hm hv hb hn hdb he hpl) fun σ H Q h => callB_core hs h
theorem se_callTy (hc : CallR X (.type T) r) (hs : CallS ⟨X.K, cl⟩ r f) (hg : Gl X x) (hm : X.mg x = none) (hv : bootBuiltins x = some (.type T)) (hb : SB X cl qb (e :: es) cb) (hn : x ≠ "__name__" := by decide) (hdb : (x == ("__debug__" : Str)) = false := by decide)
    (he : starEach (e :: es) X.env = (false, eval e X.env) :: starEach es X.env := by rfl) (hpl : (backTo pos (starEach es X.env)).any (·.1) = false := by rfl) : SE X cl qb (.Call (.Name x p) (e :: es) [] pos) (cCallB f cb) :=
  PE.imp (pe_callTy hc hg hm hv hb hn hdb he hpl) fun σ H Q h => callB_core hs h
end
end Mi
/-! Mi: and, or, not, if; subscripts, slices -/
namespace Mi
open PySem PySem.Spec PyProof.Rows L2
section
variable {C : Cfg} {σ : Sg} {H H1 H2 : Hp} {O O1 O2 : AP} {L L1 L2 : List Addr} {ρ ρ1 ρ2 : En} {qa qb : Bool}
theorem PostT.trans (a : PostT C σ H O L ρ qa ρ1 H1 O1 L1) (b : PostT C σ H1 O1 L1 ρ1 qb ρ2 H2 O2 L2) : PostT C σ H O L ρ (qa && qb) ρ2 H2 O2 L2 :=
  ⟨b.env, b.nd, a.st.trans b.st, fun hq => by
    have hq' : qa = true ∧ qb = true := by simpa using hq
    exact ⟨(b.qu hq'.2).1.trans (a.qu hq'.1).1, fun z o e => (b.qu hq'.2).2 z o ((a.qu hq'.1).2 z o e)⟩⟩
theorem PostT.weak (a : PostT C σ H O L ρ qa ρ1 H1 O1 L1) (h : qb = true → qa = true) : PostT C σ H O L ρ qb ρ1 H1 O1 L1 := ⟨a.env, a.nd, a.st, fun q => a.qu (h q)⟩
theorem PostT.transE {b : B} {v : V} {Lb : List Addr} (a : PostT C σ H O L ρ qa ρ1 H1 O1 L1) (p : PostE C σ H1 O1 L1 ρ1 qb b ρ2 v H2 O2 L2 Lb) : PostE C σ H O L ρ (qa && qb) b ρ2 v H2 O2 L2 Lb :=
  ⟨p.env, p.br, p.nd, a.st.trans p.st, fun hq => by
    have hq' : qa = true ∧ qb = true := by simpa using hq
    exact ⟨(p.qu hq'.2).1.trans (a.qu hq'.1).1, fun z o e => (p.qu hq'.2).2 z o ((a.qu hq'.1).2 z o e)⟩⟩
theorem PostE.weak {b : B} {v : V} {Lb : List Addr} (p : PostE C σ H O L ρ qa b ρ1 v H1 O1 L1 Lb) (h : qb = true → qa = true) : PostE C σ H O L ρ qb b ρ1 v H1 O1 L1 Lb := ⟨p.env, p.br, p.nd, p.st, fun q => p.qu (h q)⟩
end
/-! ### tests -/
def cAndT (ca cb : CT) : CT := fun ρ => (ca ρ).bind fun (k, ρ1) => if k = true then cb ρ1 else .ok (false, ρ1)
def cOrT (ca cb : CT) : CT := fun ρ => (ca ρ).bind fun (k, ρ1) => if k = true then .ok (true, ρ1) else cb ρ1
def cNotT (ca : CT) : CT := fun ρ => (ca ρ).bind fun (k, ρ1) => .ok (!k, ρ1)
def SW (X : Cx) (cl : Nat → Addr) (qt : Bool) (e : Expr) (c : CT) : Prop := PW X e (tT ⟨X.K, cl⟩ qt c)
section
variable {X : Cx} {cl : Nat → Addr} {a b c : Expr} {rest : List Expr} {ca cb : CT} {qa qb : Bool} {pos : Pos}
theorem SW.st (h : SW X cl qa a ca) : ST X cl qa a ca := PW.pt h
theorem sw_and1 (ha : ST X cl qa a ca) : SW X cl qa (.BoolOp .And [a] pos) ca := pw_and1 ha
theorem sw_or1 (ha : ST X cl qa a ca) : SW X cl qa (.BoolOp .Or [a] pos) ca := pw_or1 ha
theorem sw_and (ha : ST X cl qa a ca) (hb : SW X cl qb (.BoolOp .And (b :: rest) pos) cb) : SW X cl (qa && qb) (.BoolOp .And (a :: b :: rest) pos) (cAndT ca cb) := by
  refine PW.imp (pw_and ha hb) fun σ H Q h => ?_
  obtain ⟨O, L, ρ, k, ρ', env, nd, c, q⟩ := h
  obtain ⟨⟨k1, ρ1⟩, c1, c⟩ := Res.of_bind c
  refine ⟨O, L, ρ, k1, ρ1, env, nd, c1, fun H1 O1 L1 P1 => ?_⟩
  cases k1 with
  | true => exact ⟨O1, L1, ρ1, k, ρ', P1.env, P1.nd, c, fun H2 O2 L2 P2 => q H2 O2 L2 (P1.trans P2)⟩
  | false => cases c; exact q H1 O1 L1 (P1.weak fun z => (Bool.and_eq_true_iff.mp z).1)
theorem sw_or (ha : ST X cl qa a ca) (hb : SW X cl qb (.BoolOp .Or (b :: rest) pos) cb) : SW X cl (qa && qb) (.BoolOp .Or (a :: b :: rest) pos) (cOrT ca cb) := by
  refine PW.imp (pw_or ha hb) fun σ H Q h => ?_
  obtain ⟨O, L, ρ, k, ρ', env, nd, c, q⟩ := h
  obtain ⟨⟨k1, ρ1⟩, c1, c⟩ := Res.of_bind c
  refine ⟨O, L, ρ, k1, ρ1, env, nd, c1, fun H1 O1 L1 P1 => ?_⟩
  cases k1 with
  | false => exact ⟨O1, L1, ρ1, k, ρ', P1.env, P1.nd, c, fun H2 O2 L2 P2 => q H2 O2 L2 (P1.trans P2)⟩
  | true => cases c; exact q H1 O1 L1 (P1.weak fun z => (Bool.and_eq_true_iff.mp z).1)
theorem st_not (ha : ST X cl qa a ca) : ST X cl qa (.UnaryOp .Not a pos) (cNotT ca) := by
  refine PT.imp (pt_not ha) fun σ H Q h => ?_
  obtain ⟨O, L, ρ, k, ρ', env, nd, c, q⟩ := h
  obtain ⟨⟨k1, ρ1⟩, c1, c⟩ := Res.of_bind c
  cases c
  exact ⟨O, L, ρ, k1, ρ', env, nd, c1, fun H1 O1 L1 P1 => q H1 O1 L1 P1⟩
end
/-! ### as values -/
def cAnd (ca cb : CE) : CE := fun ρ => (ca ρ).bind fun (a, ρ1) => (boolOf a).bind fun k => if k = true then cb ρ1 else .ok (.tmp (.fz (.bl false)), ρ1)
def cOr (ca cb : CE) : CE := fun ρ => (ca ρ).bind fun (a, ρ1) => (boolOf a).bind fun k => if k = true then .ok (.tmp (.fz (.bl true)), ρ1) else cb ρ1
def cNot (ca : CE) : CE := fun ρ => (ca ρ).bind fun (a, ρ1) => (boolOf a).bind fun k => .ok (.tmp (.fz (.bl (!k))), ρ1)
def cIf (ct : CT) (ca cb : CE) : CE := fun ρ => (ct ρ).bind fun (k, ρ1) => if k = true then ca ρ1 else cb ρ1
/-- a list or itself: x or y of lists -/
def cOrL (ca cb : CE) : CE := fun ρ => (ca ρ).bind fun (a, ρ1) => match a with
  | .tmp (.lst ws) => if ws.isEmpty = true then cb ρ1 else .ok (.tmp (.lst ws), ρ1)
  | _ => .err
section
variable {X : Cx} {cl : Nat → Addr} {a b c : Expr} {rest : List Expr} {ca cb : CE} {ct : CT} {qa qb qc : Bool} {pos : Pos}
theorem PostE.toT {C : Cfg} {σ : Sg} {H H1 : Hp} {O O1 : AP} {L L1 Lb : List Addr} {ρ ρ1 : En} {k : Bool} {v : V} (P : PostE C σ H O L ρ qa (.tmp (.fz (.bl k))) ρ1 v H1 O1 L1 Lb) : v = .bl k ∧ PostT C σ H O L ρ qa ρ1 H1 O1 L1 := by
  obtain ⟨e1, e2⟩ := P.br
  subst e1
  have nd' := P.nd
  have st' := P.st
  rw [List.append_nil] at nd' st'
  exact ⟨e2, P.env, nd', st', P.qu⟩
theorem PostT.toE {C : Cfg} {σ : Sg} {H H1 : Hp} {O O1 : AP} {L L1 : List Addr} {ρ ρ1 : En} (P : PostT C σ H O L ρ qa ρ1 H1 O1 L1) (k : Bool) : PostE C σ H O L ρ qa (.tmp (.fz (.bl k))) ρ1 (.bl k) H1 O1 L1 [] :=
  ⟨P.env, ⟨rfl, rfl⟩, by rw [List.append_nil]; exact P.nd, by rw [List.append_nil]; exact P.st, P.qu⟩
theorem se_one {op : BoolOp} (ha : SE X cl qa a ca) : SE X cl qa (.BoolOp op [a] pos) ca := pe_one ha
theorem se_and (ha : SE X cl qa a ca) (hb : SE X cl qb (.BoolOp .And (b :: rest) pos) cb) : SE X cl (qa && qb) (.BoolOp .And (a :: b :: rest) pos) (cAnd ca cb) := by
  refine PE.imp (pe_and ha hb) fun σ H Q h => ?_
  obtain ⟨O, L, ρ, b0, ρ', env, nd, c, q⟩ := h
  obtain ⟨⟨a0, ρ1⟩, c1, c⟩ := Res.of_bind c
  obtain ⟨k, c2, c⟩ := Res.of_bind c
  have e := boolOf_ok c2
  subst e
  refine ⟨O, L, ρ, _, ρ1, env, nd, c1, fun v H1 O1 L1 La P1 => ?_⟩
  obtain ⟨e, P⟩ := P1.toT
  refine ⟨k, e, ?_⟩
  cases k with
  | true => exact ⟨O1, L1, ρ1, b0, ρ', P.env, P.nd, c, fun v2 H2 O2 L2 Lb P2 => q v2 H2 O2 L2 Lb (P.transE P2)⟩
  | false => cases c; exact q _ H1 O1 L1 [] ((P.toE false).weak fun z => (Bool.and_eq_true_iff.mp z).1)
theorem se_or (ha : SE X cl qa a ca) (hb : SE X cl qb (.BoolOp .Or (b :: rest) pos) cb) : SE X cl (qa && qb) (.BoolOp .Or (a :: b :: rest) pos) (cOr ca cb) := by
  refine PE.imp (pe_or ha hb) fun σ H Q h => ?_
  obtain ⟨O, L, ρ, b0, ρ', env, nd, c, q⟩ := h
  obtain ⟨⟨a0, ρ1⟩, c1, c⟩ := Res.of_bind c
  obtain ⟨k, c2, c⟩ := Res.of_bind c
  have e := boolOf_ok c2
  subst e
  refine ⟨O, L, ρ, _, ρ1, env, nd, c1, fun v H1 O1 L1 La P1 => ?_⟩
  obtain ⟨e, P⟩ := P1.toT
  refine ⟨k, e, ?_⟩
  cases k with
  | false => exact ⟨O1, L1, ρ1, b0, ρ', P.env, P.nd, c, fun v2 H2 O2 L2 Lb P2 => q v2 H2 O2 L2 Lb (P.transE P2)⟩
  | true => cases c; exact q _ H1 O1 L1 [] ((P.toE true).weak fun z => (Bool.and_eq_true_iff.mp z).1)
theorem se_not (ha : SE X cl qa a ca) : SE X cl qa (.UnaryOp .Not a pos) (cNot ca) := by
  refine PE.imp (pe_not ha) fun σ H Q h => ?_
  obtain ⟨O, L, ρ, b0, ρ', env, nd, c, q⟩ := h
  obtain ⟨⟨a0, ρ1⟩, c1, c⟩ := Res.of_bind c
  obtain ⟨k, c2, c⟩ := Res.of_bind c
  have e := boolOf_ok c2
  subst e
  cases c
  refine ⟨O, L, ρ, _, ρ', env, nd, c1, fun v H1 O1 L1 La P1 => ?_⟩
  obtain ⟨e, P⟩ := P1.toT
  exact ⟨k, e, q _ H1 O1 L1 [] (P.toE (!k))⟩
theorem se_if (hc : ST X cl qc c ct) (ha : SE X cl qa a ca) (hb : SE X cl qb b cb) : SE X cl (qc && (qa && qb)) (.IfExp c a b pos) (cIf ct ca cb) := by
  refine PE.imp (pe_ifExp hc ha hb) fun σ H Q h => ?_
  obtain ⟨O, L, ρ, b0, ρ', env, nd, c, q⟩ := h
  obtain ⟨⟨k, ρ1⟩, c1, c⟩ := Res.of_bind c
  refine ⟨O, L, ρ, k, ρ1, env, nd, c1, fun H1 O1 L1 P => ?_⟩
  cases k with
  | true => exact ⟨O1, L1, ρ1, b0, ρ', P.env, P.nd, c, fun v2 H2 O2 L2 Lb P2 => q v2 H2 O2 L2 Lb ((P.transE P2).weak fun z => by revert z; cases qa <;> cases qb <;> cases qc <;> simp)⟩
  | false => exact ⟨O1, L1, ρ1, b0, ρ', P.env, P.nd, c, fun v2 H2 O2 L2 Lb P2 => q v2 H2 O2 L2 Lb ((P.transE P2).weak fun z => by revert z; cases qa <;> cases qb <;> cases qc <;> simp)⟩
theorem se_orL (ha : SE X cl qa a ca) (hb : SE X cl qb (.BoolOp .Or (b :: rest) pos) cb) : SE X cl (qa && qb) (.BoolOp .Or (a :: b :: rest) pos) (cOrL ca cb) := by
  refine PE.imp (pe_orT ha hb) fun σ H Q h => ?_
  obtain ⟨O, L, ρ, b0, ρ', env, nd, c, q⟩ := h
  obtain ⟨⟨a0, ρ1⟩, c1, c⟩ := Res.of_bind c
  dsimp only at c
  split at c
  · rename_i ws
    refine ⟨O, L, ρ, _, ρ1, env, nd, c1, fun v H1 O1 L1 La P1 => ?_⟩
    obtain ⟨p, xs, L', e1, h1, h2, h3, r⟩ := P1.br
    subst e1
    refine ⟨!xs.isEmpty, .inl ⟨xs, SqL.of h1, rfl⟩, ?_⟩
    have hl := r.length
    have he : xs.isEmpty = ws.isEmpty := by cases xs <;> cases ws <;> simp at hl <;> rfl
    rw [he]
    cases hw : ws.isEmpty with
    | true =>
      rw [hw, if_pos rfl] at c
      have ndd := List.nodup_append.mp P1.nd
      have d : ∀ z ∈ L1, z ∉ La := fun z hz q => ndd.2.2 z hz z q rfl
      refine ⟨Less O1 La, L1, ρ1, b0, ρ', P1.env.less d, ndd.1, c, fun v2 H2 O2 L2 Lb P2 => q v2 H2 O2 L2 Lb ⟨P2.env, P2.br, P2.nd, P1.st.drop.trans P2.st, fun hq => ?_⟩⟩
      have hq' : qa = true ∧ qb = true := by simpa using hq
      exact ⟨(P2.qu hq'.2).1.trans (P1.qu hq'.1).1, fun z o e => (P2.qu hq'.2).2 z o ((P1.qu hq'.1).2 z o e)⟩
    | false =>
      rw [hw, if_neg (by decide)] at c
      cases c
      exact q _ H1 O1 L1 La (P1.weak fun z => (Bool.and_eq_true_iff.mp z).1)
  · cases c
end
/-! ### subscripts -/
theorem RepDs.at {C : Cfg} {H : Hp} {O : AP} {ds : List D} {xs : List V} {k : Int} {d : D} (h : RepDs C H O ds xs) (e : atI ds k = some d) : ∃ x, atI xs k = some x ∧ RepD C H O d x := by
  unfold atI at e ⊢
  rw [h.length]
  cases hk : ixN ds.length k with
  | none => rw [hk] at e; cases e
  | some j =>
    rw [hk] at e
    exact h.get (show ds[j]? = some d from e)
def fIdx (x y : W) : Res W := match y with
  | .fz (.int k) => match x with
    | .fz (.str s) => if s.length ≤ 16777216 then match atI s.cps.toList k with
      | some c => .ok (.fz (.str ⟨#[c]⟩))
      | none => .err
      else .err
    | _ => match seqV x with
      | some ds => match atI ds k with
        | some d => .ok (.fz d)
        | none => .err
      | none => .err
  | _ => .err
theorem ops_idx {C : Cfg} : OpS C (rIx C.K) fIdx := by
  intro H O x y wx wy w Lx Ly Q rx ry e q
  unfold fIdx at e
  split at e
  · rename_i k
    split at e
    · rename_i s
      split at e
      · rename_i hs
        split at e
        · rename_i c hc
          cases e
          exact .inr (.inr ⟨s, k, c, rx.2, ry.2, by rw [sizeLine_eq]; exact hs, hc, gr_same (show RepD C H O (.str ⟨#[c]⟩) (.str ⟨#[c]⟩) from rfl) q⟩)
        · cases e
      · cases e
    · split at e
      · rename_i ds hds
        split at e
        · rename_i d hd
          cases e
          obtain ⟨a, xs, e1, h1, r⟩ := seqV_rep rx hds
          obtain ⟨z, hz, rz⟩ := r.at hd
          rcases h1 with h1 | h1
          · exact .inl ⟨a, xs, k, z, e1, ry.2, h1, hz, gr_same rz q⟩
          · exact .inr (.inl ⟨a, xs, k, z, e1, ry.2, h1, hz, gr_same rz q⟩)
        · cases e
      · cases e
  · cases e
end Mi
/-! Mi: statements, targets -/
namespace Mi
open PySem PySem.Spec PyProof.Rows L2

inductive Fl where
  | nx | ret (w : W) | bk | ct
abbrev CS := En → Res (Fl × En)
abbrev KP := Nat → Bool
structure PostS (C : Cfg) (kp : KP) (σ : Sg) (H : Hp) (O : AP) (L : List Addr) (ρ' : En) (σ' : Sg) (H' : Hp) (O' : AP) (L' Lw : List Addr) : Prop where
  env : EnvR C H' O' ρ' σ' L'
  nd : (L' ++ Lw).Nodup
  st : Stp H O L H' O' (L' ++ Lw)
  kp : ∀ i, kp i = true → σ'[i]? = σ[i]?
  ln : σ'.length = σ.length
def EndS (C : Cfg) (Dn : Ends) (σ' : Sg) (H' : Hp) (O' : AP) (Lw : List Addr) : Fl → Prop
  | .nx => Lw = [] → Dn.nx σ' H'
  | .bk => Lw = [] → Dn.bk σ' H'
  | .ct => Lw = [] → Dn.ct σ' H'
  | .ret w => ∀ v, RepW C H' O' w v Lw → Dn.rt v H'
def tS (C : Cfg) (kp : KP) (c : CS) : TS := fun Dn σ H => ∃ O L ρ fl ρ', EnvR C H O ρ σ L ∧ L.Nodup ∧ c ρ = .ok (fl, ρ') ∧ ∀ σ' H' O' L' Lw, PostS C kp σ H O L ρ' σ' H' O' L' Lw → EndS C Dn σ' H' O' Lw fl
def SS (X : Cx) (cl : Nat → Addr) (kp : KP) (st : Stmt) (c : CS) : Prop := PS X st (tS ⟨X.K, cl⟩ kp c)
def SSs (X : Cx) (cl : Nat → Addr) (kp : KP) (st : List Stmt) (c : CS) : Prop := PSs X st (tS ⟨X.K, cl⟩ kp c)
section
variable {C : Cfg} {kp : KP} {σ σ1 σ2 : Sg} {H H1 H2 : Hp} {O O1 O2 : AP} {L L1 L2 Lw : List Addr} {ρ ρ1 ρ2 : En}
theorem PostS.refl (env : EnvR C H O ρ σ L) (nd : L.Nodup) : PostS C kp σ H O L ρ σ H O L [] := ⟨env, by rw [List.append_nil]; exact nd, by rw [List.append_nil]; exact Stp.refl _ _ _, fun _ _ => rfl, rfl⟩
theorem PostS.trans (a : PostS C kp σ H O L ρ1 σ1 H1 O1 L1 []) (b : PostS C kp σ1 H1 O1 L1 ρ2 σ2 H2 O2 L2 Lw) : PostS C kp σ H O L ρ2 σ2 H2 O2 L2 Lw :=
  ⟨b.env, b.nd, by have := a.st; rw [List.append_nil] at this; exact this.trans b.st, fun i h => (b.kp i h).trans (a.kp i h), b.ln.trans a.ln⟩
theorem PostT.toS {qt : Bool} (a : PostT C σ H O L ρ qt ρ1 H1 O1 L1) : PostS C kp σ H O L ρ1 σ H1 O1 L1 [] := ⟨a.env, by rw [List.append_nil]; exact a.nd, by rw [List.append_nil]; exact a.st, fun _ _ => rfl, rfl⟩
theorem PostS.nd1 (a : PostS C kp σ H O L ρ1 σ1 H1 O1 L1 Lw) : L1.Nodup := (List.nodup_append.mp a.nd).1
/-- an expression whose value is let go -/
theorem PostE.toS {qt : Bool} {b : B} {v : V} {Lb : List Addr} (P : PostE C σ H O L ρ qt b ρ1 v H1 O1 L1 Lb) : PostS C kp σ H O L ρ1 σ H1 (Less O1 Lb) L1 [] := by
  have ndd := List.nodup_append.mp P.nd
  exact ⟨P.env.less fun z hz q => ndd.2.2 z hz z q rfl, by rw [List.append_nil]; exact ndd.1, by rw [List.append_nil]; exact P.st.drop, fun _ _ => rfl, rfl⟩
end
def cNext : CS := fun ρ => .ok (.nx, ρ)
def cBrk : CS := fun ρ => .ok (.bk, ρ)
def cCnt : CS := fun ρ => .ok (.ct, ρ)
def cSeq (c1 c2 : CS) : CS := fun ρ => (c1 ρ).bind fun (f, ρ1) => match f with
  | .nx => c2 ρ1
  | f => .ok (f, ρ1)
def cIfS (ct : CT) (c1 c2 : CS) : CS := fun ρ => (ct ρ).bind fun (k, ρ1) => if k = true then c1 ρ1 else c2 ρ1
/-- what a def hands back: a local list goes with its owner -/
def move : B → En → Res (W × En)
  | .bor i [], ρ => match ρ[i]? with
    | some (some w) => .ok (w, ρ.set i none)
    | _ => .err
  | b, ρ => take b ρ
def cRet (c : CE) : CS := fun ρ => (c ρ).bind fun (b, ρ1) => (move b ρ1).bind fun (w, ρ2) => .ok (.ret w, ρ2)
def cDrop (c : CE) : CS := fun ρ => (c ρ).bind fun (_, ρ1) => .ok (.nx, ρ1)
theorem move_rep {C : Cfg} {H : Hp} {σ : Sg} {b : B} {v : V} {w : W} {ρ ρ' : En} {O : AP} {L Lb : List Addr} (h : BR C H O ρ σ b v Lb) (e : EnvR C H O ρ σ L) (nd : (L ++ Lb).Nodup) (c : move b ρ = .ok (w, ρ')) :
    ∃ O' L' Lw, EnvR C H O' ρ' σ L' ∧ RepW C H O' w v Lw ∧ (L' ++ Lw).Nodup ∧ (∀ a, O' a → O a) ∧ (∀ a, a ∈ L' ++ Lw → a ∈ L ++ Lb) ∧ ∀ a, O a → a ∉ L ++ Lb → O' a := by
  have tk : ∀ b, BR C H O ρ σ b v Lb → take b ρ = .ok (w, ρ') → ∃ O' L' Lw, EnvR C H O' ρ' σ L' ∧ RepW C H O' w v Lw ∧ (L' ++ Lw).Nodup ∧ (∀ a, O' a → O a) ∧ (∀ a, a ∈ L' ++ Lw → a ∈ L ++ Lb) ∧ ∀ a, O a → a ∉ L ++ Lb → O' a := fun b h c => take_rep h e nd c
  cases b with
  | tmp w0 => exact tk _ h c
  | bor i p =>
    cases p with
    | cons k p => exact tk _ h c
    | nil =>
      simp only [move] at c
      cases hi : ρ[i]? with
      | none => rw [hi] at c; cases c
      | some x =>
        rw [hi] at c
        cases x with
        | none => cases c
        | some w0 =>
          cases c
          obtain ⟨y, M1, M0, q1, ⟨v0, q2, q3⟩, q4, q5⟩ := e.focus hi
          obtain ⟨eb, v1, h1, h2, _⟩ := h
          subst eb
          rw [q1, q2] at h1; cases h1
          rw [h2 rfl]
          rw [List.append_nil] at nd ⊢
          have ndM : (M1 ++ M0).Nodup := q4.nodup_iff.mp nd
          obtain ⟨L', p1, p2⟩ := q5 H O none (some v0) [] ⟨fun a o e n => ⟨e, n⟩, fun a ha o z => ⟨z, (e.own a (q4.mem_iff.mpr (by simp [ha]))).1⟩⟩ rfl
          rw [q2] at q1
          rw [set_same q1] at p2
          refine ⟨O, L', M1, p2, q3, ?_, fun _ q => q, fun a q => ?_, fun _ q _ => q⟩
          · have pm : (L' ++ M1).Perm (M1 ++ M0) := (List.Perm.append_right M1 p1).trans (by simpa using List.perm_append_comm)
            exact pm.nodup_iff.mpr ndM
          · rcases List.mem_append.mp q with q | q
            · exact q4.mem_iff.mpr (by simpa using Or.inr (p1.mem_iff.mp q))
            · exact q4.mem_iff.mpr (by simp [q])
section
variable {X : Cx} {cl : Nat → Addr} {kp : KP} {st : Stmt} {rest : List Stmt} {c1 c2 : CS} {e : Expr} {ce : CE} {q : Bool} {pos : Pos}
theorem sss_nil : SSs X cl kp [] cNext := by
  refine PSs.imp pss_nil fun Dn σ H h => ?_
  obtain ⟨O, L, ρ, fl, ρ', env, nd, c, q⟩ := h
  cases c
  exact q σ H O L [] (PostS.refl env nd) rfl
theorem sss_cons (h1 : SS X cl kp st c1) (h2 : SSs X cl kp rest c2) : SSs X cl kp (st :: rest) (cSeq c1 c2) := by
  refine PSs.imp (pss_cons h1 h2) fun Dn σ H h => ?_
  obtain ⟨O, L, ρ, fl, ρ', env, nd, c, q⟩ := h
  obtain ⟨⟨f, ρ1⟩, c1', c⟩ := Res.of_bind c
  refine ⟨O, L, ρ, f, ρ1, env, nd, c1', fun σ1 H1 O1 L1 Lw P1 => ?_⟩
  cases f with
  | nx =>
    intro e
    subst e
    exact ⟨O1, L1, ρ1, fl, ρ', P1.env, P1.nd1, c, fun σ2 H2 O2 L2 Lw2 P2 => q σ2 H2 O2 L2 Lw2 (P1.trans P2)⟩
  | ret w => cases c; exact q σ1 H1 O1 L1 Lw P1
  | bk => cases c; exact q σ1 H1 O1 L1 Lw P1
  | ct => cases c; exact q σ1 H1 O1 L1 Lw P1
theorem sss_one (h1 : SS X cl kp st c1) : SSs X cl kp [st] c1 := pss_one h1
theorem ss_pass : SS X cl kp (.Pass pos) cNext := by
  refine PS.imp ps_pass fun Dn σ H h => ?_
  obtain ⟨O, L, ρ, fl, ρ', env, nd, c, q⟩ := h
  cases c
  exact q σ H O L [] (PostS.refl env nd) rfl
theorem ss_break : SS X cl kp (.Break pos) cBrk := by
  refine PS.imp ps_break fun Dn σ H h => ?_
  obtain ⟨O, L, ρ, fl, ρ', env, nd, c, q⟩ := h
  cases c
  exact q σ H O L [] (PostS.refl env nd) rfl
theorem ss_continue : SS X cl kp (.Continue pos) cCnt := by
  refine PS.imp ps_continue fun Dn σ H h => ?_
  obtain ⟨O, L, ρ, fl, ρ', env, nd, c, q⟩ := h
  cases c
  exact q σ H O L [] (PostS.refl env nd) rfl
theorem ss_if {t : Expr} {ct : CT} {a b : List Stmt} (hc : ST X cl q t ct) (ha : SSs X cl kp a c1) (hb : SSs X cl kp b c2) : SS X cl kp (.If t a b pos) (cIfS ct c1 c2) := by
  refine PS.imp (ps_if hc ha hb) fun Dn σ H h => ?_
  obtain ⟨O, L, ρ, fl, ρ', env, nd, c, q⟩ := h
  obtain ⟨⟨k, ρ1⟩, c1', c⟩ := Res.of_bind c
  refine ⟨O, L, ρ, k, ρ1, env, nd, c1', fun H1 O1 L1 P1 => ?_⟩
  cases k with
  | true => exact ⟨O1, L1, ρ1, fl, ρ', P1.env, P1.nd, c, fun σ2 H2 O2 L2 Lw2 P2 => q σ2 H2 O2 L2 Lw2 (P1.toS.trans P2)⟩
  | false => exact ⟨O1, L1, ρ1, fl, ρ', P1.env, P1.nd, c, fun σ2 H2 O2 L2 Lw2 P2 => q σ2 H2 O2 L2 Lw2 (P1.toS.trans P2)⟩
theorem ss_ret (he : SE X cl q e ce) : SS X cl kp (.Return (some e) pos) (cRet ce) := by
  refine PS.imp (ps_ret he) fun Dn σ H h => ?_
  obtain ⟨O, L, ρ, fl, ρ', env, nd, c, q⟩ := h
  obtain ⟨⟨b, ρ1⟩, c1, c⟩ := Res.of_bind c
  obtain ⟨⟨w, ρ2⟩, c2, c⟩ := Res.of_bind c
  cases c
  refine ⟨O, L, ρ, b, ρ1, env, nd, c1, fun v H1 O1 L1 Lb P => ?_⟩
  obtain ⟨O2, L2, Lw, g1, g2, g3, g4, g5, g6⟩ := move_rep P.br P.env P.nd c2
  exact q σ H1 O2 L2 Lw ⟨g1, g3, P.st.trans (Stp.ofO g4 g5 g6), fun _ _ => rfl, rfl⟩ v g2
theorem ss_retN : SS X cl kp (.Return none pos) (cRet (cC .non)) := by
  refine PS.imp ps_retN fun Dn σ H h => ?_
  obtain ⟨O, L, ρ, fl, ρ', env, nd, c, q⟩ := h
  cases c
  exact q σ H O L [] (PostS.refl env nd) .non ⟨rfl, rfl⟩
theorem ss_expr (he : SE X cl q e ce) (hs : swapsWith e none pos.line X.env = pure false := by rfl) : SS X cl kp (.Expr e pos) (cDrop ce) := by
  refine PS.imp (ps_expr he hs) fun Dn σ H h => ?_
  obtain ⟨O, L, ρ, fl, ρ', env, nd, c, q⟩ := h
  obtain ⟨⟨b, ρ1⟩, c1, c⟩ := Res.of_bind c
  cases c
  exact ⟨O, L, ρ, b, ρ', env, nd, c1, fun v H1 O1 L1 Lb P => q σ H1 _ L1 [] P.toS rfl⟩
end

/-! ### targets -/
abbrev CG := W → En → Res En
def gSet (i : Nat) : CG := fun w ρ => (chk (decide (i < ρ.length))).bind fun _ => .ok (ρ.set i (some w))
def tG (C : Cfg) (kp : KP) (g : CG) : TG := fun v σ H Q => ∃ O L Lw ρ w ρ', EnvR C H O ρ σ L ∧ RepW C H O w v Lw ∧ (L ++ Lw).Nodup ∧ g w ρ = .ok ρ' ∧
  ∀ σ' H' O' L', PostS C kp σ H O (L ++ Lw) ρ' σ' H' O' L' [] → Q σ' H'
def SG (X : Cx) (cl : Nat → Addr) (kp : KP) (tg : Expr) (g : CG) : Prop := PG X tg (tG ⟨X.K, cl⟩ kp g)
/-- a slot is stored -/
theorem env_set {C : Cfg} {kp : KP} {σ : Sg} {H : Hp} {O : AP} {L Lw : List Addr} {ρ : En} {i : Nat} {w : W} {v : V} (env : EnvR C H O ρ σ L) (r : RepW C H O w v Lw) (nd : (L ++ Lw).Nodup) (hi : i < ρ.length) (hk : kp i = false) :
    ∃ O' L', PostS C kp σ H O (L ++ Lw) (ρ.set i (some w)) (σ.set i (some v)) H O' L' [] := by
  obtain ⟨y, M1, M0, q1, q2, q4, q5⟩ := env.focus (List.getElem?_eq_getElem hi)
  have pm : (L ++ Lw).Perm (M1 ++ (M0 ++ Lw)) := by rw [← List.append_assoc]; exact q4.append_right Lw
  have ndM : (M1 ++ (M0 ++ Lw)).Nodup := pm.nodup_iff.mp nd
  have ow : ∀ a ∈ L ++ Lw, O a := fun a ha => by
    rcases List.mem_append.mp ha with h | h
    · exact (env.own a h).1
    · exact (RepW.own w v Lw r a h).1
  have dis : ∀ a ∈ M0 ++ Lw, a ∉ M1 := fun a ha z => (List.nodup_append.mp ndM).2.2 a z a ha rfl
  have k0 : KeepL H O H (Less O M1) (M0 ++ Lw) := keep_less dis fun a ha => ow a (pm.mem_iff.mpr (by simp only [List.mem_append] at ha ⊢; exact .inr ha))
  obtain ⟨L', p1, p2⟩ := q5 H (Less O M1) (some w) (some v) Lw (k0.sub fun a ha => by simp [ha]) ⟨v, rfl, RepW.keep w v Lw (k0.sub fun a ha => by simp [ha]) r⟩
  refine ⟨Less O M1, L', p2, ?_, ?_, fun j hj => ?_, List.length_set ..⟩
  · rw [List.append_nil]
    exact (p1.trans List.perm_append_comm).nodup_iff.mpr (List.nodup_append.mp ndM).2.1
  · rw [List.append_nil]
    refine Stp.ofO (fun a q => q.1) (fun a ha => pm.mem_iff.mpr ?_) fun a q n => ⟨q, fun z => n (pm.mem_iff.mpr (by simp [z]))⟩
    have := p1.mem_iff.mp ha
    simp only [List.mem_append] at this ⊢
    rcases this with h | h
    · exact .inr (.inr h)
    · exact .inr (.inl h)
  · have hne : i ≠ j := fun z => by rw [z, hj] at hk; cases hk
    rw [List.getElem?_set_ne hne]
section
variable {X : Cx} {cl : Nat → Addr} {kp : KP} {e : Expr} {ce : CE} {q : Bool} {pos : Pos} {g : CG}
theorem sg_name {i : Nat} {x : Str} (hN : X.N.Nodup) (hi : X.N[i]? = some x) (hx : Loc X.env.scope x) (hk : kp i = false) (hf : X.fn x = true ∨ X.env.scope.names.lookup x = some .local := by first | exact .inl rfl | exact .inr rfl | assumption) : SG X cl kp (.Name x pos) (gSet i) := by
  refine PG.imp (pg_name hN hi hx hf) fun v σ H Q h => ?_
  obtain ⟨O, L, Lw, ρ, w, ρ', env, r, nd, c, q⟩ := h
  obtain ⟨_, c1, c⟩ := Res.of_bind c
  cases c
  obtain ⟨O', L', P⟩ := env_set env r nd (chk_dec c1) hk
  exact q _ H O' L' P
/-- several targets, of a tuple's items -/
abbrev CGs := List D → En → Res En
def gsNil : CGs := fun ds ρ => (chk ds.isEmpty).bind fun _ => .ok ρ
def gsCons (g : CG) (gs : CGs) : CGs := fun ds ρ => match ds with
  | d :: r => (g (.fz d) ρ).bind fun ρ1 => gs r ρ1
  | [] => .err
def tGs (C : Cfg) (kp : KP) (g : CGs) : TGs := fun vs σ H Q => ∃ O L ρ ds ρ', EnvR C H O ρ σ L ∧ RepDs C H O ds vs ∧ L.Nodup ∧ g ds ρ = .ok ρ' ∧ ∀ σ' H' O' L', PostS C kp σ H O L ρ' σ' H' O' L' [] → Q σ' H'
theorem PGs.imp {X : Cx} {e : List Expr} {t t' : TGs} (h : PGs X e t) (k : ∀ v σ H Q, t' v σ H Q → t v σ H Q) : PGs X e t' := ⟨fun pins s σ H v u Q I r q => h.run pins s σ H v u Q I r (k v σ H Q q)⟩
def SGs (X : Cx) (cl : Nat → Addr) (kp : KP) (tgs : List Expr) (g : CGs) : Prop := PGs X tgs (tGs ⟨X.K, cl⟩ kp g)
theorem sgs_nil : SGs X cl kp [] gsNil := by
  refine PGs.imp pgs_nil fun vs σ H Q h => ?_
  obtain ⟨O, L, ρ, ds, ρ', env, r, nd, c, q⟩ := h
  obtain ⟨_, c1, c⟩ := Res.of_bind c
  cases c
  have hd := chk_ok c1
  cases ds with
  | nil => exact ⟨r, q σ H O L (PostS.refl env nd)⟩
  | cons d r => cases hd
theorem sgs_cons {es : List Expr} {gs : CGs} (h1 : SG X cl kp e g) (h2 : SGs X cl kp es gs) (hs : (assignEach (e :: es) X.env).map (·.2) = assign e X.env :: (assignEach es X.env).map (·.2) := by rfl) : SGs X cl kp (e :: es) (gsCons g gs) := by
  refine PGs.imp (pgs_cons h1 h2 hs) fun vs σ H Q h => ?_
  obtain ⟨O, L, ρ, ds, ρ', env, r, nd, c, q⟩ := h
  cases ds with
  | nil => cases c
  | cons d ds =>
    obtain ⟨x, xs, e1, r1, r2⟩ := r
    obtain ⟨ρ1, c1, c2⟩ := Res.of_bind c
    refine ⟨x, xs, e1, O, L, [], ρ, .fz d, ρ1, env, ⟨rfl, r1⟩, by rw [List.append_nil]; exact nd, c1, fun σ1 H1 O1 L1 P1 => ?_⟩
    have st := P1.st
    rw [List.append_nil, List.append_nil] at st
    have own : ∀ a ∈ L, O a := fun a ha => (env.own a ha).1
    refine ⟨O1, L1, ρ1, ds, ρ', P1.env, RepDs.keep (st.keep own) ds xs r2, P1.nd1, c2, fun σ2 H2 O2 L2 P2 => q σ2 H2 O2 L2 ?_⟩
    have P1' : PostS ⟨X.K, cl⟩ kp σ H O L ρ1 σ1 H1 O1 L1 [] := ⟨P1.env, P1.nd, by rw [List.append_nil]; exact st, P1.kp, P1.ln⟩
    exact P1'.trans P2
def gTupG (gs : CGs) : CG := fun w ρ => match w with
  | .fz (.tup ds) => gs ds ρ
  | _ => .err
theorem gsLen : ∀ {n : Nat} {gs : CGs} {ds : List D} {ρ ρ' : En}, True → True := fun _ => trivial
theorem sg_tup {es : List Expr} {k n : Nat} {gs : CGs} (hc : X.calm = true) (h : SGs X cl kp es gs) (hl : ∀ ds ρ ρ', gs ds ρ = .ok ρ' → ds.length = n)
    (hn : (assignEach es X.env).length = n := by rfl) (hst : (assignEach es X.env).findIdx? (·.1) = none := by rfl) : SG X cl kp (.Tuple es k pos) (gTupG gs) := by
  refine PG.imp (pg_tup hc h hn hst) fun v σ H Q hw => ?_
  obtain ⟨O, L, Lw, ρ, w, ρ', env, r, nd, c, q⟩ := hw
  unfold gTupG at c
  split at c
  · rename_i ds
    obtain ⟨eL, a, xs, e1, tp, rs⟩ := r
    subst eL
    rw [List.append_nil] at nd q
    exact ⟨a, xs, e1, tp.sq, by rw [rs.length]; exact hl _ _ _ c, O, L, ρ, ds, ρ', env, rs, nd, c, q⟩
  · cases c
theorem gsNil_len : ∀ ds ρ ρ', gsNil ds ρ = .ok ρ' → ds.length = 0 := fun ds ρ ρ' h => by
  obtain ⟨_, c1, _⟩ := Res.of_bind h
  have := chk_ok c1
  cases ds with
  | nil => rfl
  | cons d r => cases this
theorem gsCons_len {n : Nat} {gs : CGs} (h : ∀ ds ρ ρ', gs ds ρ = .ok ρ' → ds.length = n) : ∀ ds ρ ρ', gsCons g gs ds ρ = .ok ρ' → ds.length = n + 1 := fun ds ρ ρ' c => by
  cases ds with
  | nil => cases c
  | cons d r =>
    obtain ⟨ρ1, _, c2⟩ := Res.of_bind c
    rw [List.length_cons, h _ _ _ c2]
/-! ### assignments -/
def cAsg (g : CG) (c : CE) : CS := fun ρ => (c ρ).bind fun (b, ρ1) => (take b ρ1).bind fun (w, ρ2) => (g w ρ2).bind fun ρ3 => .ok (.nx, ρ3)
theorem asg_core {C : Cfg} {σ : Sg} {H : Hp} {Dn : Ends} (h : tS C kp (cAsg g ce) Dn σ H) : tAsg (tE C q ce) (tG C kp g) Dn σ H := by
  obtain ⟨O, L, ρ, fl, ρ', env, nd, c, q⟩ := h
  obtain ⟨⟨b, ρ1⟩, c1, c⟩ := Res.of_bind c
  obtain ⟨⟨w, ρ2⟩, c2, c⟩ := Res.of_bind c
  obtain ⟨ρ3, c3, c⟩ := Res.of_bind c
  cases c
  refine ⟨O, L, ρ, b, ρ1, env, nd, c1, fun v H1 O1 L1 Lb P => ?_⟩
  obtain ⟨O2, L2, Lw, g1, g2, g3, g4, g5, g6⟩ := take_rep P.br P.env P.nd c2
  refine ⟨O2, L2, Lw, ρ2, w, ρ', g1, g2, g3, c3, fun σ3 H3 O3 L3 P3 => q σ3 H3 O3 L3 [] ⟨P3.env, P3.nd, (P.st.trans (Stp.ofO g4 g5 g6)).trans P3.st, P3.kp, P3.ln⟩ rfl⟩
theorem ss_asg {tg : Expr} (he : SE X cl q e ce) (hg : SG X cl kp tg g) (hs : swapsWithSole [tg] e pos.line X.env = pure false := by rfl) (hw : swappedStores [tg] e X.env = pure none := by rfl)
    (h1 : (assignEach [tg] X.env).map (·.2) = [assign tg X.env] := by rfl) : SS X cl kp (.Assign [tg] e pos) (cAsg g ce) := PS.imp (ps_asg he hg hs hw h1) fun Dn σ H h => asg_core h
end
end Mi
/-! Mi: what is walked; for, while, list comprehensions -/
namespace Mi
open PySem PySem.Spec PyProof.Rows L2

/-- J yields the items ds, whatever happens to things that are not shared -/
def JR (C : Cfg) (H : Hp) (O : AP) (J : It) (ds : List D) : Prop := ∀ (i : Nat) (H1 : Hp) (O1 : AP), Keep H O H1 O1 →
  (∀ d, ds[i]? = some d → J.go i H1 ∧ ∀ x H2, J.yld i H1 x H2 → ∃ O2, Gr H1 O1 H2 O2 [] ∧ RepD C H2 O2 d x) ∧ (ds.length ≤ i → J.stop i H1)
abbrev CI := En → Res (List D × En)
def tI (C : Cfg) (c : CI) : TI := fun σ H R => ∃ O L ρ ds ρ', EnvR C H O ρ σ L ∧ L.Nodup ∧ c ρ = .ok (ds, ρ') ∧
  ∀ J H' O' L', EnvR C H' O' ρ' σ L' → L'.Nodup → Stp H O L H' O' L' → JR C H' O' J ds → R J H'
def SI (X : Cx) (cl : Nat → Addr) (tg iter : Expr) (c : CI) : Prop := PI X tg iter (tI ⟨X.K, cl⟩ c)
theorem Keep.refl (H : Hp) (O : AP) : Keep H O H O := fun a o e n => ⟨e, n⟩
theorem Keep.trans {H H1 H2 : Hp} {O O1 O2 : AP} (a : Keep H O H1 O1) (b : Keep H1 O1 H2 O2) : Keep H O H2 O2 := fun c o e n => b c o (a c o e n).1 (a c o e n).2
/-! ### for -/
def forL (g : CG) (body : CS) : List D → En → Res (Fl × En)
  | [], ρ => .ok (.nx, ρ)
  | d :: ds, ρ => (g (.fz d) ρ).bind fun ρ1 => (body ρ1).bind fun (f, ρ2) => match f with
    | .nx => forL g body ds ρ2
    | .ct => forL g body ds ρ2
    | .bk => .ok (.nx, ρ2)
    | .ret w => .ok (.ret w, ρ2)
def cFor (ci : CI) (g : CG) (body : CS) : CS := fun ρ => (ci ρ).bind fun (ds, ρ1) => forL g body ds ρ1
section
variable {X : Cx} {cl : Nat → Addr} {kp : KP} {tg iter : Expr} {body : List Stmt} {ci : CI} {g : CG} {cb : CS} {pos : Pos}
theorem ss_for (hp : PassesOwn (model X.prog X.w) X.A X.env X.xe) (hc : X.calm = true) (hi : SI X cl tg iter ci) (hg : SG X cl kp tg g) (hb : SSs X cl kp body cb) (hs : ∀ x, foldedSetIterable iter X.env x = pure x := by intro _; rfl) :
    SS X cl kp (.For tg iter body [] pos) (cFor ci g cb) := by
  refine PS.imp (ps_for hp hc hi hg hb hs) fun Dn σ H h => ?_
  obtain ⟨O, L, ρ, fl, ρ', env, nd, c, q⟩ := h
  obtain ⟨⟨ds, ρ1⟩, c1, c⟩ := Res.of_bind c
  refine ⟨O, L, ρ, ds, ρ1, env, nd, c1, fun J H1 O1 L1 env1 nd1 st1 jr => ?_⟩
  refine ⟨fun i m σ2 H2 => m = ds.length - i ∧ i ≤ ds.length ∧ ∃ O2 L2 ρ2, PostS ⟨X.K, cl⟩ kp σ H O L ρ2 σ2 H2 O2 L2 [] ∧ Keep H1 O1 H2 O2 ∧ forL g cb (ds.drop i) ρ2 = .ok (fl, ρ'), ⟨ds.length, by simp, Nat.zero_le _, O1, L1, ρ1, ⟨env1, by rw [List.append_nil]; exact nd1, by rw [List.append_nil]; exact st1, fun _ _ => rfl, rfl⟩, Keep.refl _ _, by simpa using c⟩, ?_⟩
  rintro i m σ2 H2 ⟨rfl, hi, O2, L2, ρ2, P2, k2, c2⟩
  obtain ⟨jgo, jstop⟩ := jr i H2 O2 k2
  by_cases hlt : i < ds.length
  · refine .inr ?_
    have ed : ds.drop i = ds[i] :: ds.drop (i + 1) := List.drop_eq_getElem_cons hlt
    obtain ⟨go, yl⟩ := jgo ds[i] (List.getElem?_eq_getElem hlt)
    rw [ed] at c2
    obtain ⟨ρ3, c3, c2⟩ := Res.of_bind c2
    obtain ⟨⟨f, ρ4⟩, c4, c2⟩ := Res.of_bind c2
    refine ⟨go, fun σ' H' => i + 1 ≤ ds.length ∧ ∃ O' L' ρ'', PostS ⟨X.K, cl⟩ kp σ H O L ρ'' σ' H' O' L' [] ∧ Keep H1 O1 H' O' ∧ forL g cb (ds.drop (i + 1)) ρ'' = .ok (fl, ρ'), fun σ' H' hN => ⟨ds.length - (i + 1), by omega, rfl, hN.1, hN.2⟩, fun x H3 hy => ?_⟩
    obtain ⟨O3, gr, rd⟩ := yl x H3 hy
    have env3 := P2.env.grow gr
    have nd2 := P2.nd1
    have st3 : Stp H2 O2 L2 H3 O3 L2 := by have := gr.stp (L := L2); rw [List.append_nil] at this; exact this
    refine ⟨O3, L2, [], ρ2, .fz ds[i], ρ3, env3, ⟨rfl, rd⟩, by rw [List.append_nil]; exact nd2, c3, fun σ4 H4 O4 L4 P4 => ?_⟩
    have P4' : PostS ⟨X.K, cl⟩ kp σ2 H2 O2 L2 ρ3 σ4 H4 O4 L4 [] := ⟨P4.env, P4.nd, by
      have s4 := P4.st
      rw [List.append_nil, List.append_nil] at s4
      rw [List.append_nil]
      exact st3.trans s4, P4.kp, P4.ln⟩
    have P5 := P2.trans P4'
    refine ⟨O4, L4, ρ3, f, ρ4, P4.env, P4.nd1, c4, fun σ5 H5 O5 L5 Lw P6 => ?_⟩
    have P7 := P5.trans P6
    have own2 : ∀ a ∈ L2, O2 a := fun a ha => (P2.env.own a ha).1
    have own4 : ∀ a ∈ L4, O4 a := fun a ha => (P4.env.own a ha).1
    have k5 : Keep H1 O1 H5 O5 := by
      have s4 := P4'.st
      rw [List.append_nil] at s4
      exact k2.trans ((s4.keep own2).trans (P6.st.keep own4))
    cases f with
    | nx => intro e; subst e; exact ⟨hlt, O5, L5, ρ4, P7, k5, c2⟩
    | ct => intro e; subst e; exact ⟨hlt, O5, L5, ρ4, P7, k5, c2⟩
    | bk => intro e; subst e; cases c2; exact q σ5 H5 O5 L5 [] P7 rfl
    | ret w => cases c2; exact q σ5 H5 O5 L5 Lw P7
  · refine .inl ⟨jstop (by omega), ?_⟩
    rw [List.drop_eq_nil_of_le (by omega)] at c2
    cases c2
    exact q σ2 H2 O2 L2 [] P2 rfl
end
/-! ### while -/
def whileN (ct : CT) (body : CS) : Nat → En → Res (Fl × En)
  | 0, _ => .err
  | n + 1, ρ => (ct ρ).bind fun (k, ρ1) => if k = true then (body ρ1).bind fun (f, ρ2) => (match f with
    | .nx => whileN ct body n ρ2
    | .ct => whileN ct body n ρ2
    | .bk => .ok (.nx, ρ2)
    | .ret w => .ok (.ret w, ρ2)) else .ok (.nx, ρ1)
def cWhile (n : Nat) (ct : CT) (body : CS) : CS := fun ρ => whileN ct body n ρ
section
variable {X : Cx} {cl : Nat → Addr} {kp : KP} {t : Expr} {body : List Stmt} {ct : CT} {cb : CS} {pos : Pos} {qt : Bool} {n : Nat}
theorem ss_while (hp : PassesOwn (model X.prog X.w) X.A X.env X.xe) (ht : ST X cl qt t ct) (hb : SSs X cl kp body cb) : SS X cl kp (.While t body [] pos) (cWhile n ct cb) := by
  refine PS.imp (ps_while hp ht hb) fun Dn σ H h => ?_
  obtain ⟨O, L, ρ, fl, ρ', env, nd, c, q⟩ := h
  refine ⟨fun m σ2 H2 => ∃ O2 L2 ρ2, PostS ⟨X.K, cl⟩ kp σ H O L ρ2 σ2 H2 O2 L2 [] ∧ whileN ct cb m ρ2 = .ok (fl, ρ'), ⟨n, O, L, ρ, PostS.refl env nd, c⟩, ?_⟩
  rintro m σ2 H2 ⟨O2, L2, ρ2, P2, c2⟩
  cases m with
  | zero => cases c2
  | succ m =>
    obtain ⟨⟨k, ρ3⟩, c3, c2⟩ := Res.of_bind c2
    refine ⟨O2, L2, ρ2, k, ρ3, P2.env, P2.nd1, c3, fun H3 O3 L3 P3 => ?_⟩
    have P4 := P2.trans (P3.toS (kp := kp))
    cases k with
    | true =>
      obtain ⟨⟨f, ρ4⟩, c4, c2⟩ := Res.of_bind c2
      refine iteT ?_
      refine ⟨fun σ' H' => ∃ O' L' ρ'', PostS ⟨X.K, cl⟩ kp σ H O L ρ'' σ' H' O' L' [] ∧ whileN ct cb m ρ'' = .ok (fl, ρ'), fun σ' H' hN => ⟨m, by omega, hN⟩, O3, L3, ρ3, f, ρ4, P3.env, P3.nd, c4, fun σ5 H5 O5 L5 Lw P6 => ?_⟩
      have P7 := P4.trans P6
      cases f with
      | nx => intro e; subst e; exact ⟨O5, L5, ρ4, P7, c2⟩
      | ct => intro e; subst e; exact ⟨O5, L5, ρ4, P7, c2⟩
      | bk => intro e; subst e; cases c2; exact q σ5 H5 O5 L5 [] P7 rfl
      | ret w => cases c2; exact q σ5 H5 O5 L5 Lw P7
    | false =>
      refine iteF ?_
      cases c2
      exact q σ2 H3 O3 L3 [] P4 rfl
end
/-! ### the slots of a comprehension's own names -/
def wipeE (ρ : En) : List Nat → En
  | [] => ρ
  | v :: vs => (wipeE ρ vs).set v none
def restE (ρ : En) : List Nat → En → En
  | [], ρ' => ρ'
  | v :: vs, ρ' => restE ρ vs (ρ'.set v ((wipeE ρ vs)[v]?.join))
theorem wipeE_length (ρ : En) : ∀ vs : List Nat, (wipeE ρ vs).length = ρ.length
  | [] => rfl
  | v :: vs => by unfold wipeE; rw [List.length_set, wipeE_length ρ vs]
theorem wipeE_none (ρ : En) : ∀ {vs : List Nat} {v : Nat}, v ∈ vs → v < ρ.length → (wipeE ρ vs)[v]? = some none
  | [], v, h, _ => by simp at h
  | u :: vs, v, h, hl => by
    unfold wipeE
    by_cases e : u = v
    · subst e
      rw [List.getElem?_set_self (by rw [wipeE_length]; exact hl)]
    · rw [List.getElem?_set_ne e]
      rcases List.mem_cons.mp h with z | z
      · exact absurd z.symm e
      · exact wipeE_none ρ z hl
theorem EnvR.split {C : Cfg} {H : Hp} {O : AP} {ρ : En} {σ : Sg} {L : List Addr} (env : EnvR C H O ρ σ L) : ∀ {vs : List Nat}, (∀ v ∈ vs, v < ρ.length) →
    ∃ Lo Li, L.Perm (Lo ++ Li) ∧ EnvR C H O (wipeE ρ vs) (wipe σ vs) Li ∧
      ∀ H' O' ρ'' Li', KeepL H O H' O' Lo → EnvR C H' O' ρ'' (wipe σ vs) Li' → (∀ v ∈ vs, ρ''[v]? = some none) → ∃ L'', L''.Perm (Lo ++ Li') ∧ EnvR C H' O' (restE ρ vs ρ'') σ L''
  | [], _ => ⟨[], L, .refl _, env, fun H' O' ρ'' Li' _ e _ => ⟨Li', .refl _, e⟩⟩
  | v :: vs, hv => by
    obtain ⟨Lo, Li, p, e1, rest⟩ := env.split (vs := vs) fun u hu => hv u (by simp [hu])
    have hl : v < (wipeE ρ vs).length := by rw [wipeE_length]; exact hv v (by simp)
    obtain ⟨y, M1, M0, q1, q2, q4, q5⟩ := e1.focus (List.getElem?_eq_getElem hl)
    obtain ⟨L', p1, p2⟩ := q5 H O none none [] ⟨Keep.refl _ _, fun a ha o z => ⟨z, (e1.own a (q4.mem_iff.mpr (by simp [ha]))).1⟩⟩ rfl
    have pL : L'.Perm M0 := p1
    refine ⟨Lo ++ M1, L', ?_, p2, fun H' O' ρ'' Li' k e hn => ?_⟩
    · rw [List.append_assoc]
      exact p.trans (List.Perm.append_left Lo (q4.trans (List.Perm.append_left M1 pL.symm)))
    · have hy : (wipe σ vs)[v]? = some y := q1
      obtain ⟨y2, N1, N0, g1, g2, g4, g5⟩ := e.focus (hn v (by simp))
      have gN : N1 = [] := g2
      subst gN
      obtain ⟨L2, p3, p4⟩ := g5 H' O' (some (wipeE ρ vs)[v]).join y M1 ⟨Keep.refl _ _, fun a ha o z => ⟨z, (e.own a (g4.mem_iff.mpr (by simp [ha]))).1⟩⟩ (by
        have : SlotR C H' O' (wipeE ρ vs)[v] y M1 := q2.keep (k.sub fun a ha => by simp [ha])
        exact this)
      have es : ((wipe σ vs).set v none).set v y = wipe σ vs := by rw [List.set_set]; exact set_same hy
      have p4' : EnvR C H' O' (ρ''.set v ((wipeE ρ vs)[v]?.join)) (wipe σ vs) L2 := by
        rw [List.getElem?_eq_getElem hl]
        have z : EnvR C H' O' (ρ''.set v (some (wipeE ρ vs)[v]).join) (((wipe σ vs).set v none).set v y) L2 := p4
        rw [es] at z
        exact z
      have hlen : ρ''.length = (wipe σ vs).length := by
        have := e.length
        rw [← this]; show (((wipe σ vs).set v none)).length = _; rw [List.length_set]
      obtain ⟨L3, p5, p6⟩ := rest H' O' _ L2 (k.sub fun a ha => by simp [ha]) p4' fun u hu => by
        by_cases e : v = u
        · subst e
          have hj : ((wipeE ρ vs)[v]?).join = none := by rw [wipeE_none ρ hu (hv v (by simp))]; rfl
          rw [hj, List.getElem?_set_self (by
            obtain ⟨hh, _⟩ := List.getElem?_eq_some_iff.mp (hn v (by simp))
            exact hh)]
        · rw [List.getElem?_set_ne e]
          exact hn u (by simp [hu])
      refine ⟨L3, ?_, p6⟩
      have pp : L2.Perm (M1 ++ Li') := p3.trans (List.Perm.append_left M1 (by simpa using g4.symm))
      rw [List.append_assoc]
      exact p5.trans (List.Perm.append_left Lo pp)
theorem wipe_ext {σ σ' : Sg} : ∀ {vs : List Nat}, σ'.length = σ.length → (∀ i, i ∉ vs → σ'[i]? = σ[i]?) → wipe σ' vs = wipe σ vs := by
  intro vs hl h
  apply List.ext_getElem?
  intro i
  by_cases hi : i ∈ vs
  · have key : ∀ (σ : Sg) (vs : List Nat), i ∈ vs → i < σ.length → (wipe σ vs)[i]? = some none := by
      intro σ vs
      induction vs with
      | nil => intro h _; simp at h
      | cons v vs ih =>
        intro h hl
        unfold wipe
        by_cases e : v = i
        · subst e; rw [List.getElem?_set_self (by rw [wipe_length]; exact hl)]
        · rw [List.getElem?_set_ne e]
          rcases List.mem_cons.mp h with z | z
          · exact absurd z.symm e
          · exact ih z hl
    by_cases hb : i < σ.length
    · rw [key σ vs hi hb, key σ' vs hi (by omega)]
    · rw [List.getElem?_eq_none (by rw [wipe_length]; omega), List.getElem?_eq_none (by rw [wipe_length]; omega)]
  · rw [wipe_out hi, wipe_out hi, h i hi]
theorem wipe_wipe {σ : Sg} {vs : List Nat} : wipe (wipe σ vs) vs = wipe σ vs := wipe_ext (wipe_length σ vs) fun i hi => wipe_out hi
end Mi
/-! Mi: list comprehensions -/
namespace Mi
open PySem PySem.Spec PyProof.Rows L2
def lcL (vs : List Nat) (g : CG) (ct : CT) (ce : CE) : List D → En → Res (List W × En)
  | [], ρ => .ok ([], ρ)
  | d :: ds, ρ => (g (.fz d) ρ).bind fun ρa => (ct ρa).bind fun (k, ρb) => if k = true then (ce ρb).bind fun (b, ρc) => (take b ρc).bind fun (w, ρd) => (lcL vs g ct ce ds (wipeE ρd vs)).bind fun (ws, ρ') => .ok (w :: ws, ρ')
    else lcL vs g ct ce ds (wipeE ρb vs)
def cLc (vs : List Nat) (ci : CI) (g : CG) (ct : CT) (ce : CE) : CE := fun ρ => (ci ρ).bind fun (ds, ρ1) => (chk (vs.all fun v => decide (v < ρ1.length))).bind fun _ => (chk (decide (ds.length ≤ 16777216))).bind fun _ =>
  (lcL vs g ct ce ds (wipeE ρ1 vs)).bind fun (ws, ρ2) => .ok (.tmp (.lst ws), restE ρ1 vs ρ2)
def kpOf (vs : List Nat) : KP := fun i => !vs.contains i
theorem kpOf_out {vs : List Nat} {i : Nat} (h : i ∉ vs) : kpOf vs i = true := by unfold kpOf; simp [h]
section
variable {C : Cfg} {σ : Sg} {H H' : Hp} {O : AP} {L T : List Addr}
/-- a list that is held is changed -/
theorem keep_mut {a : Addr} {o : HO} (h : O a) (d : a ∉ T) (own : ∀ b ∈ T, O b) : KeepL H O (upd H a o) O T :=
  ⟨fun b u e n => ⟨(upd_ne (show b ≠ a from fun z => n (by rw [z]; exact h))).trans e, n⟩, fun b hb u e => ⟨(upd_ne (show b ≠ a from fun z => d (by rw [← z]; exact hb))).trans e, own b hb⟩⟩
theorem Stp.mut {a : Addr} {o u : HO} (ha : a ∈ L) (hu : H a = some u) : Stp H O L (upd H a o) O L :=
  ⟨fun b u e n => (upd_ne (show b ≠ a from fun z => n (by rw [z]; exact ha))).trans e, fun b q => .inl q, fun b u _ q _ => q, fun b q => .inl q, fun b u e => by
    by_cases z : b = a
    · exact ⟨o, by rw [z]; exact upd_same⟩
    · exact ⟨u, by rw [upd_ne z]; exact e⟩⟩
end
def SSTs (X : Cx) (cl : Nat → Addr) (qt : Bool) (ifs : List Expr) (c : CT) : Prop := PTs X ifs (tT ⟨X.K, cl⟩ qt c)
theorem PTs.imp {X : Cx} {e : List Expr} {t t' : TT} (h : PTs X e t) (k : ∀ σ H Q, t' σ H Q → t σ H Q) : PTs X e t' := ⟨fun pins s σ H Q I q => h.run pins s σ H Q I (k σ H Q q)⟩
def cYes : CT := fun ρ => .ok (true, ρ)
section
variable {X : Cx} {cl : Nat → Addr} {elt tg iter : Expr} {ifs : List Expr} {scope : Scope} {own : List (Str × Nat)} {pos : Pos} {ci : CI} {g : CG} {ct : CT} {ce : CE} {qt qe : Bool}
theorem sts_nil : SSTs X cl true [] cYes := by
  refine PTs.imp pts_nil fun σ H Q h => ?_
  obtain ⟨O, L, ρ, k, ρ', env, nd, c, q⟩ := h
  cases c
  exact q H O L ⟨env, nd, Stp.refl _ _ _, fun _ => ⟨rfl, fun _ _ e => e⟩⟩
theorem sts_one {c : Expr} (h : ST X cl qt c ct) : SSTs X cl qt [c] ct := pts_one h
theorem lc_mir {vs : List Nat} {C : Cfg} {σ : Sg} {H : Hp} {Q : VK} (h : tE C false (cLc vs ci g ct ce) σ H Q) : tLc (tI C ci) (tG C (kpOf vs) g) (tT C qt ct) (tE C qe ce) vs σ H Q := by
  obtain ⟨O, L, ρ, b0, ρ', env, nd, c, q⟩ := h
  obtain ⟨⟨ds, ρ1⟩, c1, c⟩ := Res.of_bind c
  obtain ⟨_, cv, c⟩ := Res.of_bind c
  obtain ⟨_, cz, c⟩ := Res.of_bind c
  obtain ⟨⟨ws, ρ2⟩, c2, c⟩ := Res.of_bind c
  cases c
  have hz : ds.length ≤ 16777216 := chk_dec cz
  refine ⟨O, L, ρ, ds, ρ1, env, nd, c1, fun J H1 O1 L1 env1 nd1 st1 jr Dd hD => ?_⟩
  have hv : ∀ v ∈ vs, v < ρ1.length := fun v hv => by
    have := List.all_eq_true.mp (chk_ok cv) v hv
    exact of_decide_eq_true this
  obtain ⟨Lo, Li, pm, envI, rest⟩ := env1.split hv
  have own1 : ∀ a ∈ L1, O1 a := fun a ha => (env1.own a ha).1
  have ndS : (Lo ++ Li).Nodup := pm.nodup_iff.mp nd1
  have ownI : ∀ a ∈ Li, O1 a := fun a ha => own1 a (pm.mem_iff.mpr (by simp [ha]))
  have ownO : ∀ a ∈ Lo, O1 a := fun a ha => own1 a (pm.mem_iff.mpr (by simp [ha]))
  have disO : ∀ a ∈ Lo, a ∉ Li := fun a ha z => (List.nodup_append.mp ndS).2.2 a ha a z rfl
  refine ⟨fun i m H2 => m = ds.length - i ∧ i ≤ ds.length ∧ ∃ O2 L2 ρi wsd wsr La, EnvR C H2 O2 ρi (wipe σ vs) L2 ∧ RepW C H2 O2 (.lst wsd) (.ref Dd) La ∧ (L2 ++ La).Nodup ∧ Stp H1 O1 Li H2 O2 (L2 ++ La) ∧ (∀ v ∈ vs, ρi[v]? = some none) ∧ wsd.length ≤ i ∧
      lcL vs g ct ce (ds.drop i) ρi = .ok (wsr, ρ2) ∧ ws = wsd ++ wsr, ⟨ds.length, by simp, Nat.zero_le _, fun a => O1 a ∨ a = Dd, Li, wipeE ρ1 vs, [], ws, [Dd], ?_, ?_, ?_, ?_, ?_, ?_, ?_, rfl⟩, ?_⟩
  · exact envI.grow (Gr.newO hD)
  · exact ⟨Dd, [], [], rfl, upd_same, .inr rfl, rfl, rfl, rfl⟩
  · refine List.nodup_append.mpr ⟨(List.nodup_append.mp ndS).2.1, by simp, fun a ha b hb e => ?_⟩
    have e2 : b = Dd := by simpa using hb
    subst e; subst e2
    obtain ⟨_, xs, z⟩ := envI.own a ha
    rw [hD] at z; cases z
  · exact (Gr.newO hD).stp
  · exact fun v hv' => wipeE_none ρ1 hv' (hv v hv')
  · exact Nat.zero_le _
  · simpa using c2
  · rintro i m H2 ⟨rfl, hi, O2, L2, ρi, wsd, wsr, La, e2, ra, nd2, st2, hn, hwl, c3, ew⟩
    obtain ⟨jgo, jstop⟩ := jr i H2 O2 (st2.keep ownI)
    have ndd := List.nodup_append.mp nd2
    by_cases hlt : i < ds.length
    · refine .inr ?_
      have ed : ds.drop i = ds[i] :: ds.drop (i + 1) := List.drop_eq_getElem_cons hlt
      obtain ⟨go, yl⟩ := jgo ds[i] (List.getElem?_eq_getElem hlt)
      rw [ed] at c3
      obtain ⟨ρa, c4, c3⟩ := Res.of_bind c3
      obtain ⟨⟨k, ρb⟩, c5, c3⟩ := Res.of_bind c3
      refine ⟨go, fun H' => i + 1 ≤ ds.length ∧ ∃ O2 L2 ρi wsd wsr La, EnvR C H' O2 ρi (wipe σ vs) L2 ∧ RepW C H' O2 (.lst wsd) (.ref Dd) La ∧ (L2 ++ La).Nodup ∧ Stp H1 O1 Li H' O2 (L2 ++ La) ∧ (∀ v ∈ vs, ρi[v]? = some none) ∧ wsd.length ≤ i + 1 ∧
          lcL vs g ct ce (ds.drop (i + 1)) ρi = .ok (wsr, ρ2) ∧ ws = wsd ++ wsr, fun H' hN => ⟨ds.length - (i + 1), by omega, rfl, hN.1, hN.2⟩, fun x H3 hy => ?_⟩
      obtain ⟨O3, gr, rd⟩ := yl x H3 hy
      have env3 := e2.grow gr
      have owA : ∀ a ∈ La, O2 a ∧ ∃ xs, H2 a = some (.lst xs) := RepW.own _ _ _ ra
      have ra3 := RepW.keep _ _ _ (gr.keepL fun a ha => (owA a ha).1) ra
      have st3 : Stp H2 O2 L2 H3 O3 L2 := by have := gr.stp (L := L2); rw [List.append_nil] at this; exact this
      have dA : ∀ a ∈ La, a ∉ L2 := fun a ha z => ndd.2.2 a z a ha rfl
      refine ⟨O3, L2, [], ρi, .fz ds[i], ρa, env3, ⟨rfl, rd⟩, by rw [List.append_nil]; exact ndd.1, c4, fun σ4 H4 O4 L4 P4 => ?_⟩
      have s4 := P4.st
      rw [List.append_nil, List.append_nil] at s4
      have hw4 : wipe σ4 vs = wipe σ vs := by
        rw [← wipe_wipe (σ := σ) (vs := vs)]
        exact wipe_ext P4.ln fun j hj => P4.kp j (kpOf_out hj)
      refine ⟨hw4, O4, L4, ρa, k, ρb, P4.env, P4.nd1, c5, fun H5 O5 L5 P5 => ?_⟩
      -- from the turn's start to behind the tests
      have s25 : Stp H2 O2 L2 H5 O5 L5 := (st3.trans s4).trans P5.st
      have own2 : ∀ a ∈ L2, O2 a := fun a ha => (e2.own a ha).1
      have lens : ∀ {ρx : En} {Hx : Hp} {Ox : AP} {Lx : List Addr}, EnvR C Hx Ox ρx σ4 Lx → ∀ v ∈ vs, v < ρx.length := fun {ρx Hx Ox Lx} ex v hv' => by
        have h1 := ex.length
        have h2 := P4.ln
        have h3 := wipe_length σ vs
        have h4 := env1.length
        have := hv v hv'
        omega
      cases k with
      | true =>
        refine iteT ?_
        obtain ⟨⟨b, ρc⟩, c6, c3⟩ := Res.of_bind c3
        obtain ⟨⟨w, ρd⟩, c7, c3⟩ := Res.of_bind c3
        obtain ⟨⟨ws', ρe⟩, c8, c3⟩ := Res.of_bind c3
        cases c3
        refine ⟨O5, L5, ρb, b, ρc, P5.env, P5.nd, c6, fun y H6 O6 L6 Lb P6 => ?_⟩
        obtain ⟨O7, L7, Lw, g1, g2, g3, g4, g5, g6⟩ := take_rep P6.br P6.env P6.nd c7
        have s67 : Stp H6 O6 (L6 ++ Lb) H6 O7 (L7 ++ Lw) := Stp.ofO g4 g5 g6
        have s27 : Stp H2 O2 L2 H6 O7 (L7 ++ Lw) := (s25.trans P6.st).trans s67
        have ra7 : RepW C H6 O7 (.lst wsd) (.ref Dd) La := RepW.keep _ _ _ (s27.keepL own2 (fun a ha => (owA a ha).1) dA) ra
        have nd7 : (L7 ++ Lw ++ La).Nodup := nodup_frame s27 g3 ndd.2.1 (fun a ha => let ⟨_, xs, e⟩ := owA a ha; ⟨_, e⟩) dA
        obtain ⟨a0, acc, Lacc, ea, h1, h2, h3, racc⟩ := ra7
        cases ea
        subst h3
        have hlen : acc.length = wsd.length := racc.length
        refine ⟨acc, h1, by rw [hlen, sizeLine_eq]; omega, hlt, O7, ?_⟩
        -- the list grows
        have ow7 : ∀ a ∈ L7, O7 a := fun a ha => (g1.own a ha).1
        have owW : ∀ a ∈ Lw, O7 a := fun a ha => (RepW.own w y Lw g2 a ha).1
        have owC : ∀ a ∈ Lacc, O7 a := fun a ha => (RepWs.own wsd acc Lacc racc a ha).1
        have nn := List.nodup_append.mp nd7
        have dD : Dd ∉ L7 ++ Lw := fun z => nn.2.2 Dd z Dd (by simp) rfl
        have dC : Dd ∉ Lacc := (List.nodup_cons.mp nn.2.1).1
        have env8 : EnvR C (upd H6 Dd (.lst (acc ++ [y]))) O7 ρd σ4 L7 := EnvR.keep (keep_mut h2 (fun z => dD (by simp [z])) ow7) g1
        have rw8 : RepW C (upd H6 Dd (.lst (acc ++ [y]))) O7 w y Lw := RepW.keep _ _ _ (keep_mut h2 (fun z => dD (by simp [z])) owW) g2
        have rc8 : RepWs C (upd H6 Dd (.lst (acc ++ [y]))) O7 wsd acc Lacc := RepWs.keep _ _ _ (keep_mut h2 dC owC) racc
        obtain ⟨Lo8, Li8, pm8, envW, _⟩ := env8.split (vs := vs) (lens env8)
        rw [hw4] at envW
        refine ⟨Li8, wipeE ρd vs, wsd ++ [w], ws', Dd :: (Lacc ++ Lw), envW, ⟨Dd, acc ++ [y], Lacc ++ Lw, rfl, upd_same, h2, rfl, RepWs.append rc8 (RepWs.one rw8)⟩, ?_, ?_, fun v hv' => wipeE_none ρd hv' (lens env8 v hv'), by rw [List.length_append]; simp; omega, c8, by rw [ew]; simp⟩
        · have p1 : (L7 ++ (Dd :: (Lacc ++ Lw))).Nodup := by
            have pp : (L7 ++ Lw ++ Dd :: Lacc).Perm (L7 ++ (Dd :: (Lacc ++ Lw))) := by
              rw [List.append_assoc]
              refine List.Perm.append_left L7 ?_
              exact List.perm_append_comm.trans (by simp)
            exact pp.nodup_iff.mp nd7
          have sub : ∀ a ∈ Li8, a ∈ L7 := fun a ha => pm8.mem_iff.mpr (by simp [ha])
          have ndL : Li8.Nodup := (List.nodup_append.mp (pm8.nodup_iff.mp (List.nodup_append.mp p1).1)).2.1
          exact List.nodup_append.mpr ⟨ndL, (List.nodup_append.mp p1).2.1, fun a ha b hb => (List.nodup_append.mp p1).2.2 a (sub a ha) b hb⟩
        · have sm : Stp H6 O7 (L7 ++ Lw ++ (Dd :: Lacc)) (upd H6 Dd (.lst (acc ++ [y]))) O7 (L7 ++ Lw ++ (Dd :: Lacc)) := Stp.mut (by simp) h1
          refine ((st2.trans (s27.frame (Dd :: Lacc))).trans sm).perm fun a ha => ?_
          simp only [List.mem_append, List.mem_cons] at ha ⊢
          rcases ha with ha | ha | ha | ha
          · exact .inl (.inl (pm8.mem_iff.mpr (by simp [ha])))
          · exact .inr (.inl ha)
          · exact .inr (.inr ha)
          · exact .inl (.inr ha)
      | false =>
        refine iteF ?_
        have ra5 : RepW C H5 O5 (.lst wsd) (.ref Dd) La := RepW.keep _ _ _ (s25.keepL own2 (fun a ha => (owA a ha).1) dA) ra
        have nd5 : (L5 ++ La).Nodup := nodup_frame s25 P5.nd ndd.2.1 (fun a ha => let ⟨_, xs, e⟩ := owA a ha; ⟨_, e⟩) dA
        obtain ⟨Lo8, Li8, pm8, envW, _⟩ := P5.env.split (vs := vs) (lens P5.env)
        rw [hw4] at envW
        have sub : ∀ a ∈ Li8, a ∈ L5 := fun a ha => pm8.mem_iff.mpr (by simp [ha])
        refine ⟨hlt, O5, Li8, wipeE ρb vs, wsd, wsr, La, envW, ra5, ?_, ?_, fun v hv' => wipeE_none ρb hv' (lens P5.env v hv'), by omega, c3, ew⟩
        · have ndL : Li8.Nodup := (List.nodup_append.mp (pm8.nodup_iff.mp P5.nd)).2.1
          exact List.nodup_append.mpr ⟨ndL, ndd.2.1, fun a ha b hb => (List.nodup_append.mp nd5).2.2 a (sub a ha) b hb⟩
        · refine (st2.trans (s25.frame La)).perm fun a ha => ?_
          simp only [List.mem_append] at ha ⊢
          rcases ha with ha | ha
          · exact .inl (sub a ha)
          · exact .inr ha
    · refine .inl ⟨jstop (by omega), ?_⟩
      rw [List.drop_eq_nil_of_le (by omega)] at c3
      cases c3
      rw [List.append_nil] at ew
      subst ew
      obtain ⟨L3, p3, env3⟩ := rest H2 O2 ρ2 L2 (st2.keepL ownI ownO disO) e2 hn
      have nd4 : (L2 ++ La ++ Lo).Nodup := nodup_frame st2 nd2 (List.nodup_append.mp ndS).1 (fun a ha => let ⟨_, xs, e⟩ := env1.own a (pm.mem_iff.mpr (by simp [ha])); ⟨_, e⟩) disO
      have pp : (L2 ++ La ++ Lo).Perm (L3 ++ La) := by
        refine List.perm_append_comm.trans ?_
        rw [← List.append_assoc]
        exact List.Perm.append_right La p3.symm
      refine q (.ref Dd) H2 O2 L3 La ⟨env3, ra, pp.nodup_iff.mp nd4, ?_, fun z => by cases z⟩
      have sL : Stp H1 O1 L1 H2 O2 (L3 ++ La) := by
        have s1 : Stp H1 O1 (Li ++ Lo) H2 O2 (L2 ++ La ++ Lo) := st2.frame Lo
        refine ⟨fun a o e n => s1.fr a o e fun z => n (pm.mem_iff.mpr (by simp only [List.mem_append] at z ⊢; exact z.symm)), s1.nw, fun a o e qq n => s1.ol a o e qq fun z => n (pm.mem_iff.mpr (by simp only [List.mem_append] at z ⊢; exact z.symm)), fun a ha => ?_, s1.dm⟩
        rcases s1.ll a (pp.mem_iff.mpr ha) with z | z
        · exact .inl (pm.mem_iff.mpr (by simp only [List.mem_append] at z ⊢; exact z.symm))
        · exact .inr z
      exact st1.trans sL
theorem se_lc (hc : X.calm = true) (hN : X.N.Nodup) (hi : SI X cl tg iter ci) (ok : BlkOk X.N X.env.scope scope own)
    (hg : ∀ (s : Shared) (H : Hp) (A : Addr) (l : List (Str × Addr)) (fp : List Addr), SG (X.blk s H scope (compEnvC scope l A X.env) fp) cl (kpOf (own.map (·.2))) tg g)
    (ht : ∀ (s : Shared) (H : Hp) (A : Addr) (l : List (Str × Addr)) (fp : List Addr), SSTs (X.blk s H scope (compEnvC scope l A X.env) fp) cl qt ifs ct)
    (he : ∀ (s : Shared) (H : Hp) (A : Addr) (l : List (Str × Addr)) (fp : List Addr), SE (X.blk s H scope (compEnvC scope l A X.env) fp) cl qe elt ce) (hs : ∀ x, foldedSetIterable iter X.env x = pure x := by intro _; rfl) :
    SE X cl false (.ListComp elt [⟨tg, iter, ifs, 0⟩] scope pos) (cLc (own.map (·.2)) ci g ct ce) :=
  PE.imp (pe_lc (g := tG ⟨X.K, cl⟩ (kpOf (own.map (fun x : Str × Nat => x.2))) g) (tt := tT ⟨X.K, cl⟩ qt ct) (te := tE ⟨X.K, cl⟩ qe ce) hc hN hi ok hg ht he hs) fun σ H Q h => lc_mir h
theorem ss_setLc {kp : KP} {i : Nat} {y : Str} {py spos : Pos} (hc : X.calm = true) (hN : X.N.Nodup) (hy : X.N[i]? = some y) (hyl : X.env.scope.names.lookup y = some .local) (hk : kp i = false)
    (hsw : swapsWith (.ListComp elt [⟨tg, iter, ifs, 0⟩] scope pos) (some (.Name y py)) spos.line X.env = pure true) (hi : SI X cl tg iter ci) (ok : BlkOk X.N X.env.scope scope own)
    (hg : ∀ (s : Shared) (H : Hp) (A : Addr) (l : List (Str × Addr)) (fp : List Addr), SG (X.blk s H scope (compEnvC scope l A X.env) fp) cl (kpOf (own.map (·.2))) tg g)
    (ht : ∀ (s : Shared) (H : Hp) (A : Addr) (l : List (Str × Addr)) (fp : List Addr), SSTs (X.blk s H scope (compEnvC scope l A X.env) fp) cl qt ifs ct)
    (he : ∀ (s : Shared) (H : Hp) (A : Addr) (l : List (Str × Addr)) (fp : List Addr), SE (X.blk s H scope (compEnvC scope l A X.env) fp) cl qe elt ce) (hs : ∀ x, foldedSetIterable iter X.env x = pure x := by intro _; rfl) :
    SS X cl kp (.Assign [.Name y py] (.ListComp elt [⟨tg, iter, ifs, 0⟩] scope pos) spos) (cAsg (gSet i) (cLc (own.map (·.2)) ci g ct ce)) := by
  refine PS.imp (ps_setLc (g := tG ⟨X.K, cl⟩ (kpOf (own.map (fun x : Str × Nat => x.2))) g) (tt := tT ⟨X.K, cl⟩ qt ct) (te := tE ⟨X.K, cl⟩ qe ce) hc hN hy hyl hsw hi ok hg ht he hs) fun Dn σ H h => ?_
  have h2 := asg_core (q := false) h
  refine lc_mir ?_
  obtain ⟨O, L, ρ, b, ρ', e1, e2, e3, e4⟩ := h2
  refine ⟨O, L, ρ, b, ρ', e1, e2, e3, fun v H' O' L' Lb P => ?_⟩
  obtain ⟨O2, L2, Lw, ρ2, w, ρ3, env, r, nd, c, q⟩ := e4 v H' O' L' Lb P
  obtain ⟨_, c1, c⟩ := Res.of_bind c
  cases c
  obtain ⟨O3, L3, P3⟩ := env_set env r nd (chk_dec c1) hk
  exact q _ H' O3 L3 P3
end
end Mi
/-! Mi: defs and their calls -/
namespace Mi
open PySem PySem.Spec PyProof.Rows L2
abbrev Fn := List W → Res (W × List W)
/-- a def's promise -/
def spM (C : Cfg) (F : Fn) : Sp := fun vs H Q _ => ∃ O L ws r back, RepWs C H O ws vs L ∧ L.Nodup ∧ F ws = .ok (r, back) ∧
  ∀ v H' O' L' Lr, RepW C H' O' r v Lr → RepWs C H' O' back vs L' → (L' ++ Lr).Nodup → Stp H O L H' O' (L' ++ Lr) → Q v H'
/-! ### a def by its body -/
def retOf : Fl → Res W
  | .nx => .ok (.fz .non)
  | .ret w => .ok w
  | _ => .err
/-- what the parameters hold in the end: io: those that the def may change -/
def backs (io : KP) : Nat → List W → En → Res (List W)
  | _, [], _ => .ok []
  | _, _ :: _, [] => .err
  | j, w :: ws, x :: ρ => (if io j = true then Res.of x else match w with
    | .fz d => .ok (.fz d)
    | .lst _ => .err).bind fun w' => (backs io (j + 1) ws ρ).bind fun r => .ok (w' :: r)
def runDef (np ns : Nat) (io : KP) (body : CS) : Fn := fun ws => (chk (ws.length == np)).bind fun _ => (body (ws.map some ++ List.replicate (ns - np) none)).bind fun (f, ρ') => (retOf f).bind fun r => (backs io 0 ws ρ').bind fun bk => .ok (r, bk)
theorem EnvR.start {C : Cfg} {H : Hp} {O : AP} (n : Nat) : ∀ {ws : List W} {vs : List V} {L : List Addr}, RepWs C H O ws vs L → EnvR C H O (ws.map some ++ List.replicate n none) (vs.map some ++ List.replicate n none) L
  | [], vs, L, h => by rw [h.1, h.2]; simpa using EnvR.nones n (List.replicate n none) (by simp)
  | w :: ws, vs, L, h => by
    obtain ⟨x, r, L1, L2, e, e2, h1, h2⟩ := h
    subst e; subst e2
    exact ⟨some x, r.map some ++ List.replicate n none, L1, L2, rfl, rfl, ⟨x, rfl, h1⟩, EnvR.start n h2⟩
theorem backs_rep {C : Cfg} {H H' : Hp} {O O' : AP} {io : KP} (k : Keep H O H' O') : ∀ {j : Nat} {ws : List W} {vs : List V} {ρ : En} {σ : Sg} {L0 L : List Addr} {bk : List W}, RepWs C H O ws vs L0 → EnvR C H' O' ρ σ L → (∀ i, io (j + i) = true → σ[i]? = (vs.map some)[i]? ∨ vs.length ≤ i) → backs io j ws ρ = .ok bk →
    ∃ L', RepWs C H' O' bk vs L' ∧ L'.Sublist L
  | j, [], vs, ρ, σ, L0, L, bk, r, e, hk, c => by cases c; rw [r.1]; exact ⟨[], ⟨rfl, rfl⟩, List.nil_sublist _⟩
  | j, w :: ws, vs, [], σ, L0, L, bk, r, e, hk, c => by cases c
  | j, w :: ws, vs, x :: ρ, σ, L0, L, bk, r, e, hk, c => by
    obtain ⟨v, vr, M1, M2, e1, e2, r1, r2⟩ := r
    obtain ⟨y, σr, N1, N2, e3, e4, s1, s2⟩ := e
    subst e1; subst e3; subst e4
    obtain ⟨w', c1, c⟩ := Res.of_bind c
    obtain ⟨bk', c2, c⟩ := Res.of_bind c
    cases c
    obtain ⟨L', g1, g2⟩ := backs_rep k (j := j + 1) r2 s2 (fun i hi => by
      have := hk (i + 1) (by rw [← hi]; congr 1; omega)
      simpa using this) c2
    by_cases hj : io j = true
    · rw [if_pos hj] at c1
      have ex := Res.of_ok c1
      subst ex
      obtain ⟨v', ey, rv⟩ := s1
      subst ey
      have hv : v' = v := by
        have := hk 0 (by simpa using hj)
        rcases this with z | z
        · simpa using z
        · simp at z
      subst hv
      exact ⟨N1 ++ L', ⟨v', vr, N1, L', rfl, rfl, rv, g1⟩, g2.append_left N1⟩
    · rw [if_neg hj] at c1
      cases w with
      | fz d =>
        cases c1
        exact ⟨L', ⟨v, vr, [], L', rfl, rfl, ⟨rfl, RepD.keep k d v r1.2⟩, g1⟩, (List.nil_append L') ▸ (g2.trans (List.sublist_append_right N1 N2))⟩
      | lst _ => cases c1
theorem def_core {C : Cfg} {N : List Str} {np : Nat} {io : KP} {body : CS} {vs : List V} {H : Hp} {Q : VK} {E : XK} (hio : ∀ i, np ≤ i → io i = false) (hsp : spM C (runDef np N.length io body) vs H Q E) :
    tS C io body { nx := fun _ H' => Q .non H', rt := Q } (L2.start N vs) H := by
  obtain ⟨O, L, ws, r, back, rs, nd, c, q⟩ := hsp
  obtain ⟨_, c1, c⟩ := Res.of_bind c
  obtain ⟨⟨f, ρ'⟩, c2, c⟩ := Res.of_bind c
  obtain ⟨r', c3, c⟩ := Res.of_bind c
  obtain ⟨bk, c4, c⟩ := Res.of_bind c
  cases c
  have hl : ws.length = np := by simpa using chk_ok c1
  have hlv := rs.length
  have env : EnvR C H O (ws.map some ++ List.replicate (N.length - np) none) (L2.start N vs) L := by
    unfold L2.start
    rw [hlv, hl]
    exact EnvR.start _ rs
  refine ⟨O, L, _, f, ρ', env, nd, c2, fun σ' H' O' L' Lw P => ?_⟩
  have own : ∀ a ∈ L, O a := fun a ha => (env.own a ha).1
  obtain ⟨Lb, rb, sb⟩ := backs_rep (io := io) (P.st.keep own) (j := 0) rs P.env (fun i hi => by
    rw [Nat.zero_add] at hi
    have hin : i < np := by
      rcases Nat.lt_or_ge i np with z | z
      · exact z
      · rw [hio i z] at hi; cases hi
    refine .inl ?_
    rw [P.kp i hi]
    unfold L2.start
    rw [List.getElem?_append_left (by rw [List.length_map]; omega)]) c4
  have fin : ∀ v, RepW C H' O' r v Lw → Q v H' := fun v rv => q v H' O' Lb Lw rv rb ((sb.append_right Lw).nodup P.nd) (P.st.perm fun a ha => by
    rcases List.mem_append.mp ha with z | z
    · exact List.mem_append_left _ (sb.subset z)
    · exact List.mem_append_right _ z)
  cases f with
  | nx => intro e; subst e; cases c3; exact fin .non ⟨rfl, rfl⟩
  | ret w => cases c3; exact fun v rv => fin v rv
  | bk => cases c3
  | ct => cases c3
/-! ### calls -/
structure FnM (X : Cx) (cl : Nat → Addr) (x : Str) (F : Fn) : Prop where
  ex : ∃ (k : Nat) (f : Addr) (fd : FuncData) (ps : List Str), FnOk X.prog X.w X.K X.mg X.base CX0 k f fd ps (spM ⟨X.K, cl⟩ F) ∧ Room k X.A ∧ X.mg x = some (.ref f) ∧ PySem.W.keepIn X.K (.ref f) = true ∧ Binds X.K fd ps []
def scal : W → Bool
  | .fz .non => true
  | .fz (.bl _) => true
  | .fz (.int _) => true
  | .fz (.str _) => true
  | _ => false
/-- the arguments are looked at, the answer is plain -/
def cCallV (F : Fn) (cb : CBs) : CE := fun ρ => (cb ρ).bind fun (bs, ρ1) => (conts bs ρ1).bind fun ws => (F (ws.map fun w => .fz (frz w))).bind fun (r, _) => (chk (scal r)).bind fun _ => .ok (.tmp r, ρ1)
/-- the arguments are handed over -/
def cCallP (qd : Bool) (F : Fn) (cb : CBs) : CE := fun ρ => (cb ρ).bind fun (bs, ρ1) => (chk (shut qd bs)).bind fun _ => (takes bs ρ1).bind fun (ws, ρ2) => (F (ws.map fun w => .fz (frz w))).bind fun (r, _) => .ok (.tmp r, ρ2)
theorem scal_rep {C : Cfg} {H H' : Hp} {O O' : AP} {r : W} {v : V} {L : List Addr} (s : scal r = true) (h : RepW C H O r v L) : L = [] ∧ RepW C H' O' r v [] := by
  cases r with
  | lst ws => cases s
  | fz d => cases d <;> first | exact ⟨h.1, rfl, h.2⟩ | cases s
theorem conts_frz {C : Cfg} {H : Hp} {O : AP} {ρ : En} {σ : Sg} {L : List Addr} (e : EnvR C H O ρ σ L) (nd : L.Nodup) : ∀ {bs : List B} {vs : List V} {ws : List W} {Lb T : List Addr}, BRs C H O ρ σ bs vs Lb → (∀ a ∈ Lb, a ∈ T) → (∀ a ∈ L, a ∉ T) → conts bs ρ = .ok ws → RepWs C H (Less O (L ++ T)) (ws.map fun w => .fz (frz w)) vs []
  | [], vs, ws, Lb, T, h, s, d, c => by cases c; exact ⟨h.1, rfl⟩
  | b :: bs, vs, ws, Lb, T, h, s, d, c => by
    obtain ⟨v, r, L1, L2, e1, e2, h1, h2⟩ := h
    subst e2
    obtain ⟨w, c1, c⟩ := Res.of_bind c
    obtain ⟨ws', c2, c⟩ := Res.of_bind c
    cases c
    obtain ⟨Lw, rw', sub⟩ := cont_rep h1 e nd d (fun a ha => s a (by simp [ha])) c1
    refine ⟨v, r, [], [], e1, rfl, ⟨rfl, ?_⟩, conts_frz e nd h2 (fun a ha => s a (by simp [ha])) d c2⟩
    exact RepW.frz w v Lw (fun a q => ⟨⟨q.1, fun z => q.2 (by simp [z])⟩, fun z => q.2 (by simp [sub a z])⟩) rw'
theorem callV_core {C : Cfg} {F : Fn} {cb : CBs} {qb : Bool} {E : XK} {σ : Sg} {H : Hp} {Q : VK} (h : tE C qb (cCallV F cb) σ H Q) : tCall (spM C F) [] E (tB C qb cb) σ H Q := by
  obtain ⟨O, L, ρ, b0, ρ', env, nd, c, q⟩ := h
  obtain ⟨⟨bs, ρ1⟩, c1, c⟩ := Res.of_bind c
  obtain ⟨ws, c2, c⟩ := Res.of_bind c
  obtain ⟨⟨r, bk⟩, c3, c⟩ := Res.of_bind c
  obtain ⟨_, c4, c⟩ := Res.of_bind c
  cases c
  refine ⟨O, L, ρ, bs, ρ', env, nd, c1, fun vs H1 O1 L1 Lb P => ?_⟩
  show spM C F (vs ++ []) H1 Q E
  rw [List.append_nil]
  have ndd := List.nodup_append.mp P.nd
  have d : ∀ z ∈ L1, z ∉ Lb := fun z hz q => ndd.2.2 z hz z q rfl
  have own1 : ∀ a ∈ L1, O1 a := fun a ha => (P.env.own a ha).1
  refine ⟨Less O1 (L1 ++ Lb), [], _, r, bk, conts_frz P.env ndd.1 P.br (fun a ha => ha) d c2, List.nodup_nil, c3, fun v H' O' L' Lr rr rb ndr st => ?_⟩
  obtain ⟨eL, rr'⟩ := scal_rep (H' := H') (O' := fun a => O' a ∨ a ∈ L1) (chk_ok c4) rr
  subst eL
  have kL : KeepL H1 O1 H' (fun a => O' a ∨ a ∈ L1) L1 := by
    refine ⟨fun a o e n => ⟨st.fr a o e (by simp), fun z => ?_⟩, fun a ha o e => ⟨st.fr a o e (by simp), .inr ha⟩⟩
    rcases z with z | z
    · rcases st.nw a z with z | z
      · exact n z.1
      · rw [e] at z; cases z
    · exact n (own1 a z)
  refine q v H' (fun a => O' a ∨ a ∈ L1) L1 [] ⟨EnvR.keep kL P.env, rr', by rw [List.append_nil]; exact ndd.1, ?_, fun hq => ⟨(P.qu hq).1, fun a o e => st.fr a o ((P.qu hq).2 a o e) (by simp)⟩⟩
  rw [List.append_nil]
  refine P.st.trans ⟨fun a o e _ => st.fr a o e (by simp), fun a z => ?_, fun a o e z n => .inl (st.ol a o e ⟨z, n⟩ (by simp)), fun a ha => .inl (by simp [ha]), st.dm⟩
  rcases z with z | z
  · rcases st.nw a z with z | z
    · exact .inl z.1
    · exact .inr z
  · exact .inl (own1 a z)
theorem callP_core {C : Cfg} {F : Fn} {cb : CBs} {qb qd : Bool} {E : XK} {σ : Sg} {H : Hp} {Q : VK} (h : tE C (qb && qd) (cCallP qd F cb) σ H Q) : tCall (spM C F) [] E (tB C qb cb) σ H Q := by
  obtain ⟨O, L, ρ, b0, ρ', env, nd, c, q⟩ := h
  obtain ⟨⟨bs, ρ1⟩, c1, c⟩ := Res.of_bind c
  obtain ⟨_, cs, c⟩ := Res.of_bind c
  obtain ⟨hf, ht⟩ := shut_ok (chk_ok cs)
  obtain ⟨⟨ws, ρ2⟩, c2, c⟩ := Res.of_bind c
  obtain ⟨⟨r, bk⟩, c3, c⟩ := Res.of_bind c
  cases c
  refine ⟨O, L, ρ, bs, ρ1, env, nd, c1, fun vs H1 O1 L1 Lb P => ?_⟩
  show spM C F (vs ++ []) H1 Q E
  rw [List.append_nil]
  obtain ⟨O2, L2, Lw, g1, g2, g3, g4, g5, g6, g7⟩ := takes_rep P.br P.env P.nd hf c2
  have rd : RepDs C H1 (Less O2 Lw) (frzs ws) vs := RepWs.frz ws vs Lw (fun a q => q) g2
  have rs : RepWs C H1 (Less O2 Lw) (ws.map fun w => .fz (frz w)) vs [] := by
    have := RepWs.ofD rd
    rw [frzs_map, List.map_map] at this
    exact this
  have ndw := List.nodup_append.mp g3
  have d2 : ∀ a ∈ L2, a ∉ Lw := fun a ha z => ndw.2.2 a ha a z rfl
  have e2 := g1.less d2
  refine ⟨Less O2 Lw, [], _, r, bk, rs, List.nodup_nil, c3, fun v H' O' L' Lr rr rb ndr st => ?_⟩
  have own2 : ∀ a ∈ L2, Less O2 Lw a := fun a ha => (e2.own a ha).1
  have kL : KeepL H1 (Less O2 Lw) H' O' L2 := st.keepL (by simp) own2 (by simp)
  have nr : (L2 ++ Lr).Nodup := by
    refine List.nodup_append.mpr ⟨ndw.1, (List.nodup_append.mp ndr).2.1, fun a ha b hb e => ?_⟩
    subst e
    rcases st.ll a (by simp [hb]) with z | z
    · simp at z
    · obtain ⟨_, xs, e⟩ := g1.own a ha; rw [z] at e; cases e
  refine q v H' O' L2 Lr ⟨EnvR.keep kL e2, rr, nr, ?_, fun hq => ?_⟩
  · have s1 : Stp H O L H1 (Less O2 Lw) L2 := (P.st.trans (Stp.ofO g4 g5 g6)).drop
    refine s1.trans ⟨fun a o e _ => st.fr a o e (by simp), st.nw, fun a o e z _ => st.ol a o e z (by simp), fun a ha => ?_, st.dm⟩
    rcases List.mem_append.mp ha with ha | ha
    · exact .inl ha
    · rcases st.ll a (by simp [ha]) with z | z
      · simp at z
      · exact .inr z
  · have hq' : qb = true ∧ qd = true := by simpa using hq
    exact ⟨(g7 (ht hq'.2)).trans (P.qu hq'.1).1, fun a o e => st.fr a o ((P.qu hq'.1).2 a o e) (by simp)⟩
end Mi
/-! Mi: calls that change what they are handed; the rules for calls -/
namespace Mi
open PySem PySem.Spec PyProof.Rows L2
def argsIO (io : KP) : Nat → List B → En → Res (List W × En)
  | _, [], ρ => .ok ([], ρ)
  | j, b :: bs, ρ => (if io j = true then move b ρ else (take b ρ).bind fun (w, ρ') => .ok (.fz (frz w), ρ')).bind fun (w, ρ1) => (argsIO io (j + 1) bs ρ1).bind fun (ws, ρ2) => .ok (w :: ws, ρ2)
def put1 (b : B) (w : W) (ρ : En) : Res En := match b with
  | .bor i [] => match ρ[i]? with
    | some none => .ok (ρ.set i (some w))
    | _ => .err
  | .tmp _ => .ok ρ
  | _ => .err
def putB (io : KP) : Nat → List B → List W → En → Res En
  | _, [], _, ρ => .ok ρ
  | _, _ :: _, [], _ => .err
  | j, b :: bs, w :: ws, ρ => (if io j = true then put1 b w ρ else Res.ok ρ).bind fun ρ1 => putB io (j + 1) bs ws ρ1
def cCallIO (F : Fn) (io : KP) (cb : CBs) : CE := fun ρ => (cb ρ).bind fun (bs, ρ1) => (chk (bs.all flatB)).bind fun _ => (argsIO io 0 bs ρ1).bind fun (ws, ρ2) => (F ws).bind fun (r, bk) => (putB io 0 bs bk ρ2).bind fun ρ3 => .ok (.tmp r, ρ3)
section
variable {C : Cfg} {H : Hp} {σ : Sg}
theorem argsIO_rep {io : KP} : ∀ {j : Nat} {bs : List B} {vs : List V} {ws : List W} {ρ ρ' : En} {O : AP} {L Lb : List Addr}, BRs C H O ρ σ bs vs Lb → EnvR C H O ρ σ L → (L ++ Lb).Nodup → bs.all flatB = true → argsIO io j bs ρ = .ok (ws, ρ') →
    ∃ O' L' Lw, EnvR C H O' ρ' σ L' ∧ RepWs C H O' ws vs Lw ∧ (L' ++ Lw).Nodup ∧ (∀ a, O' a → O a) ∧ (∀ a, a ∈ L' ++ Lw → a ∈ L ++ Lb) ∧ ∀ a, O a → a ∉ L ++ Lb → O' a
  | j, [], vs, ws, ρ, ρ', O, L, Lb, h, env, nd, f, c => by
    cases c
    rw [h.1, h.2]
    exact ⟨O, L, [], env, ⟨rfl, rfl⟩, by rw [List.append_nil]; exact (List.nodup_append.mp nd).1, fun _ q => q, fun _ q => by simpa using q, fun _ q _ => q⟩
  | j, b :: bs, vs, ws, ρ, ρ', O, L, Lb, h, env, nd, f, c => by
    obtain ⟨v, r, L1, L2, e, e2, h1, h2⟩ := h
    subst e; subst e2
    have f' : flatB b = true ∧ bs.all flatB = true := by simpa using f
    obtain ⟨⟨w, ρ1⟩, c1, c⟩ := Res.of_bind c
    obtain ⟨⟨ws', ρ2⟩, c2, c⟩ := Res.of_bind c
    cases c
    have nd1 : (L ++ L1).Nodup := by
      rw [← List.append_assoc] at nd
      exact (List.nodup_append.mp nd).1
    have dis : ∀ a ∈ L2, a ∉ L ++ L1 := fun a ha z => by
      rw [← List.append_assoc] at nd
      exact (List.nodup_append.mp nd).2.2 a z a ha rfl
    have nd2 : L2.Nodup := by
      rw [← List.append_assoc] at nd
      exact (List.nodup_append.mp nd).2.1
    obtain ⟨O1, M, Lw, g1, g2, g3, g4, g5, g6⟩ : ∃ O' L' Lw, EnvR C H O' ρ1 σ L' ∧ RepW C H O' w v Lw ∧ (L' ++ Lw).Nodup ∧ (∀ a, O' a → O a) ∧ (∀ a, a ∈ L' ++ Lw → a ∈ L ++ L1) ∧ ∀ a, O a → a ∉ L ++ L1 → O' a := by
      by_cases hj : io j = true
      · rw [if_pos hj] at c1
        exact move_rep h1 env nd1 c1
      · rw [if_neg hj] at c1
        obtain ⟨⟨w0, ρ0⟩, c0, c1⟩ := Res.of_bind c1
        cases c1
        obtain ⟨O1, M, Lw, g1, g2, g3, g4, g5, g6⟩ := take_rep h1 env nd1 c0
        have nn := List.nodup_append.mp g3
        refine ⟨Less O1 Lw, M, [], g1.less (fun a ha z => nn.2.2 a ha a z rfl), ⟨rfl, RepW.frz w0 v Lw (fun a q => q) g2⟩, by rw [List.append_nil]; exact nn.1, fun a q => g4 a q.1, fun a q => g5 a (by rw [List.append_nil] at q; simp [q]), fun a q n => ⟨g6 a q n, fun z => n (g5 a (by simp [z]))⟩⟩
    have own2 := BRs.own h2
    have k2 : KeepL H O H O1 L2 := ⟨fun a o e n => ⟨e, fun q => n (g4 a q)⟩, fun a ha o e => ⟨e, g6 a (own2 a ha).1 (dis a ha)⟩⟩
    have h2' : BRs C H O1 ρ1 σ bs r (L2) := BRs.keep f'.2 k2 h2
    have ndM : (M ++ L2).Nodup := List.nodup_append.mpr ⟨(List.nodup_append.mp g3).1, nd2, fun a ha b hb e => by subst e; exact dis a hb (g5 a (by simp [ha]))⟩
    obtain ⟨O', L', Lw', k1, k3, k4, k5, k6, k7⟩ := argsIO_rep h2' g1 ndM f'.2 c2
    have dw : ∀ a ∈ Lw, a ∉ M ++ L2 := fun a ha z => by
      rcases List.mem_append.mp z with z | z
      · exact (List.nodup_append.mp g3).2.2 a z a ha rfl
      · exact dis a z (g5 a (by simp [ha]))
    have ow := RepW.own w v Lw g2
    have rw2 : RepW C H O' w v Lw := RepW.keep w v Lw ⟨fun a o e n => ⟨e, fun q => n (k5 a q)⟩, fun a ha o e => ⟨e, k7 a (ow a ha).1 (dw a ha)⟩⟩ g2
    refine ⟨O', L', Lw ++ Lw', k1, ⟨v, r, Lw, Lw', rfl, rfl, rw2, k3⟩, ?_, fun a q => g4 a (k5 a q), fun a q => ?_, fun a q n => ?_⟩
    · have p : (L' ++ Lw' ++ Lw).Perm (L' ++ (Lw ++ Lw')) := by rw [List.append_assoc]; exact List.Perm.append_left L' List.perm_append_comm
      refine p.nodup_iff.mp (List.nodup_append.mpr ⟨k4, (List.nodup_append.mp g3).2.1, fun a ha b hb e => ?_⟩)
      subst e
      exact dw a hb (k6 a ha)
    · rcases List.mem_append.mp q with q | q
      · rcases List.mem_append.mp (k6 a (by simp [q])) with z | z
        · have := g5 a (by simp [z]); simp only [List.mem_append] at this ⊢; rcases this with t | t <;> simp [t]
        · simp [z]
      · rcases List.mem_append.mp q with q | q
        · have := g5 a (by simp [q]); simp only [List.mem_append] at this ⊢; rcases this with t | t <;> simp [t]
        · rcases List.mem_append.mp (k6 a (by simp [q])) with z | z
          · have := g5 a (by simp [z]); simp only [List.mem_append] at this ⊢; rcases this with t | t <;> simp [t]
          · simp [z]
    · have n1 : a ∉ L ++ L1 := fun z => n (by simp only [List.mem_append] at z ⊢; rcases z with t | t <;> simp [t])
      have n2 : a ∉ L2 := fun z => n (by simp [z])
      refine k7 a (g6 a q n1) fun z => ?_
      rcases List.mem_append.mp z with z | z
      · exact n1 (g5 a (by simp [z]))
      · exact n2 z
/-- where the operands stand -/
def At (σ : Sg) : List B → List V → Prop
  | [], _ => True
  | _ :: _, [] => False
  | b :: bs, v :: vs => (∀ i, b = .bor i [] → σ[i]? = some (some v)) ∧ At σ bs vs
theorem BRs.at {O : AP} {ρ : En} : ∀ {bs : List B} {vs : List V} {L : List Addr}, BRs C H O ρ σ bs vs L → At σ bs vs
  | [], _, _, _ => trivial
  | b :: bs, vs, L, h => by
    obtain ⟨v, r, L1, L2, e, e2, h1, h2⟩ := h
    subst e
    refine ⟨fun i hb => ?_, BRs.at h2⟩
    subst hb
    obtain ⟨_, v0, k1, k2, _⟩ := h1
    rw [k2 rfl]; exact k1
theorem putB_rep {io : KP} {O : AP} : ∀ {j : Nat} {bs : List B} {vs : List V} {ws : List W} {ρ ρ' : En} {L Lw : List Addr}, At σ bs vs → EnvR C H O ρ σ L → RepWs C H O ws vs Lw → (L ++ Lw).Nodup → putB io j bs ws ρ = .ok ρ' →
    ∃ L', EnvR C H O ρ' σ L' ∧ L'.Nodup ∧ ∀ a ∈ L', a ∈ L ++ Lw
  | j, [], vs, ws, ρ, ρ', L, Lw, a, env, r, nd, c => by
    cases c
    exact ⟨L, env, (List.nodup_append.mp nd).1, fun a ha => by simp [ha]⟩
  | j, b :: bs, vs, [], ρ, ρ', L, Lw, a, env, r, nd, c => by cases c
  | j, b :: bs, vs, w :: ws, ρ, ρ', L, Lw, a, env, r, nd, c => by
    obtain ⟨v, vr, M1, M2, e1, e2, r1, r2⟩ := r
    subst e1; subst e2
    obtain ⟨a1, a2⟩ := a
    obtain ⟨ρ1, c1, c⟩ := Res.of_bind c
    have same : ∀ {ρ0 : En}, ρ0 = ρ → putB io (j + 1) bs ws ρ0 = .ok ρ' → ∃ L', EnvR C H O ρ' σ L' ∧ L'.Nodup ∧ ∀ a ∈ L', a ∈ L ++ (M1 ++ M2) := fun {ρ0} e cc => by
      rw [e] at cc
      have nd' : (L ++ M2).Nodup := by
        have : (L ++ M2).Sublist (L ++ (M1 ++ M2)) := (List.Sublist.refl L).append (List.sublist_append_right M1 M2)
        exact this.nodup nd
      obtain ⟨L', g1, g2, g3⟩ := putB_rep a2 env r2 nd' cc
      exact ⟨L', g1, g2, fun a ha => by have := g3 a ha; simp only [List.mem_append] at this ⊢; rcases this with t | t <;> simp [t]⟩
    by_cases hj : io j = true
    · rw [if_pos hj] at c1
      cases b with
      | tmp w0 => cases c1; exact same rfl c
      | bor i p =>
        cases p with
        | cons k p => cases c1
        | nil =>
          simp only [put1] at c1
          cases hi : ρ[i]? with
          | none => rw [hi] at c1; cases c1
          | some x =>
            rw [hi] at c1
            cases x with
            | some w0 => cases c1
            | none =>
              cases c1
              have hs := a1 i rfl
              obtain ⟨y, N1, N0, q1, q2, q4, q5⟩ := env.focus hi
              have eN : N1 = [] := q2
              subst eN
              obtain ⟨L1, p1, p2⟩ := q5 H O (some w) (some v) M1 ⟨Keep.refl _ _, fun a ha o z => ⟨z, (env.own a (q4.mem_iff.mpr (by simp [ha]))).1⟩⟩ ⟨v, rfl, r1⟩
              rw [set_same hs] at p2
              have pL : L1.Perm (M1 ++ L) := p1.trans (List.Perm.append_left M1 (by simpa using q4.symm))
              have pp : (L ++ (M1 ++ M2)).Perm (L1 ++ M2) := by
                rw [← List.append_assoc]
                exact List.Perm.append_right M2 (List.perm_append_comm.trans pL.symm)
              obtain ⟨L', g1, g2, g3⟩ := putB_rep a2 p2 r2 (pp.nodup_iff.mp nd) c
              exact ⟨L', g1, g2, fun a ha => pp.mem_iff.mpr (g3 a ha)⟩
    · rw [if_neg hj] at c1
      cases c1
      exact same rfl c
end
theorem callIO_core {C : Cfg} {F : Fn} {io : KP} {cb : CBs} {qb : Bool} {E : XK} {σ : Sg} {H : Hp} {Q : VK} (h : tE C false (cCallIO F io cb) σ H Q) : tCall (spM C F) [] E (tB C qb cb) σ H Q := by
  obtain ⟨O, L, ρ, b0, ρ', env, nd, c, q⟩ := h
  obtain ⟨⟨bs, ρ1⟩, c1, c⟩ := Res.of_bind c
  obtain ⟨_, cs, c⟩ := Res.of_bind c
  obtain ⟨⟨ws, ρ2⟩, c2, c⟩ := Res.of_bind c
  obtain ⟨⟨r, bk⟩, c3, c⟩ := Res.of_bind c
  obtain ⟨ρ3, c4, c⟩ := Res.of_bind c
  cases c
  refine ⟨O, L, ρ, bs, ρ1, env, nd, c1, fun vs H1 O1 L1 Lb P => ?_⟩
  show spM C F (vs ++ []) H1 Q E
  rw [List.append_nil]
  obtain ⟨O2, L2, Lw, g1, g2, g3, g4, g5, g6⟩ := argsIO_rep P.br P.env P.nd (chk_ok cs) c2
  have ndw := List.nodup_append.mp g3
  have dw : ∀ a ∈ L2, a ∉ Lw := fun a ha z => ndw.2.2 a ha a z rfl
  refine ⟨O2, Lw, ws, r, bk, g2, ndw.2.1, c3, fun v H' O' L' Lr rr rb ndr st => ?_⟩
  have own2 : ∀ a ∈ L2, O2 a := fun a ha => (g1.own a ha).1
  have ownW : ∀ a ∈ Lw, O2 a := fun a ha => (RepWs.own ws vs Lw g2 a ha).1
  have e2 : EnvR C H' O' ρ2 σ L2 := EnvR.keep (st.keepL ownW own2 dw) g1
  have nd4 : (L' ++ Lr ++ L2).Nodup := nodup_frame st ndr ndw.1 (fun a ha => let ⟨_, xs, e⟩ := g1.own a ha; ⟨_, e⟩) dw
  have nd5 : (L2 ++ L').Nodup := by
    have s : (L' ++ L2).Sublist (L' ++ Lr ++ L2) := (List.sublist_append_left L' Lr).append (List.Sublist.refl L2)
    exact (List.perm_append_comm.nodup_iff).mp (s.nodup nd4)
  obtain ⟨L3, k1, k2, k3⟩ := putB_rep P.br.at e2 rb nd5 c4
  have dr : ∀ a ∈ Lr, a ∉ L3 := fun a ha z => by
    rcases List.mem_append.mp (k3 a z) with z | z
    · exact (List.nodup_append.mp nd4).2.2 a (by simp [ha]) a z rfl
    · exact (List.nodup_append.mp ndr).2.2 a z a ha rfl
  refine q v H' O' L3 Lr ⟨k1, rr, List.nodup_append.mpr ⟨k2, (List.nodup_append.mp ndr).2.1, fun a ha b hb e => by subst e; exact dr a hb ha⟩, ?_, fun z => by cases z⟩
  have s1 : Stp H O L H1 O2 (L2 ++ Lw) := P.st.trans (Stp.ofO g4 g5 g6)
  have s2 : Stp H1 O2 (Lw ++ L2) H' O' (L' ++ Lr ++ L2) := st.frame L2
  refine (s1.perm (T := Lw ++ L2) fun a ha => by simp only [List.mem_append] at ha ⊢; exact ha.symm).trans s2 |>.perm fun a ha => ?_
  rcases List.mem_append.mp ha with ha | ha
  · rcases List.mem_append.mp (k3 a ha) with z | z <;> simp [z]
  · simp [ha]
section
variable {X : Cx} {cl : Nat → Addr} {x : Str} {F : Fn} {p pos : Pos} {e : Expr} {es : List Expr} {cb : CBs} {qb qd : Bool} {io : KP}
theorem se_callV (hf : FnM X cl x F) (hg : Gl X x) (hb : SB X cl qb (e :: es) cb) (hdb : (x == ("__debug__" : Str)) = false := by decide) (he : starEach (e :: es) X.env = (false, eval e X.env) :: starEach es X.env := by rfl) (hpl : (backTo pos (starEach es X.env)).any (·.1) = false := by rfl) :
    SE X cl qb (.Call (.Name x p) (e :: es) [] pos) (cCallV F cb) := by
  obtain ⟨k, f, fd, ps, G, hr, hm, hk, hbd⟩ := hf.ex
  exact PE.imp (pe_call G hr hg hm hk hbd .nil pass0 hb hdb he hpl) fun σ H Q h => callV_core h
theorem se_callP (hf : FnM X cl x F) (hg : Gl X x) (hb : SB X cl qb (e :: es) cb) (hdb : (x == ("__debug__" : Str)) = false := by decide) (he : starEach (e :: es) X.env = (false, eval e X.env) :: starEach es X.env := by rfl) (hpl : (backTo pos (starEach es X.env)).any (·.1) = false := by rfl) :
    SE X cl (qb && qd) (.Call (.Name x p) (e :: es) [] pos) (cCallP qd F cb) := by
  obtain ⟨k, f, fd, ps, G, hr, hm, hk, hbd⟩ := hf.ex
  exact PE.imp (pe_call G hr hg hm hk hbd .nil pass0 hb hdb he hpl) fun σ H Q h => callP_core h
theorem se_callIO (hf : FnM X cl x F) (hg : Gl X x) (hb : SB X cl qb (e :: es) cb) (hdb : (x == ("__debug__" : Str)) = false := by decide) (he : starEach (e :: es) X.env = (false, eval e X.env) :: starEach es X.env := by rfl) (hpl : (backTo pos (starEach es X.env)).any (·.1) = false := by rfl) :
    SE X cl false (.Call (.Name x p) (e :: es) [] pos) (cCallIO F io cb) := by
  obtain ⟨k, f, fd, ps, G, hr, hm, hk, hbd⟩ := hf.ex
  exact PE.imp (pe_call G hr hg hm hk hbd .nil pass0 hb hdb he hpl) fun σ H Q h => callIO_core h
theorem se_call0 (hf : FnM X cl x F) (hg : Gl X x) (hdb : (x == ("__debug__" : Str)) = false := by decide) : SE X cl true (.Call (.Name x p) [] [] pos) (cCallP true F cNil) := by
  obtain ⟨k, f, fd, ps, G, hr, hm, hk, hbd⟩ := hf.ex
  refine PE.imp (pe_call0 G hr hg hm hk hbd .nil pass0 hdb) fun σ H Q h => ?_
  have h2 := callP_core (E := E0) (qb := true) h
  obtain ⟨O, L, ρ, bs, ρ', env, nd, c, q⟩ := h2
  cases c
  exact q [] H O L [] ⟨env, ⟨rfl, rfl⟩, by rw [List.append_nil]; exact nd, by rw [List.append_nil]; exact Stp.refl _ _ _, fun _ => ⟨rfl, fun _ _ e => e⟩⟩
end
end Mi
/-! Mi: lists that are changed in place -/
namespace Mi
open PySem PySem.Spec PyProof.Rows L2
section
variable {C : Cfg} {H : Hp} {O : AP} {L Lb : List Addr} {ρ : En} {σ : Sg} {i : Nat} {p : List Nat} {v : V} {w : W} {ws : List W}
/-- the list at a place, to be changed -/
theorem mut_rep (e : EnvR C H O ρ σ L) (nd : L.Nodup) (hb : BR C H O ρ σ (.bor i p) v Lb) (hi : ρ[i]? = some (some w)) (g : getP w p = some (.lst ws)) :
    ∃ l xs L1 L0, v = .ref l ∧ H l = some (.lst xs) ∧ O l ∧ RepWs C H O ws xs L1 ∧ L.Perm (l :: (L1 ++ L0)) ∧
      ∀ ws' xs' L1' O', (∀ a, O' a → O a) → (∀ a, O a → a ∈ l :: L0 → O' a) → RepWs C (upd H l (.lst xs')) O' ws' xs' L1' → ∃ L', L'.Perm (l :: (L1' ++ L0)) ∧ EnvR C (upd H l (.lst xs')) O' (ρ.set i (some (setP w p (.lst ws')))) σ L' := by
  obtain ⟨M1, M0, r1, r2, r3⟩ := env_path e nd hb hi g
  obtain ⟨l, xs, L1, e1, h1, h2, h3, r⟩ := r1
  subst h3
  have ndM : (l :: L1 ++ M0).Nodup := r2.nodup_iff.mp nd
  have hl : l ∉ M0 := fun z => (List.nodup_cons.mp ndM).1 (by simp [z])
  have ow : ∀ a ∈ M0, O a := fun a ha => (e.own a (r2.mem_iff.mpr (by simp [ha]))).1
  refine ⟨l, xs, L1, M0, e1, h1, h2, r, r2, fun ws' xs' L1' O' hO hO2 rs => ?_⟩
  have k : KeepL H O (upd H l (.lst xs')) O' M0 := ⟨fun b u e n => ⟨(upd_ne (show b ≠ l from fun z => n (by rw [z]; exact h2))).trans e, fun q => n (hO b q)⟩,
    fun b hb u e => ⟨(upd_ne (show b ≠ l from fun z => hl (by rw [← z]; exact hb))).trans e, hO2 b (ow b hb) (by simp [hb])⟩⟩
  exact r3 _ O' (.lst ws') (l :: L1') k ⟨l, xs', L1', e1, upd_same, hO2 l h2 (by simp), rfl, rs⟩
end
def mutP (i : Nat) (p : List Nat) (f : List W → Option (List W)) (ρ : En) : Res En := match ρ[i]? with
  | some (some w) => match getP w p with
    | some (.lst ws) => (Res.of (f ws)).bind fun ws' => .ok (ρ.set i (some (setP w p (.lst ws'))))
    | _ => .err
  | _ => .err
theorem mutP_ok {i : Nat} {p : List Nat} {f : List W → Option (List W)} {ρ ρ' : En} (h : mutP i p f ρ = .ok ρ') : ∃ w ws ws', ρ[i]? = some (some w) ∧ getP w p = some (.lst ws) ∧ f ws = some ws' ∧ ρ' = ρ.set i (some (setP w p (.lst ws'))) := by
  unfold mutP at h
  split at h
  · rename_i w hw
    split at h
    · rename_i ws hg
      obtain ⟨ws', c1, c2⟩ := Res.of_bind h
      cases c2
      exact ⟨w, ws, ws', hw, hg, Res.of_ok c1, rfl⟩
    · cases h
  · cases h
/-- a place that holds a list -/
def isPl : B → En → Res (Nat × List Nat)
  | .bor i p, ρ => match ρ[i]? with
    | some (some w) => match getP w p with
      | some (.lst _) => .ok (i, p)
      | _ => .err
    | _ => .err
  | _, _ => .err
theorem isPl_ok {b : B} {ρ : En} {i : Nat} {p : List Nat} (h : isPl b ρ = .ok (i, p)) : b = .bor i p ∧ ∃ w ws, ρ[i]? = some (some w) ∧ getP w p = some (.lst ws) := by
  unfold isPl at h
  split at h
  · split at h
    · rename_i w hw
      split at h
      · rename_i ws hg
        cases h
        exact ⟨rfl, w, _, hw, hg⟩
      · cases h
    · cases h
  · cases h
/-- xs.append(e) -/
def cApp (qa : Bool) (co ca : CE) : CE := fun ρ => (co ρ).bind fun (b, ρ1) => (isPl b ρ1).bind fun (i, p) => (pend qa (.bor i p)).bind fun _ => (ca ρ1).bind fun (a, ρ2) => (chk (p.isEmpty || isTmp a)).bind fun _ => (take a ρ2).bind fun (w, ρ3) =>
  (mutP i p (fun ws => if ws.length < 16777216 then some (ws ++ [w]) else none) ρ3).bind fun ρ4 => .ok (.tmp (.fz .non), ρ4)
section
variable {X : Cx} {cl : Nat → Addr} {o e : Expr} {co ca : CE} {qo qa : Bool} {apos cpos : Pos}
theorem app_core {C : Cfg} {σ : Sg} {H : Hp} {Q : VK} (h : tE C false (cApp qa co ca) σ H Q) : tBM C.K "list" rAppend (tE C qo co) (tCons (tE C qa ca) tNil) σ H Q := by
  obtain ⟨O, L, ρ, b0, ρ', env, nd, c, q⟩ := h
  obtain ⟨⟨b, ρ1⟩, c1, c⟩ := Res.of_bind c
  obtain ⟨⟨i, p⟩, c2, c⟩ := Res.of_bind c
  obtain ⟨_, c3, c⟩ := Res.of_bind c
  obtain ⟨⟨a, ρ2⟩, c4, c⟩ := Res.of_bind c
  obtain ⟨_, c5, c⟩ := Res.of_bind c
  obtain ⟨⟨w, ρ3⟩, c6, c⟩ := Res.of_bind c
  obtain ⟨ρ4, c7, c⟩ := Res.of_bind c
  cases c
  obtain ⟨eb, w0, ws0, hi0, hg0⟩ := isPl_ok c2
  subst eb
  refine ⟨O, L, ρ, _, ρ1, env, nd, c1, fun v H1 O1 L1 La P1 => ?_⟩
  have ndd1 := List.nodup_append.mp P1.nd
  obtain ⟨l0, xs0, _, _, e0, h0, _⟩ := mut_rep P1.env ndd1.1 P1.br hi0 hg0
  subst e0
  refine ⟨.inl ⟨rfl, xs0, SqL.of h0⟩, ?_⟩
  have eLa : La = [] := P1.br.1
  subst eLa
  have own1 : ∀ z ∈ L1, O1 z := fun z hz => (P1.env.own z hz).1
  refine ⟨O1, L1, ρ1, a, ρ2, P1.env, ndd1.1, c4, fun y H2 O2 L2 Lb P2 => ?_⟩
  obtain ⟨br2, _⟩ := P1.br.pend own1 P1.nd P2 c3
  obtain ⟨O3, L3, Lw, g1, g2, g3, g4, g5, g6⟩ := take_rep P2.br P2.env P2.nd c6
  have br3 : BR C H2 O3 ρ3 σ (.bor i p) (.ref l0) [] := by
    obtain ⟨z0, v0, z1, z2, z3⟩ := br2
    refine ⟨rfl, v0, z1, z2, fun hp => ?_⟩
    have ht : isTmp a = true := by
      have := chk_ok c5
      cases p with
      | nil => exact absurd rfl hp
      | cons k r => simpa using this
    cases a with
    | tmp w' => cases c6; exact z3 hp
    | bor _ _ => cases ht
  obtain ⟨w3, ws, ws', hi, hg, hf, e4⟩ := mutP_ok c7
  subst e4
  have ndd3 := List.nodup_append.mp g3
  obtain ⟨l, xs, M1, M0, el, hl, hO, rs, pm, up⟩ := mut_rep g1 ndd3.1 br3 hi hg
  cases el
  by_cases hlen : ws.length < 16777216
  · rw [if_pos hlen] at hf
    cases hf
    refine ⟨l0, xs, y, rfl, rfl, hl, by rw [rs.length, sizeLine_eq]; exact hlen, ?_⟩
    have pm2 : (L3 ++ Lw).Perm (l0 :: (M1 ++ Lw ++ M0)) := by
      refine (List.Perm.append_right Lw pm).trans ?_
      simp only [List.cons_append, List.append_assoc]
      exact (List.Perm.append_left M1 List.perm_append_comm).cons l0
    have nd4 : (l0 :: (M1 ++ Lw ++ M0)).Nodup := pm2.nodup_iff.mp g3
    have n0 := List.nodup_cons.mp nd4
    have owM : ∀ a ∈ M1, O3 a := fun a ha => (RepWs.own ws xs M1 rs a ha).1
    have owW : ∀ a ∈ Lw, O3 a := fun a ha => (RepW.own w y Lw g2 a ha).1
    have rs2 : RepWs C (upd H2 l0 (.lst (xs ++ [y]))) O3 (ws ++ [w]) (xs ++ [y]) (M1 ++ Lw) :=
      RepWs.append (RepWs.keep ws xs M1 (keep_mut hO (fun z => n0.1 (by simp [z])) owM) rs) (RepWs.one (RepW.keep w y Lw (keep_mut hO (fun z => n0.1 (by simp [z])) owW) g2))
    obtain ⟨L4, p4, env4⟩ := up (ws ++ [w]) (xs ++ [y]) (M1 ++ Lw) O3 (fun _ q => q) (fun _ q _ => q) rs2
    have p5 : L4.Perm (L3 ++ Lw) := p4.trans pm2.symm
    refine q .non _ O3 L4 [] ⟨env4, ⟨rfl, rfl⟩, by rw [List.append_nil]; exact p5.nodup_iff.mpr g3, ?_, fun z => by cases z⟩
    have s1 := P1.st
    rw [List.append_nil] at s1
    have s3 : Stp H O L H2 O3 (L3 ++ Lw) := (s1.trans P2.st).trans (Stp.ofO g4 g5 g6)
    refine (s3.trans (Stp.mut (a := l0) (o := .lst (xs ++ [y])) (pm2.mem_iff.mpr (by simp)) hl)).perm fun a ha => ?_
    rw [List.append_nil] at ha
    exact p5.mem_iff.mp ha
  · rw [if_neg hlen] at hf; cases hf
theorem se_append (ho : SE X cl qo o co) (ha : SE X cl qa e ca) (hbase : attributeBase o "append" X.env (eval o X.env) = eval o X.env := by rfl)
    (hfew : ((backTo cpos (starEach [e] X.env)).all (fun x => !x.1) && (backToKw cpos (keywordEach [] X.env)).all (fun x => x.1.isSome) && decide ([e].length + ([] : List Keyword).length + (if ([] : List Keyword).isEmpty then 0 else 1) < 30)) = true := by rfl)
    (hline : (apos.endLine == cpos.line) = true := by rfl) (hs : starEach [e] X.env = (false, eval e X.env) :: starEach [] X.env := by rfl) (hplain : (backTo cpos (starEach [] X.env)).any (·.1) = false := by rfl) :
    SE X cl false (.Call (.Attribute o "append" apos) [e] [] cpos) (cApp qa co ca) :=
  PE.imp (pe_bm PySem.F.plainAttrs_list PySem.F.slot_list_append PySem.F.type_list_append mt_append ho (pa_cons ha pa_nil hs) hbase hfew hline hs hplain) fun σ H Q h => app_core (C := ⟨X.K, cl⟩) h
end
/-! ### xs[i] = e -/
def intOf : B → Res Int
  | .tmp (.fz (.int k)) => .ok k
  | _ => .err
theorem intOf_ok {b : B} {k : Int} (h : intOf b = .ok k) : b = .tmp (.fz (.int k)) := by
  unfold intOf at h
  split at h
  · cases h; rfl
  · cases h
def gSub (qi : Bool) (co ci : CE) : CG := fun w ρ => (co ρ).bind fun (b, ρ1) => (pend qi b).bind fun _ => (ci ρ1).bind fun (bi, ρ2) => (intOf bi).bind fun k => (isPl b ρ2).bind fun (i, p) =>
  mutP i p (fun ws => match ixN ws.length k with
    | some j => some (ws.set j w)
    | none => none) ρ2
section
variable {X : Cx} {cl : Nat → Addr} {kp : KP} {o ix : Expr} {co ci : CE} {qo qi : Bool} {pos : Pos}
theorem RepWs.setAt {C : Cfg} {H H' : Hp} {O O' : AP} {ws : List W} {xs : List V} {L Lw : List Addr} {j : Nat} {w : W} {y : V} (r : RepWs C H O ws xs L) (hj : j < ws.length) (k : KeepL H O H' O' L) (rw' : RepW C H' O' w y Lw) :
    ∃ L1 L0 L', L.Perm (L1 ++ L0) ∧ L'.Perm (Lw ++ L0) ∧ RepWs C H' O' (ws.set j w) (xs.set j y) L' := by
  obtain ⟨x, L1, L0, q1, q2, q3, q4⟩ := r.focus (List.getElem?_eq_getElem hj)
  obtain ⟨L', p1, p2⟩ := q4 H' O' w y Lw (k.sub fun a ha => q3.mem_iff.mpr (by simp [ha])) rw'
  exact ⟨L1, L0, L', q3, p1, p2⟩
theorem sg_sub (ho : SE X cl qo o co) (hi : SE X cl qi ix ci) (ha : ∀ v, assign (.Subscript o ix pos) X.env v = (do
      let ov ← holding [v] (eval o X.env)
      let iv ← holding [v, ov] (eval ix X.env)
      standAt pos
      holding [v, ov, iv] (setItem ov iv v)
      release [v, ov, iv] []) := by intro _; rfl) : SG X cl kp (.Subscript o ix pos) (gSub qi co ci) := by
  refine PG.imp (pg_sub ho hi set_list ha) fun v σ H Q h => ?_
  obtain ⟨O, L, Lw, ρ, w, ρ', env, r, nd, c, q⟩ := h
  obtain ⟨⟨b, ρ1⟩, c1, c⟩ := Res.of_bind c
  obtain ⟨_, c2, c⟩ := Res.of_bind c
  obtain ⟨⟨bi, ρ2⟩, c3, c⟩ := Res.of_bind c
  obtain ⟨k, c4, c⟩ := Res.of_bind c
  obtain ⟨⟨i, p⟩, c5, cm⟩ := Res.of_bind c
  have ei := intOf_ok c4
  subst ei
  obtain ⟨eb, _⟩ := isPl_ok c5
  subst eb
  have nd0 := List.nodup_append.mp nd
  refine ⟨O, L, ρ, _, ρ1, env, nd0.1, c1, fun ov H1 O1 L1 La P1 => ?_⟩
  have own1 : ∀ z ∈ L1, O1 z := fun z hz => (P1.env.own z hz).1
  have eLa : La = [] := P1.br.1
  subst eLa
  have ndd1 := List.nodup_append.mp P1.nd
  refine ⟨O1, L1, ρ1, _, ρ2, P1.env, ndd1.1, c3, fun iv H2 O2 L2 Lb P2 => ?_⟩
  obtain ⟨eLb, eiv⟩ := P2.br
  subst eLb
  have s1 := P1.st
  have s2 := P2.st
  have nd2 := P2.nd
  rw [List.append_nil] at s1 s2 nd2
  obtain ⟨br2, _⟩ := P1.br.pend own1 P1.nd P2 c2
  obtain ⟨w3, ws, ws', hi', hg, hf, e4⟩ := mutP_ok cm
  subst e4
  obtain ⟨l, xs, M1, M0, el, hl, hO, rs, pm, up⟩ := mut_rep P2.env nd2 br2 hi' hg
  cases hx : ixN ws.length k with
  | none => rw [hx] at hf; cases hf
  | some j =>
    rw [hx] at hf
    cases hf
    have hj : j < ws.length := (ixN_seq hx).2.1
    refine ⟨l, xs, k, j, el, eiv, hl, by rw [rs.length]; exact hx, ?_⟩
    have s02 : Stp H O L H2 O2 L2 := s1.trans s2
    have own0 : ∀ a ∈ L, O a := fun a ha => (env.own a ha).1
    have owW := RepW.own w v Lw r
    have dW : ∀ a ∈ Lw, a ∉ L := fun a ha z => nd0.2.2 a z a ha rfl
    have r2 : RepW ⟨X.K, cl⟩ H2 O2 w v Lw := RepW.keep w v Lw (s02.keepL own0 (fun a ha => (owW a ha).1) dW) r
    have nd3 : (L2 ++ Lw).Nodup := nodup_frame s02 nd2 nd0.2.1 (fun a ha => let ⟨_, ys, e⟩ := owW a ha; ⟨_, e⟩) dW
    have pm2 : (L2 ++ Lw).Perm (l :: (M1 ++ M0 ++ Lw)) := (List.Perm.append_right Lw pm)
    have nd4 : (l :: (M1 ++ M0 ++ Lw)).Nodup := pm2.nodup_iff.mp nd3
    have n0 := List.nodup_cons.mp nd4
    have hne : ∀ a ∈ M1 ++ M0 ++ Lw, a ≠ l := fun a ha z => n0.1 (by rw [← z]; exact ha)
    have owM : ∀ a ∈ M1, O2 a := fun a ha => (RepWs.own ws xs M1 rs a ha).1
    have ow2 := RepW.own w v Lw r2
    obtain ⟨N1, N0, N', q1, q2, q3⟩ := RepWs.setAt (H' := upd H2 l (.lst (xs.set j v))) (O' := O2) rs hj (keep_mut hO (fun z => hne l (by simp [z]) rfl) owM) (RepW.keep w v Lw (keep_mut hO (fun z => hne l (by simp [z]) rfl) fun a ha => (ow2 a ha).1) r2)
    obtain ⟨L4, p4, env4⟩ := up (ws.set j w) (xs.set j v) N' O2 (fun _ q => q) (fun _ q _ => q) q3
    have sub : ∀ a ∈ L4, a ∈ L2 ++ Lw := fun a ha => by
      have z := p4.mem_iff.mp ha
      refine pm2.mem_iff.mpr ?_
      simp only [List.mem_cons, List.mem_append] at z ⊢
      rcases z with z | z | z
      · exact .inl z
      · have := q2.mem_iff.mp z
        simp only [List.mem_append] at this
        rcases this with t | t
        · exact .inr (.inr t)
        · exact .inr (.inl (.inl (q1.mem_iff.mpr (by simp [t]))))
      · exact .inr (.inl (.inr z))
    have nd5 : L4.Nodup := by
      refine p4.nodup_iff.mpr (List.nodup_cons.mpr ⟨fun z => ?_, List.nodup_append.mpr ⟨q2.nodup_iff.mpr ?_, ?_, fun a ha b hb e => ?_⟩⟩)
      · rcases List.mem_append.mp z with z | z
        · have := q2.mem_iff.mp z
          simp only [List.mem_append] at this
          rcases this with t | t
          · exact hne l (by simp [t]) rfl
          · exact hne l (by simp [q1.mem_iff.mpr (show l ∈ N1 ++ N0 by simp [t])]) rfl
        · exact hne l (by simp [z]) rfl
      · have nA := List.nodup_append.mp n0.2
        have nB := List.nodup_append.mp nA.1
        refine List.nodup_append.mpr ⟨nA.2.1, (List.nodup_append.mp (q1.nodup_iff.mp nB.1)).2.1, fun a ha b hb e => ?_⟩
        subst e
        exact nA.2.2 a (by simp [q1.mem_iff.mpr (show a ∈ N1 ++ N0 by simp [hb])]) a ha rfl
      · exact (List.nodup_append.mp (List.nodup_append.mp n0.2).1).2.1
      · subst e
        have := q2.mem_iff.mp ha
        simp only [List.mem_append] at this
        rcases this with t | t
        · exact (List.nodup_append.mp n0.2).2.2 a (by simp [hb]) a t rfl
        · exact (List.nodup_append.mp (List.nodup_append.mp n0.2).1).2.2 a (q1.mem_iff.mpr (by simp [t])) a hb rfl
    refine q σ _ O2 L4 ⟨env4, by rw [List.append_nil]; exact nd5, ?_, fun _ _ => rfl, rfl⟩
    rw [List.append_nil]
    exact ((s02.frame Lw).trans (Stp.mut (a := l) (o := .lst (xs.set j v)) (pm2.mem_iff.mpr (by simp)) hl)).perm sub
end
end Mi
/-! enumerate(tuple) for the layer -/
namespace PySem
open Sem (wp)
open AutoSeq1 (wpAny_loadPart')
theorem mi_meets_enumT (l : Addr) (items : Array Value) (n : Nat) (dct : Option Addr) (sl : Array (Option Value)) :
    Meets (Builtin.«enumerate.__new__» ⟨[.type "enumerate", .ref l], []⟩) (fun _ R s => s.heap.get? l = some { cls := .type "tuple", dict := dct, data := .seq items n, slots := sl } ∧
      R (.ok (.ret (.ref (s.heap.push { cls := .type "tuple_iterator", data := .fields #[.ref l, .int 0 0] }).objs.size)))
        { s with heap := (s.heap.push { cls := .type "tuple_iterator", data := .fields #[.ref l, .int 0 0] }).push { cls := .type "enumerate", data := .fields #[.none, .bool false, .ref s.heap.objs.size, rawInt 0, .none, .none] } }) :=
  .of_wp fun prog w A R s h => by
    obtain ⟨hp, g, d, tk, os⟩ := s; obtain ⟨hl, h⟩ := h
    have hsub := sub_enumerate
    have hL : Heap.IsTuple (Shared.heap ⟨hp, g, d, tk, os⟩) l items := ⟨_, hl, rfl, n, rfl⟩
    wp_walk using wpAny_loadPart' hl
    refine wpAny_stack_any fun st => wpAny_pure ?_
    split
    · rename_i c _ _ _ _ _
      cases (c == Value.type "enumerate")
      · wp_walk using wpAny_loadPart' hl, wpAny_pyIter_tuple hL
        exact ⟨_, rfl, h⟩
      · wp_walk using wpAny_loadPart' hl, wpAny_pyIter_tuple hL
        exact ⟨_, rfl, h⟩
    · wp_walk using wpAny_loadPart' hl, wpAny_pyIter_tuple hL
      exact ⟨_, rfl, h⟩
section
variable {prog : Program} {w : World} {A : Around} {E : Value → Shared → Prop} {s : Shared}
theorem mi_call_enumT {l : Addr} {items : Array Value} {Q : Value → Shared → Prop} (hL : s.heap.IsTuple l items)
    (h : ∀ h', IsEnum h' (s.heap.objs.size + 1) s.heap.objs.size 0 .none → h'.IsTupleIter s.heap.objs.size l 0 → h'.objs.size = s.heap.objs.size + 2 →
      (∀ b o, s.heap.get? b = some o → h'.get? b = some o) → Q (.ref (s.heap.objs.size + 1)) { s with heap := h' }) :
    wpAny (model prog w) A (call (.type "enumerate") [.ref l]) Q E s := by
  obtain ⟨⟨c, dct, dt, sl⟩, hl, hc, n, hd⟩ := hL
  replace hc : c = .type "tuple" := hc
  replace hd : dt = .seq items n := hd
  subst hc hd
  refine callType_new F.called_enumerate (by decide) (F.typeCall_enumerate_1 _) (F.newCall_enumerate_1 _) (fun obj => F.args_object_init_2 obj _) F.entry_enumerate_new
    (mi_meets_enumT l items n dct sl) ⟨hl, ?_⟩
  have hz : (s.heap.push { cls := .type "tuple_iterator", data := .fields #[.ref l, .int 0 0] }).objs.size = s.heap.objs.size + 1 := Heap.size_push ..
  show _ ∧ _
  rw [hz]
  have he : IsEnum ((s.heap.push { cls := .type "tuple_iterator", data := .fields #[.ref l, .int 0 0] }).push
      { cls := .type "enumerate", data := .fields #[.none, .bool false, .ref s.heap.objs.size, rawInt 0, .none, .none] }) (s.heap.objs.size + 1) s.heap.objs.size 0 .none := by
    have := Heap.get?_push_size (s.heap.push { cls := .type "tuple_iterator", data := .fields #[.ref l, .int 0 0] })
      (o := { cls := .type "enumerate", data := .fields #[.none, .bool false, .ref s.heap.objs.size, rawInt 0, .none, .none] }) rfl
    rw [hz] at this; exact this
  refine ⟨⟨_, he, rfl⟩, h _ he ⟨_, Heap.get?_push_of_some _ (Heap.get?_push_size _ rfl), rfl, rfl⟩ (by rw [Heap.size_push, hz]) fun b o x => Heap.get?_push_of_some _ (Heap.get?_push_of_some _ x)⟩
end
end PySem
namespace Mi
open PySem PySem.Spec PyProof.Rows L2
def IteT (K : PySem.W.Frag) (a : Addr) : It :=
  ⟨fun i H => ∃ (xs : List V) (x : V), SqT K H a xs ∧ xs[i]? = some x, fun i H v H' => ∃ T x, v = .ref T ∧ H T = none ∧ H' = upd H T (.tup [.int (i : Nat), x]) ∧ ∀ xs, SqT K H a xs → xs[i]? = some x, fun i H => ∃ xs : List V, SqT K H a xs ∧ xs.length ≤ i⟩
theorem turn_enumT {P : Program} {w : World} {K : PySem.W.Frag} {elts : List Expr} {kk : Nat} {tpos : Pos} (a e it : Addr) :
    Turn P w K (.Tuple elts kk tpos) (IteT K a) [e, it] e (fun i h => (∃ old, IsEnum h e it ((i : Nat) : Int) old) ∧ h.IsTupleIter it a i ∧ e ≠ it ∧ a ≠ it ∧ a ≠ e) where
  mem := by simp
  obj := fun i h st b hb => by
    obtain ⟨⟨old, he⟩, ⟨o, ho, hc, hd⟩, _⟩ := st
    have e' : b = e ∨ b = it := by simpa using hb
    rcases e' with z | z
    · rw [z]; exact ⟨_, he, fun v q => nomatch q⟩
    · rw [z]; exact ⟨o, ho, fun v q => by rw [hd] at q; cases q⟩
  keep := fun i h h' st k => let ⟨⟨old, he⟩, hi, hne⟩ := st; ⟨⟨old, k e (by simp) _ he⟩, hi.at fun o q => k it (by simp) o q, hne⟩
  item := by
    intro X hP hw hK hc i pins s σ H E I hf st hg
    subst hP hw hK
    obtain ⟨⟨old, he⟩, hit, hne, hai, hae⟩ := st
    obtain ⟨xs, x, hq, hx⟩ := hg
    obtain ⟨its, rv, p, hz⟩ := I.tuple hq
    obtain ⟨u, hu, ru⟩ := rv.get hx
    have hel : e < s.heap.objs.size := Heap.lt_size he
    have hil : it < s.heap.objs.size := by obtain ⟨_, q, _⟩ := hit; exact Heap.lt_size q
    have hcm : X.A.in1.handled = none := I.ok.hd hc
    have hlt : i < its.toArray.size := by
      have := (List.getElem?_eq_some_iff.mp hu).1
      simpa using this
    refine wpAny_pyNext_enum_itemD (Draws.tuple hcm it a hai its.toArray) he ⟨hit, p⟩ hlt hne (by
      intro z
      have e' : e = it ∨ e = a := by simpa using z
      rcases e' with q | q
      · exact hne q
      · exact hae q.symm) fun x' h' tk hP ho hst hT hsz hk => ?_
    have ex : x' = u := by
      have h1 : its[i]? = some x' := by simpa using hP
      rw [hu] at h1
      exact (Option.some.inj h1).symm
    subst ex
    refine ⟨_, rfl, wpAny_letOwnedTupleGo_enum (s := { s with heap := h', toks := tk + 1 }) ho fun h'' he' sb => ?_⟩
    have hT2 : h''.get? s.heap.objs.size = some { cls := .type "tuple", data := .seq #[.int i tk, x'] } := (sb.2 _ (Nat.ne_of_gt hel)).trans hT
    have new : ObjOk X.prog X.w (upd H s.heap.objs.size (.tup [.int (i : Nat), x])) h'' s.heap.objs.size (.tup [.int (i : Nat), x]) :=
      ⟨by show 2 ≤ sizeLine; decide, [.int i tk, x'], .cons ⟨_, rfl⟩ (.cons ru .nil), ⟨_, hT2, rfl, _, rfl⟩⟩
    have I1 : Inv X pins σ (upd H s.heap.objs.size (.tup [.int (i : Nat), x])) { s with heap := h'', toks := tk + 1 } :=
      I.turnedNew (ch := [e, it]) (fun b ob hb q => (sb.2 b (fun z => hb (by simp [z]))).trans (hk b ob (fun z => hb (by simp [z])) (fun z => hb (by simp [z])) q)) hf (Nat.le_refl _) new
    refine ⟨.ref s.heap.objs.size, _, I1, rfl, ⟨_, x, rfl, I.hok.fresh (Nat.le_refl _), rfl, fun ys hy => by rw [I.tuple_inj hy hq]; exact hx⟩, ⟨⟨x', ?_⟩, hst.1.at fun o q => (sb.2 it (Ne.symm hne)).trans q, hne, hai, hae⟩, fun b hb => ?_⟩
    · have e1 : ((i + 1 : Nat) : Int) = (i : Int) + 1 := by omega
      rw [e1]; exact he'
    · have hb' : b < s.heap.objs.size := by
        have e' : b = e ∨ b = it := by simpa using hb
        rcases e' with z | z
        · rw [z]; exact hel
        · rw [z]; exact hil
      rw [upd_ne (Nat.ne_of_lt hb')]
      exact (hf b hb).1
  done := by
    intro X hP hw hK hc i pins s σ H E I hf st hg
    subst hP hw hK
    obtain ⟨⟨old, he⟩, hit, hne, hai, hae⟩ := st
    obtain ⟨xs, hq, hx⟩ := hg
    obtain ⟨its, rv, p, hz⟩ := I.tuple hq
    obtain ⟨f0, f1, f2, f3, f4, f5⟩ := hf it (by simp)
    have hl := rv.length
    have hT : s.TypeIs (.ref e) "enumerate" := ⟨_, he, rfl⟩
    have hcm : X.A.in1.handled = none := I.ok.hd hc
    unfold pyNext
    refine wpAny_bind (wpAny_attempt (wpAny_callSpecial?_slot (name := Str.ofString "__next__") hT F.slot_enumerate_next
      (wpAny_call_entry F.slot_enumerate_next hT F.entry_enumerate_next ?_ (F.args_enumerate_next_1 _))))
    show wpAny _ _ (field (.ref e) 2 >>= _) _ _ _
    refine wpAny_bind (wpAny_field he rfl (x := .ref it) rfl ?_)
    refine wpAny_bind (wpAny_nextOf_tuple_end hcm hit p (by simp; omega) fun h' x he' hx' => ?_)
    obtain ⟨o, ho, hc'⟩ := hx'
    refine wpAny_bind (wpAny_isInstance (T := "StopIteration") (b := true) ⟨o, ho, hc'⟩ isSubtype_stop ?_)
    exact wpAny_pure ⟨rfl, I.turned (t' := s.toks) (fun b o hb q => he' b o hb q) f0 f1 f3 f4 f5⟩
  self := fun A i s Q E st h => let ⟨⟨_, he⟩, _⟩ := st; wpAny_pyIter_enum he h
def iEnumT (K : PySem.W.Frag) (ta : TA) : TI := fun σ H R => ta σ H fun vs H1 => ∃ a xs, vs = [.ref a] ∧ SqT K H1 a xs ∧ R (IteT K a) H1
theorem pi_enumT {X : Cx} {e : Expr} {ta : TA} {p pos tpos : Pos} {elts : List Expr} {kk : Nat} (hg : Gl X "enumerate") (hm : X.mg "enumerate" = none) (ha : PA X [e] ta) (hs : starEach [e] X.env = [(false, eval e X.env)] := by rfl) :
    PI X (.Tuple elts kk tpos) (.Call (.Name "enumerate" p) [e] [] pos) (iEnumT X.K ta) := by
  refine ⟨fun pins s σ H R I h => ?_⟩
  refine Call_ (ld_blt I hg hm boot_enumerate (PyProof.Rows.callWith_type1 (thn (ha.run pos pins s σ H _ I h) fun us s1 ⟨vs, H1, I1, r1, q1⟩ => ?_) hs rfl))
  obtain ⟨a, xs, ex, hq, q⟩ := q1
  subst ex
  cases r1 with
  | cons r rr =>
    cases rr
    cases r
    obtain ⟨its, rv, p', hz⟩ := I1.tuple hq
    have hal : a < s1.heap.objs.size := p'.lt
    refine mi_call_enumT p' fun h' he hit hsz hk => wpAny_pyIter_enum he ?_
    have I2 : Inv X pins σ H1 { s1 with heap := h' } := I1.kept (t' := s1.toks) hk
    refine ⟨s1.heap.objs.size + 1, [s1.heap.objs.size + 1, s1.heap.objs.size], _, _, H1, rfl, I2, turn_enumT a (s1.heap.objs.size + 1) s1.heap.objs.size, ⟨⟨.none, he⟩, hit, Nat.succ_ne_self _, Nat.ne_of_lt hal, Nat.ne_of_lt (Nat.lt_succ_of_lt hal)⟩, fun b hb => ?_, q⟩
    have e' : b = s1.heap.objs.size + 1 ∨ b = s1.heap.objs.size := by simpa using hb
    have hle : s1.heap.objs.size ≤ b := by
      rcases e' with z | z
      · rw [z]; exact Nat.le_add_right _ _
      · rw [z]; exact Nat.le_refl _
    exact I1.fpOk hle (I1.hok.fresh hle)
end Mi
/-! Mi: the operators and built-ins by their values -/
namespace Mi
open PySem PySem.Spec PyProof.Rows L2
def isI : W → Bool
  | .fz (.int _) => true
  | _ => false
def isS : W → Bool
  | .fz (.str _) => true
  | _ => false
def isT : W → Bool
  | .fz (.tup _) => true
  | _ => false
def fStrAdd : W → W → Res W
  | .fz (.str a), .fz (.str b) => if a.length + b.length ≤ 16777216 then .ok (.fz (.str (a ++ b))) else .err
  | _, _ => .err
def fTupAdd : W → W → Res W
  | .fz (.tup a), .fz (.tup b) => if a.length + b.length ≤ 16777216 then .ok (.fz (.tup (a ++ b))) else .err
  | _, _ => .err
def fLstAdd (x y : W) : Res W := match lstV x, lstV y with
  | some a, some b => if a.length + b.length ≤ 16777216 then .ok (.lst ((a ++ b).map W.fz)) else .err
  | _, _ => .err
def fAdd : W → W → Res W := fun x y => if isI x then fI (fun i j => .ok (.int (i + j))) x y else if isS x then fStrAdd x y else if isT x then fTupAdd x y else fLstAdd x y
def fSub : W → W → Res W := fI fun i j => .ok (.int (i - j))
def fNeg : W → Res W
  | .fz (.int i) => .ok (.fz (.int (-i)))
  | _ => .err
def mulOk (i j : Int) : Bool := decide (CMul i j) || decide (CMulW i j)
def fLstMul (x y : W) : Res W := match lstV x, y with
  | some a, .fz (.int k) => if -(2 ^ 63) ≤ k ∧ k < 2 ^ 63 ∧ a.length * k.toNat ≤ 16777216 then .ok (.lst ((List.replicate k.toNat a).flatten.map W.fz)) else .err
  | _, _ => .err
def fTupMul : W → W → Res W
  | .fz (.tup a), .fz (.int k) => if a ≠ [] ∧ 2 ≤ k ∧ k ≤ 1000 ∧ a.length ≤ 1000 then .ok (.fz (.tup (List.replicate k.toNat a).flatten)) else .err
  | _, _ => .err
def fMul : W → W → Res W := fun x y => if isI x then fI (fun i j => if CMul i j then .ok (.int (i * j)) else if CMulW i j then .ok (.int (i * j)) else .err) x y else if isT x then fTupMul x y else fLstMul x y
def fDiv : W → W → Res W := fI fun i j => if CDivW i j then .ok (.int (i / j)) else .err
def fMod : W → W → Res W := fI fun i j => if 0 < j then .ok (.int (i % j)) else .err
def fPow : W → W → Res W := fI fun i j => if CPow i j then .ok (.int (i ^ j.toNat)) else .err
def fLt : W → W → Res W := fI fun i j => .ok (.bl (decide (i < j)))
def fLe : W → W → Res W := fI fun i j => .ok (.bl (decide (i ≤ j)))
def fGt : W → W → Res W := fI fun i j => .ok (.bl (decide (j < i)))
def fGe : W → W → Res W := fI fun i j => .ok (.bl (decide (j ≤ i)))
/-! ### == of data -/
mutual
def py : D → Option PyData
  | .non => some .none
  | .bl b => some (.bool b)
  | .int i => some (.int i)
  | .str s => some (.str s)
  | .tup ds => match pys ds with
    | some ps => some (.tuple ps)
    | none => none
  | .lst ds => match pys ds with
    | some ps => some (.list ps)
    | none => none
  | .scr ds => match pys ds with
    | some ps => some (.list ps)
    | none => none
  | .obj _ _ => none
def pys : List D → Option (List PyData)
  | [] => some []
  | d :: ds => match py d with
    | some p => match pys ds with
      | some ps => some (p :: ps)
      | none => none
    | none => none
end
mutual
theorem RepD.dp {C : Cfg} {H : Hp} {O : AP} : ∀ (d : D) (v : V) (p : PyData), RepD C H O d v → py d = some p → Dp C.K H v p
  | .non, v, p, h, e => by cases h; cases e; exact .non
  | .bl b, v, p, h, e => by cases h; cases e; exact .bl b
  | .int i, v, p, h, e => by cases h; cases e; exact .int i
  | .str s, v, p, h, e => by cases h; cases e; exact .str s
  | .tup ds, v, p, h, e => by
    obtain ⟨a, xs, e1, t, r⟩ := h
    subst e1
    simp only [py] at e
    cases q : pys ds with
    | none => rw [q] at e; cases e
    | some ps => rw [q] at e; cases e; exact .tup t.sq (RepDs.dp ds xs ps r q)
  | .lst ds, v, p, h, e => by
    obtain ⟨a, xs, e1, t, n, r⟩ := h
    subst e1
    simp only [py] at e
    cases q : pys ds with
    | none => rw [q] at e; cases e
    | some ps => rw [q] at e; cases e; exact .lst (SqL.of t) (RepDs.dp ds xs ps r q)
  | .scr ds, v, p, h, e => by
    obtain ⟨a, xs, e1, t, r⟩ := h
    subst e1
    simp only [py] at e
    cases q : pys ds with
    | none => rw [q] at e; cases e
    | some ps => rw [q] at e; cases e; exact .lst t.sq (RepDs.dp ds xs ps r q)
  | .obj _ _, v, p, h, e => by cases e
theorem RepDs.dp {C : Cfg} {H : Hp} {O : AP} : ∀ (ds : List D) (vs : List V) (ps : List PyData), RepDs C H O ds vs → pys ds = some ps → DpAll C.K H vs ps
  | [], vs, ps, h, e => by rw [show vs = [] from h]; cases e; exact .nil
  | d :: ds, vs, ps, h, e => by
    obtain ⟨x, r, e1, h1, h2⟩ := h
    subst e1
    simp only [pys] at e
    cases q : py d with
    | none => rw [q] at e; cases e
    | some p =>
      rw [q] at e
      cases q2 : pys ds with
      | none => rw [q2] at e; cases e
      | some ps' => rw [q2] at e; cases e; exact .cons (RepD.dp d x p h1 q) (RepDs.dp ds r ps' h2 q2)
end
def eqW (x y : W) : Res Bool := match py (frz x), py (frz y) with
  | some a, some b => if (SeqAt.shaped a && SeqAt.shaped b) = true then .ok (PyData.eqv a b) else .err
  | _, _ => .err
def fEq (x y : W) : Res W := (eqW x y).bind fun b => .ok (.fz (.bl b))
def fNe (x y : W) : Res W := (eqW x y).bind fun b => .ok (.fz (.bl (!b)))
def isNonW : W → Bool
  | .fz .non => true
  | _ => false
def fIsN (x y : W) : Res W := if isNonW y = true then .ok (.fz (.bl (isNonW x))) else .err
def fNotN (x y : W) : Res W := if isNonW y = true then .ok (.fz (.bl (!isNonW x))) else .err
section
variable {C : Cfg} {X : Cx}
theorem ops_strAdd : OpS C (fun x y H Q => ∃ i j, x = .str i ∧ y = .str j ∧ i.length + j.length ≤ sizeLine ∧ Q (.str (i ++ j)) H) fStrAdd := by
  intro H O x y wx wy w Lx Ly Q rx ry e q
  unfold fStrAdd at e
  split at e
  · rename_i a b
    split at e
    · rename_i hl
      cases e
      exact ⟨a, b, rx.2, ry.2, by rw [sizeLine_eq]; exact hl, gr_same (show RepD C H O (.str (a ++ b)) (.str (a ++ b)) from rfl) q⟩
    · cases e
  · cases e
theorem ops_tupAdd : OpS C (rCatA C.K) fTupAdd := by
  intro H O x y wx wy w Lx Ly Q rx ry e q
  unfold fTupAdd at e
  split at e
  · rename_i a b
    split at e
    · rename_i hl
      cases e
      obtain ⟨_, p1, xs, e1, t1, r1⟩ := rx
      obtain ⟨_, p2, ys, e2, t2, r2⟩ := ry
      have l1 := r1.length
      have l2 := r2.length
      refine ⟨p1, p2, xs, ys, e1, e2, t1.sq, t2.sq, by rw [sizeLine_eq]; omega, fun hx => ?_, fun hx hy => ?_, fun hx hy p hp => ?_⟩
      · subst hx
        have : a = [] := by cases a with | nil => rfl | cons _ _ => simp at l1
        subst this
        exact gr_same (show RepD C H O (.tup ([] ++ b)) (.ref p2) from ⟨p2, ys, rfl, t2, r2⟩) q
      · subst hy
        have : b = [] := by cases b with | nil => rfl | cons _ _ => simp at l2
        subst this
        exact gr_same (show RepD C H O (.tup (a ++ [])) (.ref p1) from ⟨p1, xs, rfl, t1, by rw [List.append_nil]; exact r1⟩) q
      · exact q (.ref p) _ _ [] (new_tup hp (RepDs.append r1 r2)) (Gr.new hp)
    · cases e
  · cases e
theorem ops_lstAdd : OpS C rCat fLstAdd := by
  intro H O x y wx wy w Lx Ly Q rx ry e q
  unfold fLstAdd at e
  split at e
  · rename_i a b ha hb
    split at e
    · rename_i hl
      cases e
      obtain ⟨p1, xs, e1, t1, r1⟩ := lstV_rep rx ha
      obtain ⟨p2, ys, e2, t2, r2⟩ := lstV_rep ry hb
      exact ⟨p1, p2, xs, ys, e1, e2, t1, t2, by rw [sizeLine_eq, r1.length, r2.length]; exact hl, fun p hp => q (.ref p) _ _ [p] (new_lst hp (RepDs.append r1 r2)) (Gr.newO hp)⟩
    · cases e
  · cases e
def rAddA (K : PySem.W.Frag) : R2 := fun x y H Q => (rI0 (fun i j => .int (i + j))) x y H Q ∨ (fun x y H Q => (∃ i j, x = .str i ∧ y = .str j ∧ i.length + j.length ≤ sizeLine ∧ Q (.str (i ++ j)) H) ∨ (fun x y H Q => rCatA K x y H Q ∨ rCat x y H Q) x y H Q) x y H Q
theorem ops_add : OpS C (rAddA C.K) fAdd := OpS.or (ops_I0 (gd := fun i j => .int (i + j)) fun _ _ _ _ => rfl) (OpS.or ops_strAdd (OpS.or ops_tupAdd ops_lstAdd fun x _ => isT x) fun x _ => isS x) fun x _ => isI x
theorem opr_add : OpR X (binaryOp .Add) (rAddA X.K) := op_add.or (op_add_str.or (op_catA.or op_cat))
theorem ops_sub : OpS C (rI0 fun i j => .int (i - j)) fSub := ops_I0 fun _ _ _ _ => rfl
theorem uns_neg : UnS C (rU fun i => .int (-i)) fNeg := by
  intro H O x wx w Lx Q rx e q
  unfold fNeg at e
  split at e
  · rename_i i
    cases e
    exact ⟨i, rx.2, gr_same (show RepD C H O (.int (-i)) (.int (-i)) from rfl) q⟩
  · cases e
theorem RepDs.rep {H : Hp} {O : AP} {ds : List D} {xs : List V} (h : RepDs C H O ds xs) : ∀ k : Nat, RepDs C H O (List.replicate k ds).flatten (List.replicate k xs).flatten
  | 0 => rfl
  | k + 1 => by rw [List.replicate_succ, List.replicate_succ, List.flatten_cons, List.flatten_cons]; exact RepDs.append h (RepDs.rep h k)
theorem ops_lstMul : OpS C rRep fLstMul := by
  intro H O x y wx wy w Lx Ly Q rx ry e q
  unfold fLstMul at e
  split at e
  · rename_i a k ha
    split at e
    · rename_i hl
      cases e
      obtain ⟨p1, xs, e1, t1, r1⟩ := lstV_rep rx ha
      exact ⟨p1, k, xs, e1, ry.2, t1, hl.1, hl.2.1, by rw [sizeLine_eq, r1.length]; exact hl.2.2, fun p hp => q (.ref p) _ _ [p] (new_lst hp (RepDs.rep r1 _)) (Gr.newO hp)⟩
    · cases e
  · cases e
theorem ops_tupMul : OpS C (rRepT C.K) fTupMul := by
  intro H O x y wx wy w Lx Ly Q rx ry e q
  unfold fTupMul at e
  split at e
  · rename_i a k
    split at e
    · rename_i hl
      cases e
      obtain ⟨_, p1, xs, e1, t1, r1⟩ := rx
      have l1 := r1.length
      refine ⟨p1, k, xs, e1, ry.2, t1.sq, fun z => hl.1 ?_, hl.2.1, hl.2.2.1, by rw [l1]; exact hl.2.2.2, fun p hp => q (.ref p) _ _ [] (new_tup hp (RepDs.rep r1 _)) (Gr.new hp)⟩
      subst z
      cases a with
      | nil => rfl
      | cons _ _ => simp at l1
    · cases e
  · cases e
def rMulI : R2 := fun x y H Q => (rI CMul fun i j => .int (i * j)) x y H Q ∨ (rI CMulW fun i j => .int (i * j)) x y H Q
theorem ops_mulI : OpS C rMulI (fI fun i j => if CMul i j then .ok (.int (i * j)) else if CMulW i j then .ok (.int (i * j)) else .err) := by
  intro H O x y wx wy w Lx Ly Q rx ry e q
  obtain ⟨i, j, d, rfl, rfl, e1, rfl⟩ := fI_ok e
  by_cases h1 : CMul i j
  · rw [if_pos h1] at e1; cases e1
    exact .inl ⟨i, j, rx.2, ry.2, h1, gr_same (show RepD C H O (.int (i * j)) (.int (i * j)) from rfl) q⟩
  · rw [if_neg h1] at e1
    by_cases h2 : CMulW i j
    · rw [if_pos h2] at e1; cases e1
      exact .inr ⟨i, j, rx.2, ry.2, h2, gr_same (show RepD C H O (.int (i * j)) (.int (i * j)) from rfl) q⟩
    · rw [if_neg h2] at e1; cases e1
def rMulA (K : PySem.W.Frag) : R2 := fun x y H Q => rMulI x y H Q ∨ (fun x y H Q => rRepT K x y H Q ∨ rRep x y H Q) x y H Q
theorem ops_mul : OpS C (rMulA C.K) fMul := OpS.or ops_mulI (OpS.or ops_tupMul ops_lstMul fun x _ => isT x) fun x _ => isI x
theorem opr_mul : OpR X (binaryOp .Mult) (rMulA X.K) := (op_mul.or op_mulW).or (op_repT.or op_rep)
theorem ops_div : OpS C (rI CDivW fun i j => .int (i / j)) fDiv := ops_I fun _ _ _ _ => rfl
theorem ops_mod : OpS C (rI (fun _ j => 0 < j) fun i j => .int (i % j)) fMod := ops_I (P := fun _ j => 0 < j) fun _ _ _ _ => rfl
theorem ops_pow : OpS C (rI CPow fun i j => .int (i ^ j.toNat)) fPow := ops_I fun _ _ _ _ => rfl
theorem ops_lt : OpS C (rI0 fun i j => .bl (decide (i < j))) fLt := ops_I0 fun _ _ _ _ => rfl
theorem ops_le : OpS C (rI0 fun i j => .bl (decide (i ≤ j))) fLe := ops_I0 fun _ _ _ _ => rfl
theorem ops_gt : OpS C (rI0 fun i j => .bl (decide (j < i))) fGt := ops_I0 fun _ _ _ _ => rfl
theorem ops_ge : OpS C (rI0 fun i j => .bl (decide (j ≤ i))) fGe := ops_I0 fun _ _ _ _ => rfl
theorem eqW_rep {H : Hp} {O : AP} {x y : V} {wx wy : W} {Lx Ly : List Addr} {b : Bool} (rx : RepW C H O wx x Lx) (ry : RepW C H O wy y Ly) (e : eqW wx wy = .ok b) : ∃ p q, Dp C.K H x p ∧ Dp C.K H y q ∧ SeqAt.shaped p = true ∧ SeqAt.shaped q = true ∧ PyData.eqv p q = b := by
  unfold eqW at e
  split at e
  · rename_i p q hp hq
    split at e
    · rename_i hs
      cases e
      obtain ⟨s1, s2⟩ := Bool.and_eq_true_iff.mp hs
      have rx' : RepD C H (Less O Lx) (frz wx) x := RepW.frz wx x Lx (fun a z => z) rx
      have ry' : RepD C H (Less O Ly) (frz wy) y := RepW.frz wy y Ly (fun a z => z) ry
      exact ⟨p, q, RepD.dp _ _ _ rx' hp, RepD.dp _ _ _ ry' hq, s1, s2, rfl⟩
    · cases e
  · cases e
theorem ops_eq : OpS C (rEqD C.K) fEq := by
  intro H O x y wx wy w Lx Ly Q rx ry e q
  obtain ⟨b, e1, e2⟩ := Res.of_bind e
  cases e2
  obtain ⟨p, p', h1, h2, h3, h4, h5⟩ := eqW_rep rx ry e1
  subst h5
  exact ⟨p, p', h1, h2, h3, h4, gr_same (show RepD C H O (.bl (PyData.eqv p p')) (.bl (PyData.eqv p p')) from rfl) q⟩
theorem ops_ne : OpS C (rNeD C.K) fNe := by
  intro H O x y wx wy w Lx Ly Q rx ry e q
  obtain ⟨b, e1, e2⟩ := Res.of_bind e
  cases e2
  obtain ⟨p, p', h1, h2, h3, h4, h5⟩ := eqW_rep rx ry e1
  subst h5
  exact ⟨p, p', h1, h2, h3, h4, gr_same (show RepD C H O (.bl (!PyData.eqv p p')) (.bl (!PyData.eqv p p')) from rfl) q⟩
theorem non_rep {H : Hp} {O : AP} {x : V} {wx : W} {Lx : List Addr} (rx : RepW C H O wx x Lx) : decide (x = .non) = isNonW wx := by
  cases wx with
  | lst ws => obtain ⟨a, _, _, e, _⟩ := rx; subst e; rfl
  | fz d =>
    cases d with
    | non => obtain ⟨_, e⟩ := rx; cases e; rfl
    | bl b => obtain ⟨_, e⟩ := rx; cases e; rfl
    | int i => obtain ⟨_, e⟩ := rx; cases e; rfl
    | str s => obtain ⟨_, e⟩ := rx; cases e; rfl
    | tup ds => obtain ⟨_, a, _, e, _⟩ := rx; subst e; rfl
    | lst ds => obtain ⟨_, a, _, e, _⟩ := rx; subst e; rfl
    | scr ds => obtain ⟨_, a, _, e, _⟩ := rx; subst e; rfl
    | obj c fs => obtain ⟨_, a, _, _, e, _⟩ := rx; subst e; rfl
theorem ops_isN : OpS C (fun x y H Q => y = .non ∧ Q (.bl (decide (x = .non))) H) fIsN := by
  intro H O x y wx wy w Lx Ly Q rx ry e q
  unfold fIsN at e
  split at e
  · rename_i hn
    cases e
    have hy := non_rep ry
    rw [hn] at hy
    refine ⟨of_decide_eq_true hy, ?_⟩
    rw [non_rep rx]
    exact gr_same (show RepD C H O (.bl _) (.bl _) from rfl) q
  · cases e
theorem ops_notN : OpS C (fun x y H Q => y = .non ∧ Q (.bl (!decide (x = .non))) H) fNotN := by
  intro H O x y wx wy w Lx Ly Q rx ry e q
  unfold fNotN at e
  split at e
  · rename_i hn
    cases e
    have hy := non_rep ry
    rw [hn] at hy
    refine ⟨of_decide_eq_true hy, ?_⟩
    rw [non_rep rx]
    exact gr_same (show RepD C H O (.bl _) (.bl _) from rfl) q
  · cases e
end
/-! ### built-ins -/
def fLen : List W → Res W
  | [.fz (.str s)] => if s.length ≤ 16777216 then .ok (.fz (.int s.length)) else .err
  | [x] => match seqV x with
    | some ds => .ok (.fz (.int ds.length))
    | none => .err
  | _ => .err
def fAbs : List W → Res W
  | [.fz (.int i)] => .ok (.fz (.int (if i < 0 then -i else i)))
  | _ => .err
def fMax2 : List W → Res W
  | [.fz (.int i), .fz (.int j)] => .ok (.fz (.int (if j > i then j else i)))
  | _ => .err
def fMin2 : List W → Res W
  | [.fz (.int i), .fz (.int j)] => .ok (.fz (.int (if j < i then j else i)))
  | _ => .err
def fInt : List W → Res W
  | [.fz (.int i)] => .ok (.fz (.int i))
  | [.fz (.bl k)] => .ok (.fz (.int (if k then 1 else 0)))
  | _ => .err
/-- the ints of a list -/
def intsD : List D → Option (List Int)
  | [] => some []
  | .int i :: ds => match intsD ds with
    | some ns => some (i :: ns)
    | none => none
  | _ :: _ => none
def blsD : List D → Option (List Bool)
  | [] => some []
  | .bl i :: ds => match blsD ds with
    | some ns => some (i :: ns)
    | none => none
  | _ :: _ => none
/-- a list (or the script) -/
def lsV : W → Option (List D)
  | .fz (.scr ds) => some ds
  | w => lstV w
def fSum : List W → Res W
  | [x] => match lsV x with
    | some ds => match intsD ds with
      | some ns => .ok (.fz (.int ns.sum))
      | none => .err
    | none => .err
  | _ => .err
def maxOf : List Int → Option Int
  | [] => none
  | n :: ns => match maxOf ns with
    | some m => some (if m > n then m else n)
    | none => some n
def minOf : List Int → Option Int
  | [] => none
  | n :: ns => match minOf ns with
    | some m => some (if m < n then m else n)
    | none => some n
def fMax1 : List W → Res W
  | [x] => match lsV x with
    | some ds => match intsD ds with
      | some ns => match maxOf ns with
        | some m => .ok (.fz (.int m))
        | none => .err
      | none => .err
    | none => .err
  | _ => .err
def fMin1 : List W → Res W
  | [x] => match lsV x with
    | some ds => match intsD ds with
      | some ns => match minOf ns with
        | some m => .ok (.fz (.int m))
        | none => .err
      | none => .err
    | none => .err
  | _ => .err
def fAll : List W → Res W
  | [x] => match lsV x with
    | some ds => match blsD ds with
      | some ns => .ok (.fz (.bl (ns.all id)))
      | none => .err
    | none => .err
  | _ => .err
def fAny : List W → Res W
  | [x] => match lsV x with
    | some ds => match blsD ds with
      | some ns => .ok (.fz (.bl (ns.any id)))
      | none => .err
    | none => .err
  | _ => .err
def fTuple : List W → Res W
  | [x] => match seqV x with
    | some ds => .ok (.fz (.tup ds))
    | none => .err
  | _ => .err
def fList : List W → Res W
  | [x] => match seqV x with
    | some ds => .ok (.lst (ds.map W.fz))
    | none => .err
  | _ => .err
section
variable {C : Cfg} {H : Hp} {O : AP}
theorem lsV_rep {w : W} {x : V} {L : List Addr} {ds : List D} (h : RepW C H O w x L) (e : lsV w = some ds) : ∃ a xs, x = .ref a ∧ SqL C.K H a xs ∧ RepDs C H O ds xs := by
  have gen : ∀ w, RepW C H O w x L → lstV w = some ds → ∃ a xs, x = .ref a ∧ SqL C.K H a xs ∧ RepDs C H O ds xs := fun w h e => by
    obtain ⟨a, xs, e1, h1, r⟩ := lstV_rep h e
    exact ⟨a, xs, e1, SqL.of h1, r⟩
  cases w with
  | lst ws => exact gen _ h e
  | fz d =>
    cases d with
    | scr es =>
      cases e
      obtain ⟨_, a, xs, e1, h1, r⟩ := h
      exact ⟨a, xs, e1, h1.sq, r⟩
    | _ => exact gen _ h e
theorem intsD_rep : ∀ {ds : List D} {xs : List V} {ns : List Int}, RepDs C H O ds xs → intsD ds = some ns → xs = ns.map V.int
  | [], xs, ns, h, e => by cases e; exact h
  | d :: ds, xs, ns, h, e => by
    obtain ⟨x, r, e1, h1, h2⟩ := h
    subst e1
    cases d with
    | int i =>
      simp only [intsD] at e
      cases q : intsD ds with
      | none => rw [q] at e; cases e
      | some ms => rw [q] at e; cases e; rw [intsD_rep h2 q, show x = .int i from h1]; rfl
    | _ => cases e
theorem blsD_rep : ∀ {ds : List D} {xs : List V} {ns : List Bool}, RepDs C H O ds xs → blsD ds = some ns → xs = ns.map V.bl
  | [], xs, ns, h, e => by cases e; exact h
  | d :: ds, xs, ns, h, e => by
    obtain ⟨x, r, e1, h1, h2⟩ := h
    subst e1
    cases d with
    | bl i =>
      simp only [blsD] at e
      cases q : blsD ds with
      | none => rw [q] at e; cases e
      | some ms => rw [q] at e; cases e; rw [blsD_rep h2 q, show x = .bl i from h1]; rfl
    | _ => cases e
theorem maxOf_spec : ∀ {ns : List Int} {m : Int}, maxOf ns = some m → m ∈ ns ∧ ∀ y ∈ ns, y ≤ m
  | [], m, h => by cases h
  | n :: ns, m, h => by
    simp only [maxOf] at h
    cases q : maxOf ns with
    | none =>
      rw [q] at h; cases h
      have : ns = [] := by
        cases ns with
        | nil => rfl
        | cons a r => simp only [maxOf] at q; split at q <;> cases q
      subst this
      exact ⟨by simp, fun y hy => by simp at hy; omega⟩
    | some k =>
      rw [q] at h
      obtain ⟨h1, h2⟩ := maxOf_spec q
      have e : m = if k > n then k else n := (Option.some.inj h).symm
      by_cases hk : k > n
      · rw [if_pos hk] at e; subst e
        exact ⟨by simp [h1], fun y hy => by
          rcases List.mem_cons.mp hy with z | z
          · omega
          · exact h2 y z⟩
      · rw [if_neg hk] at e; subst e
        exact ⟨by simp, fun y hy => by
          rcases List.mem_cons.mp hy with z | z
          · omega
          · have := h2 y z; omega⟩
theorem minOf_spec : ∀ {ns : List Int} {m : Int}, minOf ns = some m → m ∈ ns ∧ ∀ y ∈ ns, m ≤ y
  | [], m, h => by cases h
  | n :: ns, m, h => by
    simp only [minOf] at h
    cases q : minOf ns with
    | none =>
      rw [q] at h; cases h
      have : ns = [] := by
        cases ns with
        | nil => rfl
        | cons a r => simp only [minOf] at q; split at q <;> cases q
      subst this
      exact ⟨by simp, fun y hy => by simp at hy; omega⟩
    | some k =>
      rw [q] at h
      obtain ⟨h1, h2⟩ := minOf_spec q
      have e : m = if k < n then k else n := (Option.some.inj h).symm
      by_cases hk : k < n
      · rw [if_pos hk] at e; subst e
        exact ⟨by simp [h1], fun y hy => by
          rcases List.mem_cons.mp hy with z | z
          · omega
          · exact h2 y z⟩
      · rw [if_neg hk] at e; subst e
        exact ⟨by simp, fun y hy => by
          rcases List.mem_cons.mp hy with z | z
          · omega
          · have := h2 y z; omega⟩
end
section
variable {C : Cfg} {X : Cx}
theorem cs_len : CallS C (fun xs H Q => (∃ p ys, xs = [.ref p] ∧ (SqL C.K H p ys ∨ SqT C.K H p ys) ∧ Q (.int ys.length) H) ∨ ∃ z, xs = [.str z] ∧ z.length ≤ sizeLine ∧ Q (.int z.length) H) fLen := by
  intro H O vs ws w Q r e q
  unfold fLen at e
  split at e
  · rename_i s
    obtain ⟨v, vr, L, e1, r1, r2⟩ := r
    rw [show vr = [] from r2] at e1
    split at e
    · rename_i hs
      cases e
      exact .inr ⟨s, by rw [e1, r1.2], by rw [sizeLine_eq]; exact hs, gr_same (show RepD C H O (.int s.length) (.int s.length) from rfl) q⟩
    · cases e
  · rename_i x _
    obtain ⟨v, vr, L, e1, r1, r2⟩ := r
    rw [show vr = [] from r2] at e1
    split at e
    · rename_i ds hd
      cases e
      obtain ⟨a, xs, e2, h1, rs⟩ := seqV_rep r1 hd
      refine .inl ⟨a, xs, by rw [e1, e2], h1, ?_⟩
      rw [rs.length]
      exact gr_same (show RepD C H O (.int ds.length) (.int ds.length) from rfl) q
    · cases e
  · cases e
theorem cr_lenA : CallR X (.builtin "len") (fun xs H Q => (∃ p ys, xs = [.ref p] ∧ (SqL X.K H p ys ∨ SqT X.K H p ys) ∧ Q (.int ys.length) H) ∨ ∃ z, xs = [.str z] ∧ z.length ≤ sizeLine ∧ Q (.int z.length) H) := call_len_seq.or call_len_str
theorem cs_abs : CallS C (fun xs H Q => ∃ i, xs = [.int i] ∧ Q (.int (if i < 0 then -i else i)) H) fAbs := by
  intro H O vs ws w Q r e q
  unfold fAbs at e
  split at e
  · rename_i i
    cases e
    obtain ⟨v, vr, L, e1, r1, r2⟩ := r
    rw [show vr = [] from r2, show v = .int i from r1.2] at e1
    exact ⟨i, e1, gr_same (show RepD C H O (.int _) (.int _) from rfl) q⟩
  · cases e
theorem cs_max2 : CallS C (fun xs H Q => ∃ i j, xs = [.int i, .int j] ∧ Q (.int (if j > i then j else i)) H) fMax2 := by
  intro H O vs ws w Q r e q
  unfold fMax2 at e
  split at e
  · rename_i i j
    cases e
    obtain ⟨v, vr, L, e1, r1, v2, vr2, L2, e2, r2, r3⟩ := r
    rw [e2, show vr2 = [] from r3, show v = .int i from r1.2, show v2 = .int j from r2.2] at e1
    exact ⟨i, j, e1, gr_same (show RepD C H O (.int _) (.int _) from rfl) q⟩
  · cases e
theorem cs_min2 : CallS C (fun xs H Q => ∃ i j, xs = [.int i, .int j] ∧ Q (.int (if j < i then j else i)) H) fMin2 := by
  intro H O vs ws w Q r e q
  unfold fMin2 at e
  split at e
  · rename_i i j
    cases e
    obtain ⟨v, vr, L, e1, r1, v2, vr2, L2, e2, r2, r3⟩ := r
    rw [e2, show vr2 = [] from r3, show v = .int i from r1.2, show v2 = .int j from r2.2] at e1
    exact ⟨i, j, e1, gr_same (show RepD C H O (.int _) (.int _) from rfl) q⟩
  · cases e
theorem cs_int : CallS C (fun xs H Q => (∃ i, xs = [.int i] ∧ Q (.int i) H) ∨ ∃ k, xs = [.bl k] ∧ Q (.int (if k then 1 else 0)) H) fInt := by
  intro H O vs ws w Q r e q
  unfold fInt at e
  split at e
  · rename_i i
    cases e
    obtain ⟨v, vr, L, e1, r1, r2⟩ := r
    rw [show vr = [] from r2, show v = .int i from r1.2] at e1
    exact .inl ⟨i, e1, gr_same (show RepD C H O (.int _) (.int _) from rfl) q⟩
  · rename_i i
    cases e
    obtain ⟨v, vr, L, e1, r1, r2⟩ := r
    rw [show vr = [] from r2, show v = .bl i from r1.2] at e1
    exact .inr ⟨i, e1, gr_same (show RepD C H O (.int _) (.int _) from rfl) q⟩
  · cases e
theorem cs_sum : CallS C (rSum C.K) fSum := by
  intro H O vs ws w Q r e q
  unfold fSum at e
  split at e
  · rename_i x
    split at e
    · rename_i ds hd
      split at e
      · rename_i ns hn
        cases e
        obtain ⟨v, vr, L, e1, r1, r2⟩ := r
        rw [show vr = [] from r2] at e1
        obtain ⟨a, xs, e2, h1, rs⟩ := lsV_rep r1 hd
        rw [intsD_rep rs hn] at h1
        exact ⟨a, ns, by rw [e1, e2], h1, gr_same (show RepD C H O (.int _) (.int _) from rfl) q⟩
      · cases e
    · cases e
  · cases e
theorem cs_max1 : CallS C (rMax C.K) fMax1 := by
  intro H O vs ws w Q r e q
  unfold fMax1 at e
  split at e
  · rename_i x
    split at e
    · rename_i ds hd
      split at e
      · rename_i ns hn
        split at e
        · rename_i m hm
          cases e
          obtain ⟨v, vr, L, e1, r1, r2⟩ := r
          rw [show vr = [] from r2] at e1
          obtain ⟨a, xs, e2, h1, rs⟩ := lsV_rep r1 hd
          rw [intsD_rep rs hn] at h1
          obtain ⟨m1, m2⟩ := maxOf_spec hm
          refine ⟨a, ns, by rw [e1, e2], h1, List.length_pos_of_mem m1, fun m' h1' h2' => ?_⟩
          have : m' = m := Int.le_antisymm (m2 m' h1') (h2' m m1)
          subst this
          exact gr_same (show RepD C H O (.int _) (.int _) from rfl) q
        · cases e
      · cases e
    · cases e
  · cases e
theorem cs_min1 : CallS C (rMin C.K) fMin1 := by
  intro H O vs ws w Q r e q
  unfold fMin1 at e
  split at e
  · rename_i x
    split at e
    · rename_i ds hd
      split at e
      · rename_i ns hn
        split at e
        · rename_i m hm
          cases e
          obtain ⟨v, vr, L, e1, r1, r2⟩ := r
          rw [show vr = [] from r2] at e1
          obtain ⟨a, xs, e2, h1, rs⟩ := lsV_rep r1 hd
          rw [intsD_rep rs hn] at h1
          obtain ⟨m1, m2⟩ := minOf_spec hm
          refine ⟨a, ns, by rw [e1, e2], h1, List.length_pos_of_mem m1, fun m' h1' h2' => ?_⟩
          have : m' = m := Int.le_antisymm (h2' m m1) (m2 m' h1')
          subst this
          exact gr_same (show RepD C H O (.int _) (.int _) from rfl) q
        · cases e
      · cases e
    · cases e
  · cases e
theorem cs_all : CallS C (rAll C.K) fAll := by
  intro H O vs ws w Q r e q
  unfold fAll at e
  split at e
  · rename_i x
    split at e
    · rename_i ds hd
      split at e
      · rename_i ns hn
        cases e
        obtain ⟨v, vr, L, e1, r1, r2⟩ := r
        rw [show vr = [] from r2] at e1
        obtain ⟨a, xs, e2, h1, rs⟩ := lsV_rep r1 hd
        rw [blsD_rep rs hn] at h1
        exact ⟨a, ns, by rw [e1, e2], h1, gr_same (show RepD C H O (.bl _) (.bl _) from rfl) q⟩
      · cases e
    · cases e
  · cases e
theorem cs_any : CallS C (rAny C.K) fAny := by
  intro H O vs ws w Q r e q
  unfold fAny at e
  split at e
  · rename_i x
    split at e
    · rename_i ds hd
      split at e
      · rename_i ns hn
        cases e
        obtain ⟨v, vr, L, e1, r1, r2⟩ := r
        rw [show vr = [] from r2] at e1
        obtain ⟨a, xs, e2, h1, rs⟩ := lsV_rep r1 hd
        rw [blsD_rep rs hn] at h1
        exact ⟨a, ns, by rw [e1, e2], h1, gr_same (show RepD C H O (.bl _) (.bl _) from rfl) q⟩
      · cases e
    · cases e
  · cases e
theorem cs_tuple : CallS C (fun xs H Q => ∃ p ys, xs = [.ref p] ∧ ((SqL C.K H p ys ∧ ∀ l, H l = none → Q (.ref l) (upd H l (.tup ys))) ∨ (SqT C.K H p ys ∧ Q (.ref p) H))) fTuple := by
  intro H O vs ws w Q r e q
  unfold fTuple at e
  split at e
  · rename_i x
    split at e
    · rename_i ds hd
      cases e
      obtain ⟨v, vr, L, e1, r1, r2⟩ := r
      rw [show vr = [] from r2] at e1
      by_cases ht : isT x = true
      · cases x with
        | lst _ => cases ht
        | fz d =>
          cases d with
          | tup es =>
            cases hd
            obtain ⟨_, a, xs, e2, t, rs⟩ := r1
            exact ⟨a, xs, by rw [e1, e2], .inr ⟨t.sq, gr_same (show RepD C H O (.tup ds) (.ref a) from ⟨a, xs, rfl, t, rs⟩) q⟩⟩
          | _ => cases ht
      · have hl : lsV x = some ds := by
          cases x with
          | lst ws => exact hd
          | fz d =>
            cases d with
            | tup es => exact absurd rfl ht
            | _ => exact hd
        obtain ⟨a, xs, e2, h1, rs⟩ := lsV_rep r1 hl
        exact ⟨a, xs, by rw [e1, e2], .inl ⟨h1, fun l hp => q (.ref l) _ _ [] (new_tup hp rs) (Gr.new hp)⟩⟩
    · cases e
  · cases e
theorem cs_list : CallS C (fun xs H Q => ∃ p ys, xs = [.ref p] ∧ (SqL C.K H p ys ∨ SqT C.K H p ys) ∧ ∀ l, H l = none → Q (.ref l) (upd H l (.lst ys))) fList := by
  intro H O vs ws w Q r e q
  unfold fList at e
  split at e
  · rename_i x
    split at e
    · rename_i ds hd
      cases e
      obtain ⟨v, vr, L, e1, r1, r2⟩ := r
      rw [show vr = [] from r2] at e1
      obtain ⟨a, xs, e2, h1, rs⟩ := seqV_rep r1 hd
      exact ⟨a, xs, by rw [e1, e2], h1, fun l hp => q (.ref l) _ _ [l] (new_lst hp rs) (Gr.newO hp)⟩
    · cases e
  · cases e
end
end Mi
/-! Mi: slices, isinstance, what is walked, calls by names -/
namespace Mi
open PySem PySem.Spec PyProof.Rows L2
/-! ### slices -/
def cutD (ds : List D) (lo hi : Option Int) : List D := (ds.drop (HT.sIx ds.length 0 lo)).take (HT.sIx ds.length ds.length hi - HT.sIx ds.length 0 lo)
theorem RepDs.cut {C : Cfg} {H : Hp} {O : AP} {ds : List D} {xs : List V} (h : RepDs C H O ds xs) (lo hi : Option Int) : RepDs C H O (cutD ds lo hi) (cutV xs lo hi) := by
  unfold cutD cutV
  rw [h.length]
  exact RepDs.take _ (RepDs.drop _ h)
abbrev CO := En → Res (Option Int × En)
def tO (C : Cfg) (qt : Bool) (c : CO) : TO := fun σ H Q => ∃ O L ρ o ρ', EnvR C H O ρ σ L ∧ L.Nodup ∧ c ρ = .ok (o, ρ') ∧ ∀ H' O' L', PostT C σ H O L ρ qt ρ' H' O' L' → Q o H'
def SO (X : Cx) (cl : Nat → Addr) (qt : Bool) (e : Option Expr) (c : CO) : Prop := PO X e (tO ⟨X.K, cl⟩ qt c)
theorem PO.imp {X : Cx} {e : Option Expr} {t t' : TO} (h : PO X e t) (k : ∀ σ H Q, t' σ H Q → t σ H Q) : PO X e t' := by
  obtain ⟨r⟩ := h
  exact ⟨fun pins s σ H Q I q => r pins s σ H Q I (k σ H Q q)⟩
def oNone : CO := fun ρ => .ok (none, ρ)
def oSome (c : CE) : CO := fun ρ => (c ρ).bind fun (b, ρ1) => (intOf b).bind fun k => .ok (some k, ρ1)
def SlS (C : Cfg) (r : V → Option Int → Option Int → Hp → VK → Prop) (f : W → Option Int → Option Int → Res W) : Prop := ∀ (H : Hp) (O : AP) (x : V) (wx w : W) (lo hi : Option Int) (Lx : List Addr) (Q : VK), RepW C H O wx x Lx → f wx lo hi = .ok w →
  (∀ v H' O' Lw, RepW C H' O' w v Lw → Gr H O H' O' Lw → Q v H') → r x lo hi H Q
def cSl (f : W → Option Int → Option Int → Res W) (qs : Bool) (ca : CE) (cl ch : CO) : CE := fun ρ => (ca ρ).bind fun (a, ρ1) => (pend qs a).bind fun _ => (cl ρ1).bind fun (lo, ρ2) => (ch ρ2).bind fun (hi, ρ3) => (cont a ρ3).bind fun x => (f x lo hi).bind fun w => .ok (.tmp w, ρ3)
def fSl (x : W) (lo hi : Option Int) : Res W := if isT x = true then (match tupV x with
  | some ds => .ok (.fz (.tup (cutD ds lo hi)))
  | none => .err) else match lsV x with
  | some ds => .ok (.lst ((cutD ds lo hi).map W.fz))
  | none => .err
section
variable {X : Cx} {cl : Nat → Addr} {e : Expr} {ca : CE} {qa : Bool} {pos : Pos}
theorem so_none : SO X cl true none oNone := by
  refine PO.imp po_none fun σ H Q h => ?_
  obtain ⟨O, L, ρ, o, ρ', env, nd, c, q⟩ := h
  cases c
  exact q H O L ⟨env, nd, Stp.refl _ _ _, fun _ => ⟨rfl, fun _ _ e => e⟩⟩
theorem so_some (h : SE X cl qa e ca) : SO X cl qa (some e) (oSome ca) := by
  refine PO.imp (po_some h) fun σ H Q h => ?_
  obtain ⟨O, L, ρ, o, ρ', env, nd, c, q⟩ := h
  obtain ⟨⟨b, ρ1⟩, c1, c⟩ := Res.of_bind c
  obtain ⟨k, c2, c⟩ := Res.of_bind c
  cases c
  have eb := intOf_ok c2
  subst eb
  refine ⟨O, L, ρ, _, ρ', env, nd, c1, fun v H1 O1 L1 Lb P => ?_⟩
  obtain ⟨e1, e2⟩ := P.br
  subst e1
  have nd' := P.nd
  have st' := P.st
  rw [List.append_nil] at nd' st'
  exact ⟨k, e2, q H1 O1 L1 ⟨P.env, nd', st', P.qu⟩⟩
theorem PostT.asE {C : Cfg} {σ : Sg} {H H1 : Hp} {O O1 : AP} {L L1 : List Addr} {ρ ρ1 : En} (P : PostT C σ H O L ρ qa ρ1 H1 O1 L1) : PostE C σ H O L ρ qa (.tmp (.fz .non)) ρ1 .non H1 O1 L1 [] :=
  ⟨P.env, ⟨rfl, rfl⟩, by rw [List.append_nil]; exact P.nd, by rw [List.append_nil]; exact P.st, P.qu⟩
theorem se_slice {lo hi : Option Expr} {co ch : CO} {ql qh : Bool} {p2 : Pos} {r : V → Option Int → Option Int → Hp → VK → Prop} {f : W → Option Int → Option Int → Res W} (hr : SlR X r) (hs : SlS ⟨X.K, cl⟩ r f) (he : SE X cl qa e ca) (hl : SO X cl ql lo co) (hh : SO X cl qh hi ch) :
    SE X cl (qa && (ql && qh)) (.Subscript e (.Slice lo hi none p2) pos) (cSl f (ql && qh) ca co ch) := by
  refine PE.imp (pe_slice hr he hl hh) fun σ H Q h => ?_
  obtain ⟨O, L, ρ, b0, ρ', env, nd, c, q⟩ := h
  obtain ⟨⟨a, ρ1⟩, c1, c⟩ := Res.of_bind c
  obtain ⟨_, c2, c⟩ := Res.of_bind c
  obtain ⟨⟨l, ρ2⟩, c3, c⟩ := Res.of_bind c
  obtain ⟨⟨u, ρ3⟩, c4, c⟩ := Res.of_bind c
  obtain ⟨x, c5, c⟩ := Res.of_bind c
  obtain ⟨w, c6, c⟩ := Res.of_bind c
  cases c
  refine ⟨O, L, ρ, a, ρ1, env, nd, c1, fun va H1 O1 L1 La P1 => ?_⟩
  have own1 : ∀ z ∈ L1, O1 z := fun z hz => (P1.env.own z hz).1
  refine ⟨O1, L1, ρ1, l, ρ2, P1.env, (List.nodup_append.mp P1.nd).1, c3, fun H2 O2 L2 P2 => ?_⟩
  refine ⟨O2, L2, ρ2, u, ρ', P2.env, P2.nd, c4, fun H3 O3 L3 P3 => ?_⟩
  have P4 := (P2.trans P3).asE
  obtain ⟨ba, nd2⟩ := P1.br.pend own1 P1.nd P4 c2
  rw [List.append_nil] at nd2
  have ndd := List.nodup_append.mp nd2
  have d : ∀ z ∈ L3, z ∉ La := fun z hz q => ndd.2.2 z hz z q rfl
  obtain ⟨Lx, rx, _⟩ := cont_rep (T := La) ba P3.env ndd.1 d (fun z hz => hz) c5
  refine hs H3 (Less O3 La) va x w l u Lx _ rx c6 fun v H' O' Lw rw' g => ?_
  refine q v H' O' L3 Lw (post_of P3.env nd2 ?_ (fun hq => ?_) g rw')
  · exact P1.st.trans ((P2.st.trans P3.st).frame La)
  · have hq' : qa = true ∧ (ql = true ∧ qh = true) := by simpa using hq
    obtain ⟨h1, h2, h3⟩ := hq'
    exact ⟨(P3.qu h3).1.trans ((P2.qu h2).1.trans (P1.qu h1).1), fun z o e => (P3.qu h3).2 z o ((P2.qu h2).2 z o ((P1.qu h1).2 z o e))⟩
theorem cutV_whole {xs : List V} {lo hi : Option Int} (h : HT.sIx xs.length 0 lo = 0 ∧ HT.sIx xs.length xs.length hi = xs.length) : cutV xs lo hi = xs := by
  unfold cutV
  rw [h.1, h.2]
  simp
theorem sls_seq {C : Cfg} : SlS C (fun x lo hi H Q => rSlL C.K x lo hi H Q ∨ rSlA C.K x lo hi H Q) fSl := by
  intro H O x wx w lo hi Lx Q rx e q
  unfold fSl at e
  split at e
  · rename_i ht
    split at e
    · rename_i ds hd
      cases e
      obtain ⟨a, xs, e1, t, r⟩ := tupV_rep rx hd
      refine .inr ⟨a, xs, e1, t.sq, fun hw => ?_, fun hw p hp => q (.ref p) _ _ [] (new_tup hp (RepDs.cut r lo hi)) (Gr.new hp)⟩
      have r2 := RepDs.cut r lo hi
      rw [cutV_whole hw] at r2
      exact gr_same (show RepD C H O (.tup (cutD ds lo hi)) (.ref a) from ⟨a, xs, rfl, t, r2⟩) q
    · cases e
  · split at e
    · rename_i ds hd
      cases e
      obtain ⟨a, xs, e1, h1, r⟩ := lsV_rep rx hd
      exact .inl ⟨a, xs, e1, h1, fun p hp => q (.ref p) _ _ [p] (new_lst hp (RepDs.cut r lo hi)) (Gr.newO hp)⟩
    · cases e
theorem slr_seq : SlR X (fun x lo hi H Q => rSlL X.K x lo hi H Q ∨ rSlA X.K x lo hi H Q) := sl_list.or sl_tupA
end
/-! ### isinstance -/
def tyW : W → Option String
  | .fz .non => some "NoneType"
  | .fz (.bl _) => some "bool"
  | .fz (.int _) => some "int"
  | .fz (.str _) => some "str"
  | .fz (.tup _) => some "tuple"
  | .fz (.lst _) => some "list"
  | .fz (.scr _) => some "list"
  | .lst _ => some "list"
  | .fz (.obj _ _) => none
/-- the answers, for the types that stand here -/
def isiB (t T : String) : Bool := t == T || (t == "bool" && T == "int")
def tysOk (T : String) : Bool := ["int", "bool", "str", "tuple", "list"].contains T
theorem isiB_kit {w : W} {t T : String} (h : tyW w = some t) (hT : tysOk T = true) : kitB t T = some (isiB t T) := by
  have h1 : t ∈ ["NoneType", "bool", "int", "str", "tuple", "list"] := by
    cases w with
    | lst _ => cases h; decide
    | fz d => cases d <;> first | (cases h; decide) | cases h
  have h2 : T ∈ ["int", "bool", "str", "tuple", "list"] := by simpa [tysOk] using hT
  have key : ∀ t ∈ ["NoneType", "bool", "int", "str", "tuple", "list"], ∀ T ∈ ["int", "bool", "str", "tuple", "list"], kitB t T = some (isiB t T) := by decide +kernel
  exact key t h1 T h2
theorem tyW_rep {C : Cfg} {H : Hp} {O : AP} {w : W} {x : V} {L : List Addr} {t : String} (r : RepW C H O w x L) (h : tyW w = some t) : TyX C.K H x (.type t) := by
  cases w with
  | lst ws =>
    cases h
    obtain ⟨a, xs, _, e, h1, _⟩ := r
    subst e
    exact .base (.lst h1)
  | fz d =>
    cases d with
    | non => cases h; rw [r.2]; exact .base .non
    | bl b => cases h; rw [r.2]; exact .base (.bl b)
    | int i => cases h; rw [r.2]; exact .base (.int i)
    | str s => cases h; rw [r.2]; exact .base (.str s)
    | tup ds =>
      cases h
      obtain ⟨_, a, xs, e, t, _⟩ := r
      subst e
      rcases t with ⟨h1 | ⟨o, h1⟩, _⟩ | ⟨o, its, n, h1, h2, _⟩
      · exact .base (.tup h1)
      · exact .fTuple h1
      · exact .kTuple h1 h2
    | lst ds =>
      cases h
      obtain ⟨_, a, xs, e, h1, _⟩ := r
      subst e
      exact .base (.lst h1)
    | scr ds =>
      cases h
      obtain ⟨_, a, xs, e, t, _⟩ := r
      subst e
      rcases t with ⟨h1 | ⟨o, h1⟩, _⟩ | ⟨o, its, n, h1, h2, _⟩
      · exact .base (.lst h1)
      · exact .base (.frz h1)
      · exact .kList h1 h2
    | obj c fs => cases h
def fIsi (Ts : List String) (w : W) : Res W := match tyW w with
  | some t => .ok (.fz (.bl (Ts.any fun T => isiB t T)))
  | none => .err
theorem kitAny_of {K : PySem.W.Frag} {w : W} {t : String} (h : tyW w = some t) : ∀ {Ts : List String}, Ts.all tysOk = true → PySem.W.kitAny K (.type t) (Ts.map Value.type) = some (Ts.any fun T => isiB t T)
  | [], _ => kitAny_nil
  | T :: Ts, hT => by
    have hT' : tysOk T = true ∧ Ts.all tysOk = true := by simpa using hT
    have h1 : PySem.W.kitOne K (.type t) (.type T) = some (isiB t T) := kit_ty (isiB_kit h hT'.1)
    refine kitAny_cons h1 (fun hb => ?_) fun hb => ?_
    · rw [kitAny_of h hT'.2, List.any_cons, hb, Bool.false_or]
    · rw [List.any_cons, hb, Bool.true_or]
section
variable {X : Cx} {cl : Nat → Addr} {e : Expr} {ca : CE} {qa : Bool} {pos p p2 p3 p4 p5 : Pos}
/-- the type that a built-in name stands for -/
structure TyN (X : Cx) (x : Str) (T : String) : Prop where
  gl : Gl X x
  mg : X.mg x = none
  bo : bootBuiltins x = some (.type T)
  n1 : x ≠ "__name__"
  n2 : (x == ("__debug__" : Str)) = false
theorem TyN.pe {x : Str} {T : String} (h : TyN X x T) : PE X (.Name x pos) (tC (.ty T)) := pe_bltn h.gl h.mg h.bo rfl h.n1 h.n2
theorem isi_core {C : Cfg} {Ts : List String} {σ : Sg} {H : Hp} {Q : VK} {r : V → Hp → VK → Prop} (hr : ∀ (H : Hp) (O : AP) (x : V) (w : W) (L : List Addr) (t : String) (Q : VK), RepW C H O w x L → tyW w = some t → (∀ H', (∀ a o, H a = some o → H' a = some o) → Q (.bl (Ts.any fun T => isiB t T)) H') → r x H Q)
    (h : tE C qa (cUn (fIsi Ts) ca) σ H Q) : tUn r (tE C qa ca) σ H Q := by
  refine un_core (f := fIsi Ts) (fun H O x wx w Lx Q rx e q => ?_) h
  unfold fIsi at e
  split at e
  · rename_i t ht
    cases e
    refine hr H O x wx Lx t Q rx ht fun H' ex => ?_
    exact q (.bl _) H' O [] ⟨rfl, rfl⟩ ⟨ex, fun a z => .inl z, fun a o _ z => z, fun a z => by simp at z, List.nodup_nil⟩
  · cases e
theorem se_isi1 {x : Str} {T : String} (hgi : Gl X "isinstance") (hmi : X.mg "isinstance" = none) (ht : TyN X x T) (hT : tysOk T = true) (he : SE X cl qa e ca) (hs : starEach [e, .Name x p2] X.env = (false, eval e X.env) :: starEach [.Name x p2] X.env := by rfl)
    (hs2 : starEach [Expr.Name x p2] X.env = (false, eval (.Name x p2) X.env) :: starEach [] X.env := by rfl) (hpl : (backTo pos (starEach [.Name x p2] X.env)).any (·.1) = false := by rfl) :
    SE X cl qa (.Call (.Name "isinstance" p) [e, .Name x p2] [] pos) (cUn (fIsi [T]) ca) := by
  refine PE.imp (pe_callB call_isi hgi hmi PyProof.Rows.boot_isinstance (pa_cons he (pa_cons ht.pe pa_nil hs2) hs) (by decide) (by decide) hs hpl) fun σ H Q h => ?_
  refine isi_core (C := ⟨X.K, cl⟩) (Ts := [T]) (r := fun x H1 Q => rIsi X.K [x, .ty T] H1 Q) (fun H O x w L t Q r hty q => ?_) h
  refine ⟨x, .ty T, .type t, .type T, isiB t T, rfl, .ty T, tyW_rep r hty, kit_ty (isiB_kit hty hT), ?_⟩
  have := q H fun _ _ e => e
  simpa using this
theorem se_isi2 {x y : Str} {T U : String} {k : Nat} (hgi : Gl X "isinstance") (hmi : X.mg "isinstance" = none) (ht : TyN X x T) (hu : TyN X y U) (hT : tysOk T = true) (hU : tysOk U = true) (he : SE X cl qa e ca)
    (hs : starEach [e, .Tuple [.Name x p2, .Name y p3] k p4] X.env = (false, eval e X.env) :: starEach [.Tuple [.Name x p2, .Name y p3] k p4] X.env := by rfl)
    (hs2 : starEach [Expr.Tuple [.Name x p2, .Name y p3] k p4] X.env = (false, eval (.Tuple [.Name x p2, .Name y p3] k p4) X.env) :: starEach [] X.env := by rfl)
    (hs3 : starEach [Expr.Name x p2, .Name y p3] X.env = (false, eval (.Name x p2) X.env) :: starEach [.Name y p3] X.env := by rfl) (hs4 : starEach [Expr.Name y p3] X.env = (false, eval (.Name y p3) X.env) :: starEach [] X.env := by rfl)
    (hpl : (backTo pos (starEach [.Tuple [.Name x p2, .Name y p3] k p4] X.env)).any (·.1) = false := by rfl) :
    SE X cl qa (.Call (.Name "isinstance" p) [e, .Tuple [.Name x p2, .Name y p3] k p4] [] pos) (cUn (fIsi [T, U]) ca) := by
  refine PE.imp (pe_callB call_isiT hgi hmi PyProof.Rows.boot_isinstance (pa_cons he (pa_cons (pe_tup (pa_cons ht.pe (pa_cons hu.pe pa_nil hs4) hs3)) pa_nil hs2) hs) (by decide) (by decide) hs hpl) fun σ H Q h => ?_
  refine isi_core (C := ⟨X.K, cl⟩) (Ts := [T, U]) (r := fun x H1 Q => ([V.ty T, V.ty U].length ≤ sizeLine ∧ ∀ p, H1 p = none → rIsiT X.K [x, .ref p] (upd H1 p (.tup [.ty T, .ty U])) Q)) (fun H O x w L t Q r hty q => ?_) h
  refine ⟨by show 2 ≤ sizeLine; rw [sizeLine_eq]; omega, fun p hp => ?_⟩
  have g : Gr H O (upd H p (.tup [.ty T, .ty U])) (Less O [p]) [] := Gr.new hp
  have r2 : RepW ⟨X.K, cl⟩ (upd H p (.tup [.ty T, .ty U])) (Less O [p]) w x L := RepW.keep w x L (g.keepL fun a ha => (RepW.own w x L r a ha).1) r
  refine ⟨x, p, [.ty T, .ty U], .type t, [.type T, .type U], _, rfl, upd_same, .cons (.ty T) (.cons (.ty U) .nil), tyW_rep r2 hty, kitAny_of (Ts := [T, U]) hty (by simp [hT, hU]), q _ g.ex⟩
end
end Mi
/-! Mi: what is walked; calls by names -/
namespace Mi
open PySem PySem.Spec PyProof.Rows L2
theorem PI.or {X : Cx} {tg e : Expr} {t u : TI} (h : PI X tg e t) (h' : PI X tg e u) : PI X tg e (fun σ H R => t σ H R ∨ u σ H R) := ⟨fun pins s σ H R I q => q.elim (h.run pins s σ H R I) (h'.run pins s σ H R I)⟩
/-- what a loop walks: it is shared from now on -/
def srcV : W → Option (List D)
  | .fz (.lst ds) => some ds
  | .fz (.tup ds) => some ds
  | .fz (.scr ds) => some ds
  | .lst ws => some (frzs ws)
  | _ => none
def iSeq (c : CE) : CI := fun ρ => (c ρ).bind fun (b, ρ1) => (take b ρ1).bind fun (w, ρ2) => (Res.of (srcV w)).bind fun ds => .ok (ds, ρ2)
section
variable {C : Cfg} {H : Hp} {O : AP}
theorem jr_list {K : PySem.W.Frag} (hK : C.K = K) {a : Addr} {xs : List V} {ds : List D} (h : Sc C H O a xs) (r : RepDs C H O ds xs) : JR C H O (Itl K a) ds := by
  subst hK
  intro i H1 O1 k
  have h1 := (h.keep k).sq
  have r1 := RepDs.keep k ds xs r
  refine ⟨fun d hd => ?_, fun hl => ⟨xs, h1, by rw [r.length]; exact hl⟩⟩
  obtain ⟨x, hx, rx⟩ := r1.get hd
  refine ⟨⟨xs, x, h1, hx⟩, fun y H2 hy => ?_⟩
  obtain ⟨e, hy⟩ := hy
  subst e
  have : some y = some x := (hy xs h1).symm.trans hx
  cases this
  exact ⟨O1, Gr.refl _ _, rx⟩
theorem jr_tup {K : PySem.W.Frag} (hK : C.K = K) {a : Addr} {xs : List V} {ds : List D} (h : Tp C H O a xs) (r : RepDs C H O ds xs) : JR C H O (Itt K a) ds := by
  subst hK
  intro i H1 O1 k
  have h1 := (h.keep k).sq
  have r1 := RepDs.keep k ds xs r
  refine ⟨fun d hd => ?_, fun hl => ⟨xs, h1, by rw [r.length]; exact hl⟩⟩
  obtain ⟨x, hx, rx⟩ := r1.get hd
  refine ⟨⟨xs, x, h1, hx⟩, fun y H2 hy => ?_⟩
  obtain ⟨e, hy⟩ := hy
  subst e
  have : some y = some x := (hy xs h1).symm.trans hx
  cases this
  exact ⟨O1, Gr.refl _ _, rx⟩
/-- the pair that an iterator makes -/
theorem new_pair {H1 H2 : Hp} {O1 : AP} {T : Addr} {x y : V} {d e : D} (hT : H1 T = none) (eH : H2 = upd H1 T (.tup [x, y])) (rx : RepD C H1 O1 d x) (ry : RepD C H1 O1 e y) : ∃ O2, Gr H1 O1 H2 O2 [] ∧ RepD C H2 O2 (.tup [d, e]) (.ref T) := by
  subst eH
  exact ⟨_, Gr.new hT, (new_tup hT (.cons rx (.cons ry .nil))).2⟩
def enumD : Nat → List D → List D
  | _, [] => []
  | i, d :: ds => .tup [.int (i : Nat), d] :: enumD (i + 1) ds
theorem enumD_get : ∀ {k : Nat} {ds : List D} {i : Nat} {e : D}, (enumD k ds)[i]? = some e → ∃ d, ds[i]? = some d ∧ e = .tup [.int ((k + i : Nat) : Int), d]
  | k, [], i, e, h => by simp [enumD] at h
  | k, d :: ds, 0, e, h => by simp [enumD] at h; exact ⟨d, by simp, h.symm⟩
  | k, d :: ds, i + 1, e, h => by
    obtain ⟨d', h1, h2⟩ := enumD_get (k := k + 1) (ds := ds) (i := i) (e := e) (by simpa [enumD] using h)
    exact ⟨d', by simpa using h1, by rw [h2]; congr 3; omega⟩
theorem enumD_len : ∀ (k : Nat) (ds : List D), (enumD k ds).length = ds.length
  | _, [] => rfl
  | k, d :: ds => by simp [enumD, enumD_len]
theorem jr_enumL {K : PySem.W.Frag} (hK : C.K = K) {a : Addr} {xs : List V} {ds : List D} (h : Sc C H O a xs) (r : RepDs C H O ds xs) : JR C H O (Ite K a) (enumD 0 ds) := by
  subst hK
  intro i H1 O1 k
  have h1 := (h.keep k).sq
  have r1 := RepDs.keep k ds xs r
  refine ⟨fun e he => ?_, fun hl => ⟨xs, h1, by rw [r.length, ← enumD_len 0 ds]; exact hl⟩⟩
  obtain ⟨d, hd, e2⟩ := enumD_get he
  subst e2
  obtain ⟨x, hx, rx⟩ := r1.get hd
  refine ⟨⟨xs, x, h1, hx⟩, fun y H2 hy => ?_⟩
  obtain ⟨T, x', e, hT, eH, hy⟩ := hy
  subst e
  have : some x' = some x := (hy xs h1).symm.trans hx
  cases this
  rw [Nat.zero_add]
  exact new_pair hT eH (show RepD C H1 O1 (.int (i : Nat)) (.int (i : Nat)) from rfl) rx
theorem jr_enumT {K : PySem.W.Frag} (hK : C.K = K) {a : Addr} {xs : List V} {ds : List D} (h : Tp C H O a xs) (r : RepDs C H O ds xs) : JR C H O (IteT K a) (enumD 0 ds) := by
  subst hK
  intro i H1 O1 k
  have h1 := (h.keep k).sq
  have r1 := RepDs.keep k ds xs r
  refine ⟨fun e he => ?_, fun hl => ⟨xs, h1, by rw [r.length, ← enumD_len 0 ds]; exact hl⟩⟩
  obtain ⟨d, hd, e2⟩ := enumD_get he
  subst e2
  obtain ⟨x, hx, rx⟩ := r1.get hd
  refine ⟨⟨xs, x, h1, hx⟩, fun y H2 hy => ?_⟩
  obtain ⟨T, x', e, hT, eH, hy⟩ := hy
  subst e
  have : some x' = some x := (hy xs h1).symm.trans hx
  cases this
  rw [Nat.zero_add]
  exact new_pair hT eH (show RepD C H1 O1 (.int (i : Nat)) (.int (i : Nat)) from rfl) rx
def zipD (ds es : List D) : List D := List.zipWith (fun d e => .tup [d, e]) ds es
theorem zipD_get {ds es : List D} {i : Nat} {p : D} (h : (zipD ds es)[i]? = some p) : ∃ d e, ds[i]? = some d ∧ es[i]? = some e ∧ p = .tup [d, e] := by
  unfold zipD at h
  rw [List.getElem?_zipWith] at h
  cases hd : ds[i]? with
  | none => rw [hd] at h; simp at h
  | some d =>
    cases he : es[i]? with
    | none => rw [hd, he] at h; simp at h
    | some e => rw [hd, he] at h; simp at h; exact ⟨d, e, rfl, rfl, h.symm⟩
theorem jr_zipL {K : PySem.W.Frag} (hK : C.K = K) {a b : Addr} {xs ys : List V} {ds es : List D} (h : Sc C H O a xs) (r : RepDs C H O ds xs) (h' : Sc C H O b ys) (r' : RepDs C H O es ys) : JR C H O (Itz K a b) (zipD ds es) := by
  subst hK
  intro i H1 O1 k
  have h1 := (h.keep k).sq
  have r1 := RepDs.keep k ds xs r
  have h2 := (h'.keep k).sq
  have r2 := RepDs.keep k es ys r'
  refine ⟨fun p hp => ?_, fun hl => ⟨xs, ys, h1, h2, ?_⟩⟩
  · obtain ⟨d, e, hd, he, e2⟩ := zipD_get hp
    subst e2
    obtain ⟨x, hx, rx⟩ := r1.get hd
    obtain ⟨y, hy, ry⟩ := r2.get he
    refine ⟨⟨xs, ys, x, y, h1, h2, hx, hy⟩, fun v H2 hv => ?_⟩
    obtain ⟨T, x', y', e, hT, eH, hx', hy'⟩ := hv
    subst e
    have e1 : some x' = some x := (hx' xs h1).symm.trans hx
    have e2 : some y' = some y := (hy' ys h2).symm.trans hy
    cases e1; cases e2
    exact new_pair hT eH rx ry
  · have l1 := r.length
    have l2 := r'.length
    unfold zipD at hl
    rw [List.length_zipWith] at hl
    omega
theorem jr_zipT {K : PySem.W.Frag} (hK : C.K = K) {a b : Addr} {xs ys : List V} {ds es : List D} (h : Tp C H O a xs) (r : RepDs C H O ds xs) (h' : Tp C H O b ys) (r' : RepDs C H O es ys) : JR C H O (RZ.ItzT K a b) (zipD ds es) := by
  subst hK
  intro i H1 O1 k
  have h1 := (h.keep k).sq
  have r1 := RepDs.keep k ds xs r
  have h2 := (h'.keep k).sq
  have r2 := RepDs.keep k es ys r'
  refine ⟨fun p hp => ?_, fun hl => ⟨xs, ys, h1, h2, ?_⟩⟩
  · obtain ⟨d, e, hd, he, e2⟩ := zipD_get hp
    subst e2
    obtain ⟨x, hx, rx⟩ := r1.get hd
    obtain ⟨y, hy, ry⟩ := r2.get he
    refine ⟨⟨xs, ys, x, y, h1, h2, hx, hy⟩, fun v H2 hv => ?_⟩
    obtain ⟨T, x', y', e, hT, eH, hx', hy'⟩ := hv
    subst e
    have e1 : some x' = some x := (hx' xs h1).symm.trans hx
    have e2 : some y' = some y := (hy' ys h2).symm.trans hy
    cases e1; cases e2
    exact new_pair hT eH rx ry
  · have l1 := r.length
    have l2 := r'.length
    unfold zipD at hl
    rw [List.length_zipWith] at hl
    omega
def rangeD (lo : Int) (n : Nat) : List D := (List.range n).map fun i => .int (lo + (i : Nat))
theorem rangeD_len (lo : Int) (n : Nat) : (rangeD lo n).length = n := by unfold rangeD; rw [List.length_map, List.length_range]
theorem jr_range {lo : Int} {n : Nat} : JR C H O (Itr lo n) (rangeD lo n) := by
  intro i H1 O1 k
  refine ⟨fun d hd => ?_, fun hl => by rw [rangeD_len] at hl; exact hl⟩
  unfold rangeD at hd
  rw [List.getElem?_map] at hd
  cases hr : (List.range n)[i]? with
  | none => rw [hr] at hd; cases hd
  | some j =>
    rw [hr] at hd
    have hj : j = i ∧ i < n := by
      obtain ⟨h1, h2⟩ := List.getElem?_eq_some_iff.mp hr
      rw [List.getElem_range] at h2
      exact ⟨h2.symm, by simpa using h1⟩
    obtain ⟨rfl, hn⟩ := hj
    cases hd
    refine ⟨hn, fun x H2 hy => ?_⟩
    obtain ⟨e, ex⟩ := hy
    subst e; subst ex
    exact ⟨O1, Gr.refl _ _, rfl⟩
/-- the source: shared from now on -/
theorem src_rep {w : W} {x : V} {Lw : List Addr} {ds : List D} (r : RepW C H O w x Lw) (e : srcV w = some ds) : ∃ a xs, x = .ref a ∧ RepDs C H (Less O Lw) ds xs ∧ (isT w = true → Tp C H (Less O Lw) a xs) ∧ (isT w = false → Sc C H (Less O Lw) a xs) := by
  cases w with
  | lst ws =>
    cases e
    obtain ⟨a, xs, L', e1, h1, h2, h3, rs⟩ := r
    subst h3
    exact ⟨a, xs, e1, RepWs.frz ws xs L' (fun b q => ⟨q.1, fun z => q.2 (by simp [z])⟩) rs, fun z => (by cases z), fun _ => .inl ⟨.inl h1, fun q => q.2 (by simp)⟩⟩
  | fz d =>
    obtain ⟨eL, rd⟩ := r
    subst eL
    have rd' : RepD C H (Less O []) d x := RepD.keep (fun a o e n => ⟨e, fun q => n q.1⟩) d x rd
    cases d with
    | lst es =>
      cases e
      obtain ⟨a, xs, e1, h1, n, rs⟩ := rd'
      exact ⟨a, xs, e1, rs, fun z => (by cases z), fun _ => .inl ⟨.inl h1, n⟩⟩
    | tup es =>
      cases e
      obtain ⟨a, xs, e1, h1, rs⟩ := rd'
      exact ⟨a, xs, e1, rs, fun _ => h1, fun z => (by cases z)⟩
    | scr es =>
      cases e
      obtain ⟨a, xs, e1, h1, rs⟩ := rd'
      exact ⟨a, xs, e1, rs, fun z => (by cases z), fun _ => h1⟩
    | _ => cases e
end
section
variable {X : Cx} {cl : Nat → Addr} {tg e e2 : Expr} {ca cb : CE} {qa qb : Bool} {p pos : Pos}
theorem si_seq (he : SE X cl qa e ca) : SI X cl tg e (iSeq ca) := by
  refine PI.imp (PI.or (pi_list he) (pi_tup he)) fun σ H R h => ?_
  obtain ⟨O, L, ρ, ds, ρ', env, nd, c, q⟩ := h
  obtain ⟨⟨b, ρ1⟩, c1, c⟩ := Res.of_bind c
  obtain ⟨⟨w, ρ2⟩, c2, c⟩ := Res.of_bind c
  obtain ⟨ds', c3, c⟩ := Res.of_bind c
  cases c
  have common : ∀ (v : V) (H1 : Hp) (O1 : AP) (L1 Lb : List Addr), PostE ⟨X.K, cl⟩ σ H O L ρ qa b ρ1 v H1 O1 L1 Lb → ∃ O2 L2 Lw, EnvR ⟨X.K, cl⟩ H1 (Less O2 Lw) ρ' σ L2 ∧ L2.Nodup ∧ Stp H O L H1 (Less O2 Lw) L2 ∧ RepW ⟨X.K, cl⟩ H1 O2 w v Lw := fun v H1 O1 L1 Lb P => by
    obtain ⟨O2, L2, Lw, g1, g2, g3, g4, g5, g6⟩ := take_rep P.br P.env P.nd c2
    have nn := List.nodup_append.mp g3
    exact ⟨O2, L2, Lw, g1.less (fun a ha z => nn.2.2 a ha a z rfl), nn.1, (P.st.trans (Stp.ofO g4 g5 g6)).drop, g2⟩
  cases ht : isT w with
  | false =>
    refine .inl ⟨O, L, ρ, b, ρ1, env, nd, c1, fun v H1 O1 L1 Lb P => ?_⟩
    obtain ⟨O2, L2, Lw, e1, n1, s1, r1⟩ := common v H1 O1 L1 Lb P
    obtain ⟨a, xs, ea, rs, _, hs⟩ := src_rep r1 (Res.of_ok c3)
    have sc := hs ht
    exact ⟨a, ea, ⟨xs, sc.sq⟩, q _ H1 _ L2 e1 n1 s1 (jr_list rfl sc rs)⟩
  | true =>
    refine .inr ⟨O, L, ρ, b, ρ1, env, nd, c1, fun v H1 O1 L1 Lb P => ?_⟩
    obtain ⟨O2, L2, Lw, e1, n1, s1, r1⟩ := common v H1 O1 L1 Lb P
    obtain ⟨a, xs, ea, rs, hs, _⟩ := src_rep r1 (Res.of_ok c3)
    have sc := hs ht
    exact ⟨a, ea, ⟨xs, sc.sq⟩, q _ H1 _ L2 e1 n1 s1 (jr_tup rfl sc rs)⟩
def iEnumM (c : CE) : CI := fun ρ => (c ρ).bind fun (b, ρ1) => (take b ρ1).bind fun (w, ρ2) => (Res.of (srcV w)).bind fun ds => .ok (enumD 0 ds, ρ2)
/-- one argument -/
theorem one_core {C : Cfg} {c : CE} {q : Bool} {σ : Sg} {H : Hp} {Q : List V → Hp → Prop} (h : tE C q c σ H fun v H' => Q [v] H') : tCons (tE C q c) tNil σ H Q := h
theorem si_enum {elts : List Expr} {kk : Nat} {tpos : Pos} (hg : Gl X "enumerate") (hm : X.mg "enumerate" = none) (he : SE X cl qa e ca) (hs : starEach [e] X.env = [(false, eval e X.env)] := by rfl) :
    SI X cl (.Tuple elts kk tpos) (.Call (.Name "enumerate" p) [e] [] pos) (iEnumM ca) := by
  have pa : PA X [e] (tCons (tE ⟨X.K, cl⟩ qa ca) tNil) := pa_cons he pa_nil hs
  refine PI.imp (PI.or (pi_enum hg hm pa hs) (pi_enumT hg hm pa hs)) fun σ H R h => ?_
  obtain ⟨O, L, ρ, ds, ρ', env, nd, c, q⟩ := h
  obtain ⟨⟨b, ρ1⟩, c1, c⟩ := Res.of_bind c
  obtain ⟨⟨w, ρ2⟩, c2, c⟩ := Res.of_bind c
  obtain ⟨ds', c3, c⟩ := Res.of_bind c
  cases c
  have common : ∀ (v : V) (H1 : Hp) (O1 : AP) (L1 Lb : List Addr), PostE ⟨X.K, cl⟩ σ H O L ρ qa b ρ1 v H1 O1 L1 Lb → ∃ O2 L2 Lw, EnvR ⟨X.K, cl⟩ H1 (Less O2 Lw) ρ' σ L2 ∧ L2.Nodup ∧ Stp H O L H1 (Less O2 Lw) L2 ∧ RepW ⟨X.K, cl⟩ H1 O2 w v Lw := fun v H1 O1 L1 Lb P => by
    obtain ⟨O2, L2, Lw, g1, g2, g3, g4, g5, g6⟩ := take_rep P.br P.env P.nd c2
    have nn := List.nodup_append.mp g3
    exact ⟨O2, L2, Lw, g1.less (fun a ha z => nn.2.2 a ha a z rfl), nn.1, (P.st.trans (Stp.ofO g4 g5 g6)).drop, g2⟩
  cases ht : isT w with
  | false =>
    refine .inl ⟨O, L, ρ, b, ρ1, env, nd, c1, fun v H1 O1 L1 Lb P => ?_⟩
    obtain ⟨O2, L2, Lw, e1, n1, s1, r1⟩ := common v H1 O1 L1 Lb P
    obtain ⟨a, xs, ea, rs, _, hs⟩ := src_rep r1 (Res.of_ok c3)
    have sc := hs ht
    subst ea
    exact ⟨a, xs, rfl, sc.sq, q _ H1 _ L2 e1 n1 s1 (jr_enumL rfl sc rs)⟩
  | true =>
    refine .inr ⟨O, L, ρ, b, ρ1, env, nd, c1, fun v H1 O1 L1 Lb P => ?_⟩
    obtain ⟨O2, L2, Lw, e1, n1, s1, r1⟩ := common v H1 O1 L1 Lb P
    obtain ⟨a, xs, ea, rs, hs, _⟩ := src_rep r1 (Res.of_ok c3)
    have sc := hs ht
    subst ea
    exact ⟨a, xs, rfl, sc.sq, q _ H1 _ L2 e1 n1 s1 (jr_enumT rfl sc rs)⟩
def iRange1 (c : CE) : CI := fun ρ => (c ρ).bind fun (b, ρ1) => (intOf b).bind fun j => (chk (decide (-(2 ^ 62) ≤ j ∧ j < 2 ^ 62))).bind fun _ => .ok (rangeD 0 j.toNat, ρ1)
theorem PostE.ofInt {C : Cfg} {σ : Sg} {H H1 : Hp} {O O1 : AP} {L L1 Lb : List Addr} {ρ ρ1 : En} {k : Int} {v : V} (P : PostE C σ H O L ρ qa (.tmp (.fz (.int k))) ρ1 v H1 O1 L1 Lb) : v = .int k ∧ PostT C σ H O L ρ qa ρ1 H1 O1 L1 := by
  obtain ⟨e1, e2⟩ := P.br
  subst e1
  have nd' := P.nd
  have st' := P.st
  rw [List.append_nil] at nd' st'
  exact ⟨e2, P.env, nd', st', P.qu⟩
theorem si_range1 (hg : Gl X "range") (hm : X.mg "range" = none) (he : SE X cl qa e ca) (hs : starEach [e] X.env = [(false, eval e X.env)] := by rfl) : SI X cl tg (.Call (.Name "range" p) [e] [] pos) (iRange1 ca) := by
  refine PI.imp (pi_range1 hg hm (pa_cons he pa_nil hs) hs) fun σ H R h => ?_
  obtain ⟨O, L, ρ, ds, ρ', env, nd, c, q⟩ := h
  obtain ⟨⟨b, ρ1⟩, c1, c⟩ := Res.of_bind c
  obtain ⟨j, c2, c⟩ := Res.of_bind c
  obtain ⟨_, c3, c⟩ := Res.of_bind c
  cases c
  have eb := intOf_ok c2
  subst eb
  refine ⟨O, L, ρ, _, ρ', env, nd, c1, fun v H1 O1 L1 Lb P => ?_⟩
  obtain ⟨e1, P'⟩ := P.ofInt
  have hj := chk_dec c3
  subst e1
  exact ⟨j, rfl, hj.1, hj.2, q _ H1 O1 L1 P'.env P'.nd P'.st jr_range⟩
def iRange2 (ca cb : CE) : CI := fun ρ => (ca ρ).bind fun (a, ρ1) => (intOf a).bind fun i => (cb ρ1).bind fun (b, ρ2) => (intOf b).bind fun j => (chk (decide (-(2 ^ 62) ≤ i ∧ i < 2 ^ 62 ∧ -(2 ^ 62) ≤ j ∧ j < 2 ^ 62))).bind fun _ => .ok (rangeD i (j - i).toNat, ρ2)
theorem si_range2 (hg : Gl X "range") (hm : X.mg "range" = none) (ha : SE X cl qa e ca) (hb : SE X cl qb e2 cb) (hs : starEach [e, e2] X.env = [(false, eval e X.env), (false, eval e2 X.env)] := by rfl) (hs2 : starEach [e2] X.env = [(false, eval e2 X.env)] := by rfl) : SI X cl tg (.Call (.Name "range" p) [e, e2] [] pos) (iRange2 ca cb) := by
  refine PI.imp (pi_range2 hg hm (pa_cons ha (pa_cons hb pa_nil hs2) (by rw [hs, hs2])) hs hs2) fun σ H R h => ?_
  obtain ⟨O, L, ρ, ds, ρ', env, nd, c, q⟩ := h
  obtain ⟨⟨a, ρ1⟩, c1, c⟩ := Res.of_bind c
  obtain ⟨i, c2, c⟩ := Res.of_bind c
  obtain ⟨⟨b, ρ2⟩, c3, c⟩ := Res.of_bind c
  obtain ⟨j, c4, c⟩ := Res.of_bind c
  obtain ⟨_, c5, c⟩ := Res.of_bind c
  cases c
  have ea := intOf_ok c2
  have eb := intOf_ok c4
  subst ea; subst eb
  refine ⟨O, L, ρ, _, ρ1, env, nd, c1, fun v H1 O1 L1 Lb P => ?_⟩
  obtain ⟨e1, P'⟩ := P.ofInt
  refine ⟨O1, L1, ρ1, _, ρ', P'.env, P'.nd, c3, fun v2 H2 O2 L2 Lb2 P2 => ?_⟩
  obtain ⟨e3, P2'⟩ := P2.ofInt
  have hj := chk_dec c5
  subst e1; subst e3
  exact ⟨i, j, rfl, hj, q _ H2 O2 L2 P2'.env P2'.nd (P'.st.trans P2'.st) jr_range⟩
end
/-! ### zip -/
def iZipM (cb : CBs) : CI := fun ρ => (cb ρ).bind fun (bs, ρ1) => (chk (bs.all flatB)).bind fun _ => (takes bs ρ1).bind fun (ws, ρ2) => match ws with
  | [a, b] => (chk (isT a == isT b)).bind fun _ => (Res.of (srcV a)).bind fun ds => (Res.of (srcV b)).bind fun es => .ok (zipD ds es, ρ2)
  | _ => .err
section
variable {X : Cx} {cl : Nat → Addr} {e e2 : Expr} {cb : CBs} {qb : Bool} {p pos tpos : Pos} {elts : List Expr} {kk : Nat}
theorem Sc.less {C : Cfg} {H : Hp} {O O' : AP} {a : Addr} {xs : List V} (h : Sc C H O a xs) (k : ∀ a, O' a → O a) : Sc C H O' a xs := h.keep fun a o e n => ⟨e, fun q => n (k a q)⟩
theorem si_zip (hg : Gl X "zip") (hm : X.mg "zip" = none) (hb : SB X cl qb [e, e2] cb) (hs : starEach [e, e2] X.env = (false, eval e X.env) :: starEach [e2] X.env := by rfl) (hpl : (backTo pos (starEach [e2] X.env)).any (·.1) = false := by rfl) :
    SI X cl (.Tuple elts kk tpos) (.Call (.Name "zip" p) [e, e2] [] pos) (iZipM cb) := by
  refine PI.imp (RZ.pi_zipA hg hm hb hs hpl) fun σ H R h => ?_
  obtain ⟨O, L, ρ, ds, ρ', env, nd, c, q⟩ := h
  obtain ⟨⟨bs, ρ1⟩, c1, c⟩ := Res.of_bind c
  obtain ⟨_, c2, c⟩ := Res.of_bind c
  obtain ⟨⟨ws, ρ2⟩, c3, c⟩ := Res.of_bind c
  dsimp only at c
  split at c
  · rename_i a b
    obtain ⟨_, c4, c⟩ := Res.of_bind c
    obtain ⟨es1, c5, c⟩ := Res.of_bind c
    obtain ⟨es2, c6, c⟩ := Res.of_bind c
    cases c
    refine ⟨O, L, ρ, bs, ρ1, env, nd, c1, fun vs H1 O1 L1 Lb P => ?_⟩
    obtain ⟨O2, L2, Lw, g1, g2, g3, g4, g5, g6, _⟩ := takes_rep P.br P.env P.nd (chk_ok c2) c3
    obtain ⟨v1, r1, M1, M2, e1, e3, w1, v2, r2, M3, M4, e4, e5, w2, e6, e7⟩ := g2
    subst e1; subst e4; subst e6; subst e5; subst e7
    subst e3
    have nn := List.nodup_append.mp g3
    have env2 := g1.less (T := M1 ++ (M3 ++ [])) (fun a ha z => nn.2.2 a ha a z rfl)
    have s2 : Stp H O L H1 (Less O2 (M1 ++ (M3 ++ []))) L2 := (P.st.trans (Stp.ofO g4 g5 g6)).drop
    obtain ⟨a1, xs1, ea1, rs1, ht1, hl1⟩ := src_rep w1 (Res.of_ok c5)
    obtain ⟨a2, xs2, ea2, rs2, ht2, hl2⟩ := src_rep w2 (Res.of_ok c6)
    subst ea1; subst ea2
    have k1 : ∀ z, Less O2 (M1 ++ (M3 ++ [])) z → Less O2 M1 z := fun z hz => ⟨hz.1, fun t => hz.2 (by simp [t])⟩
    have k2 : ∀ z, Less O2 (M1 ++ (M3 ++ [])) z → Less O2 M3 z := fun z hz => ⟨hz.1, fun t => hz.2 (by simp [t])⟩
    have rs1' := RepDs.keep (H' := H1) (O' := Less O2 (M1 ++ (M3 ++ []))) (fun z o e n => ⟨e, fun q => n (k1 z q)⟩) _ _ rs1
    have rs2' := RepDs.keep (H' := H1) (O' := Less O2 (M1 ++ (M3 ++ []))) (fun z o e n => ⟨e, fun q => n (k2 z q)⟩) _ _ rs2
    have heq : isT a = isT b := by simpa using chk_ok c4
    refine ⟨a1, a2, xs1, xs2, rfl, ?_⟩
    cases ht : isT a with
    | false =>
      have sc1 := (hl1 ht).less k1
      have sc2 := (hl2 (heq ▸ ht)).less k2
      exact .inl ⟨sc1.sq, sc2.sq, q _ H1 _ L2 env2 nn.1 s2 (jr_zipL rfl sc1 rs1' sc2 rs2')⟩
    | true =>
      have sc1 := (ht1 ht).keep (H' := H1) (O' := Less O2 (M1 ++ (M3 ++ []))) fun z o e n => ⟨e, fun q => n (k1 z q)⟩
      have sc2 := (ht2 (heq ▸ ht)).keep (H' := H1) (O' := Less O2 (M1 ++ (M3 ++ []))) fun z o e n => ⟨e, fun q => n (k2 z q)⟩
      exact .inr ⟨sc1.sq, sc2.sq, q _ H1 _ L2 env2 nn.1 s2 (jr_zipT rfl sc1 rs1' sc2 rs2')⟩
  · cases c
end
end Mi
/-! Mi: calls by names; ranges as lists; several names at once -/
namespace Mi
open PySem PySem.Spec PyProof.Rows L2
/-! ### keywords -/
theorem PK.imp {X : Cx} {e : List Keyword} {t t' : TA} (h : PK X e t) (k : ∀ σ H Q, t' σ H Q → t σ H Q) : PK X e t' := ⟨fun pos pins s σ H Q I q => h.run pos pins s σ H Q I (k σ H Q q)⟩
def SK (X : Cx) (cl : Nat → Addr) (qt : Bool) (es : List Keyword) (c : CBs) : Prop := PK X es (tB ⟨X.K, cl⟩ qt c)
/-- in the parameters' order -/
def pick {α : Type} (ix : List Nat) (l : List α) : List α := ix.filterMap fun i => l[i]?
theorem pick_vals {zs : List V} {ws : List Value} (r : Vals zs ws) : ∀ ix : List Nat, Vals (pick ix zs) (pick ix ws)
  | [] => .nil
  | i :: ix => by
    unfold pick
    rw [List.filterMap_cons, List.filterMap_cons]
    cases h : zs[i]? with
    | none =>
      rw [r.none_of h]
      exact pick_vals r ix
    | some z =>
      obtain ⟨u, hu, ru⟩ := r.get h
      rw [hu]
      exact .cons ru (pick_vals r ix)
theorem RepWs.get0 {C : Cfg} {H : Hp} {O : AP} : ∀ {ws : List W} {vs : List V} {i : Nat}, RepWs C H O ws vs [] → (∀ w, ws[i]? = some w → ∃ v, vs[i]? = some v ∧ RepW C H O w v []) ∧ (ws[i]? = none → vs[i]? = none)
  | [], vs, i, h => by rw [h.1]; exact ⟨fun w h => by simp at h, fun _ => by simp⟩
  | w :: ws, vs, i, h => by
    obtain ⟨v, r, L1, L2, e, e2, h1, h2⟩ := h
    obtain ⟨z1, z2⟩ := List.append_eq_nil_iff.mp e2.symm
    subst z1; subst z2; subst e
    cases i with
    | zero => exact ⟨fun w' h => by simp at h; subst h; exact ⟨v, by simp, h1⟩, fun h => by simp at h⟩
    | succ i =>
      obtain ⟨g1, g2⟩ := RepWs.get0 (i := i) h2
      exact ⟨fun w' h => by obtain ⟨v', q1, q2⟩ := g1 w' (by simpa using h); exact ⟨v', by simpa using q1, q2⟩, fun h => by simpa using g2 (by simpa using h)⟩
theorem pick_rep {C : Cfg} {H : Hp} {O : AP} {ws : List W} {vs : List V} (r : RepWs C H O ws vs []) : ∀ ix : List Nat, RepWs C H O (pick ix ws) (pick ix vs) []
  | [] => ⟨rfl, rfl⟩
  | i :: ix => by
    unfold pick
    rw [List.filterMap_cons, List.filterMap_cons]
    obtain ⟨g1, g2⟩ := RepWs.get0 (i := i) r
    cases h : ws[i]? with
    | none =>
      rw [g2 h]
      exact pick_rep r ix
    | some w =>
      obtain ⟨v, hv, rv⟩ := g1 w h
      rw [hv]
      exact ⟨v, _, [], [], rfl, rfl, rv, pick_rep r ix⟩
/-- a def, called by names alone -/
structure FnK (X : Cx) (cl : Nat → Addr) (x : Str) (ks : List Str) (ix : List Nat) (F : Fn) : Prop where
  ex : ∃ (k : Nat) (f : Addr) (fd : FuncData) (ps : List Str), FnOk X.prog X.w X.K X.mg X.base CX0 k f fd ps (spM ⟨X.K, cl⟩ F) ∧ Room k X.A ∧ X.mg x = some (.ref f) ∧ PySem.W.keepIn X.K (.ref f) = true ∧ KBn X.K fd ps 0 ks (fun _ ws => pick ix ws) (fun _ zs => pick ix zs)
/-- the arguments are looked at, the answer is plain -/
def cCallKV (F : Fn) (ix : List Nat) (n : Nat) (cb : CBs) : CE := fun ρ => (cb ρ).bind fun (bs, ρ1) => (chk (bs.length == n)).bind fun _ => (conts bs ρ1).bind fun ws => (F (pick ix (ws.map fun w => .fz (frz w)))).bind fun (r, _) => (chk (scal r)).bind fun _ => .ok (.tmp r, ρ1)
def cCallKP (qd : Bool) (F : Fn) (ix : List Nat) (n : Nat) (cb : CBs) : CE := fun ρ => (cb ρ).bind fun (bs, ρ1) => (chk (bs.length == n)).bind fun _ => (chk (shut qd bs)).bind fun _ => (takes bs ρ1).bind fun (ws, ρ2) => (F (pick ix (ws.map fun w => .fz (frz w)))).bind fun (r, _) => .ok (.tmp r, ρ2)
def tCallK0 (m : Nat) (sp : Sp) (ix : List Nat) (E : XK) (tk : TA) : TE := fun σ H Q => tk σ H fun zs H2 => zs.length = m ∧ sp (pick ix zs) H2 Q E
theorem BRs.length {C : Cfg} {H : Hp} {O : AP} {ρ : En} {σ : Sg} : ∀ {bs : List B} {vs : List V} {L : List Addr}, BRs C H O ρ σ bs vs L → vs.length = bs.length
  | [], _, _, h => by rw [h.1]; rfl
  | b :: bs, vs, L, h => by
    obtain ⟨v, r, _, _, e, _, _, h2⟩ := h
    rw [e, List.length_cons, List.length_cons, BRs.length h2]
theorem callKV_core {C : Cfg} {F : Fn} {ix : List Nat} {n : Nat} {cb : CBs} {qb : Bool} {E : XK} {σ : Sg} {H : Hp} {Q : VK} (h : tE C qb (cCallKV F ix n cb) σ H Q) : tCallK0 n (spM C F) ix E (tB C qb cb) σ H Q := by
  obtain ⟨O, L, ρ, b0, ρ', env, nd, c, q⟩ := h
  obtain ⟨⟨bs, ρ1⟩, c1, c⟩ := Res.of_bind c
  obtain ⟨_, c0, c⟩ := Res.of_bind c
  obtain ⟨ws, c2, c⟩ := Res.of_bind c
  obtain ⟨⟨r, bk⟩, c3, c⟩ := Res.of_bind c
  obtain ⟨_, c4, c⟩ := Res.of_bind c
  cases c
  refine ⟨O, L, ρ, bs, ρ', env, nd, c1, fun vs H1 O1 L1 Lb P => ?_⟩
  refine ⟨P.br.length.trans (by simpa using chk_ok c0), ?_⟩
  have ndd := List.nodup_append.mp P.nd
  have d : ∀ z ∈ L1, z ∉ Lb := fun z hz q => ndd.2.2 z hz z q rfl
  have own1 : ∀ a ∈ L1, O1 a := fun a ha => (P.env.own a ha).1
  refine ⟨Less O1 (L1 ++ Lb), [], _, r, bk, pick_rep (conts_frz P.env ndd.1 P.br (fun a ha => ha) d c2) ix, List.nodup_nil, c3, fun v H' O' L' Lr rr rb ndr st => ?_⟩
  obtain ⟨eL, rr'⟩ := scal_rep (H' := H') (O' := fun a => O' a ∨ a ∈ L1) (chk_ok c4) rr
  subst eL
  have kL : KeepL H1 O1 H' (fun a => O' a ∨ a ∈ L1) L1 := by
    refine ⟨fun a o e n => ⟨st.fr a o e (by simp), fun z => ?_⟩, fun a ha o e => ⟨st.fr a o e (by simp), .inr ha⟩⟩
    rcases z with z | z
    · rcases st.nw a z with z | z
      · exact n z.1
      · rw [e] at z; cases z
    · exact n (own1 a z)
  refine q v H' (fun a => O' a ∨ a ∈ L1) L1 [] ⟨EnvR.keep kL P.env, rr', by rw [List.append_nil]; exact ndd.1, ?_, fun hq => ⟨(P.qu hq).1, fun a o e => st.fr a o ((P.qu hq).2 a o e) (by simp)⟩⟩
  rw [List.append_nil]
  refine P.st.trans ⟨fun a o e _ => st.fr a o e (by simp), fun a z => ?_, fun a o e z n => .inl (st.ol a o e ⟨z, n⟩ (by simp)), fun a ha => .inl (by simp [ha]), st.dm⟩
  rcases z with z | z
  · rcases st.nw a z with z | z
    · exact .inl z.1
    · exact .inr z
  · exact .inl (own1 a z)
theorem callKP_core {C : Cfg} {F : Fn} {ix : List Nat} {n : Nat} {cb : CBs} {qb qd : Bool} {E : XK} {σ : Sg} {H : Hp} {Q : VK} (h : tE C (qb && qd) (cCallKP qd F ix n cb) σ H Q) : tCallK0 n (spM C F) ix E (tB C qb cb) σ H Q := by
  obtain ⟨O, L, ρ, b0, ρ', env, nd, c, q⟩ := h
  obtain ⟨⟨bs, ρ1⟩, c1, c⟩ := Res.of_bind c
  obtain ⟨_, c0, c⟩ := Res.of_bind c
  obtain ⟨_, cs, c⟩ := Res.of_bind c
  obtain ⟨hf, ht⟩ := shut_ok (chk_ok cs)
  obtain ⟨⟨ws, ρ2⟩, c2, c⟩ := Res.of_bind c
  obtain ⟨⟨r, bk⟩, c3, c⟩ := Res.of_bind c
  cases c
  refine ⟨O, L, ρ, bs, ρ1, env, nd, c1, fun vs H1 O1 L1 Lb P => ?_⟩
  refine ⟨P.br.length.trans (by simpa using chk_ok c0), ?_⟩
  obtain ⟨O2, L2, Lw, g1, g2, g3, g4, g5, g6, g7⟩ := takes_rep P.br P.env P.nd hf c2
  have rd : RepDs C H1 (Less O2 Lw) (frzs ws) vs := RepWs.frz ws vs Lw (fun a q => q) g2
  have rs : RepWs C H1 (Less O2 Lw) (ws.map fun w => .fz (frz w)) vs [] := by
    have := RepWs.ofD rd
    rw [frzs_map, List.map_map] at this
    exact this
  have ndw := List.nodup_append.mp g3
  have d2 : ∀ a ∈ L2, a ∉ Lw := fun a ha z => ndw.2.2 a ha a z rfl
  have e2 := g1.less d2
  refine ⟨Less O2 Lw, [], _, r, bk, pick_rep rs ix, List.nodup_nil, c3, fun v H' O' L' Lr rr rb ndr st => ?_⟩
  have own2 : ∀ a ∈ L2, Less O2 Lw a := fun a ha => (e2.own a ha).1
  have kL : KeepL H1 (Less O2 Lw) H' O' L2 := st.keepL (by simp) own2 (by simp)
  have nr : (L2 ++ Lr).Nodup := by
    refine List.nodup_append.mpr ⟨ndw.1, (List.nodup_append.mp ndr).2.1, fun a ha b hb e => ?_⟩
    subst e
    rcases st.ll a (by simp [hb]) with z | z
    · simp at z
    · obtain ⟨_, xs, e⟩ := g1.own a ha; rw [z] at e; cases e
  refine q v H' O' L2 Lr ⟨EnvR.keep kL e2, rr, nr, ?_, fun hq => ?_⟩
  · have s1 : Stp H O L H1 (Less O2 Lw) L2 := (P.st.trans (Stp.ofO g4 g5 g6)).drop
    refine s1.trans ⟨fun a o e _ => st.fr a o e (by simp), st.nw, fun a o e z _ => st.ol a o e z (by simp), fun a ha => ?_, st.dm⟩
    rcases List.mem_append.mp ha with ha | ha
    · exact .inl ha
    · rcases st.ll a (by simp [ha]) with z | z
      · simp at z
      · exact .inr z
  · have hq' : qb = true ∧ qd = true := by simpa using hq
    exact ⟨(g7 (ht hq'.2)).trans (P.qu hq'.1).1, fun a o e => st.fr a o ((P.qu hq'.1).2 a o e) (by simp)⟩
section
variable {X : Cx} {cl : Nat → Addr} {x : Str} {ks : List Str} {ix : List Nat} {F : Fn} {p pos kpos : Pos} {e : Expr} {kws : List Keyword} {ca : CE} {cb : CBs} {qa qb qd : Bool} {nm : Option Str}
theorem sk_nil : SK X cl true [] cNil := by
  refine PK.imp pk_nil fun σ H Q h => ?_
  obtain ⟨O, L, ρ, bs, ρ', env, nd, c, q⟩ := h
  cases c
  exact q [] H O L [] ⟨env, ⟨rfl, rfl⟩, by rw [List.append_nil]; exact nd, by rw [List.append_nil]; exact Stp.refl _ _ _, fun _ => ⟨rfl, fun _ _ e => e⟩⟩
theorem sk_cons (ha : SE X cl qa e ca) (hb : SK X cl qb kws cb) : SK X cl (qa && qb) (⟨nm, e, kpos⟩ :: kws) (cCons qb ca cb) := PK.imp (pk_cons ha hb) fun σ H Q h => cons_core h
theorem pe_callK0 {CX : CXT} {k : Nat} {f : Addr} {fd : FuncData} {ps : List Str} {sp : Sp} {E : XK} {tk : TA} (G : FnOk X.prog X.w X.K X.mg X.base CX k f fd ps sp) (hr : Room k X.A) (hg : Gl X x) (hm : X.mg x = some (.ref f)) (hk : PySem.W.keepIn X.K (.ref f) = true)
    (hb : KBn X.K fd ps 0 ks (fun _ ws => pick ix ws) (fun _ zs => pick ix zs)) (hx : Passes CX X E) (hkw : PK X kws tk)
    (hall : (backToKw pos (keywordEach kws X.env)).all (·.1.isSome) = true := by rfl) (hks : (backToKw pos (keywordEach kws X.env)).filterMap (·.1) = ks := by rfl) (hdb : (x == ("__debug__" : Str)) = false := by decide)
    (hpl : ((backTo pos (starEach [] X.env)).any (·.1) || (backToKw pos (keywordEach kws X.env)).any (·.1.isNone)) = false := by rfl) :
    PE X (.Call (.Name x p) [] kws pos) (tCallK0 ks.length sp ix E tk) := by
  refine ⟨fun pins s σ H Q I h => ?_⟩
  refine wpAny_Call_Name_kw (ld_glob I hg hm ?_ hdb)
  refine PySem.W.callWith_KW0 (h₀ := X.base) I.ok.mod.kin hk hall ?_ hpl
  refine thn (hkw.run pos pins s σ H _ I h) fun ws s2 ⟨zs, H2, I2, rz, l2, q2⟩ => ⟨I2.kIn, ?_⟩
  rw [hks]
  exact run_fnN (us := []) (vs := []) G hr hb hx I2 .nil rz rfl l2 q2
theorem se_callKV (hf : FnK X cl x ks ix F) (hg : Gl X x) (hkw : SK X cl qb kws cb) (hall : (backToKw pos (keywordEach kws X.env)).all (·.1.isSome) = true := by rfl) (hks : (backToKw pos (keywordEach kws X.env)).filterMap (·.1) = ks := by rfl) (hdb : (x == ("__debug__" : Str)) = false := by decide)
    (hpl : ((backTo pos (starEach [] X.env)).any (·.1) || (backToKw pos (keywordEach kws X.env)).any (·.1.isNone)) = false := by rfl) : SE X cl qb (.Call (.Name x p) [] kws pos) (cCallKV F ix ks.length cb) := by
  obtain ⟨k, f, fd, ps, G, hr, hm, hk, hbd⟩ := hf.ex
  exact PE.imp (pe_callK0 G hr hg hm hk hbd pass0 hkw hall hks hdb hpl) fun σ H Q h => callKV_core h
theorem se_callKP (hf : FnK X cl x ks ix F) (hg : Gl X x) (hkw : SK X cl qb kws cb) (hall : (backToKw pos (keywordEach kws X.env)).all (·.1.isSome) = true := by rfl) (hks : (backToKw pos (keywordEach kws X.env)).filterMap (·.1) = ks := by rfl) (hdb : (x == ("__debug__" : Str)) = false := by decide)
    (hpl : ((backTo pos (starEach [] X.env)).any (·.1) || (backToKw pos (keywordEach kws X.env)).any (·.1.isNone)) = false := by rfl) : SE X cl (qb && qd) (.Call (.Name x p) [] kws pos) (cCallKP qd F ix ks.length cb) := by
  obtain ⟨k, f, fd, ps, G, hr, hm, hk, hbd⟩ := hf.ex
  exact PE.imp (pe_callK0 G hr hg hm hk hbd pass0 hkw hall hks hdb hpl) fun σ H Q h => callKP_core h
end
/-! ### tuple(range(n)), list(range(n)) -/
instance {a b : Int} : Decidable (RgOk a b) := inferInstanceAs (Decidable (_ ∧ _))
def cRgTup (c : CE) : CE := fun ρ => (c ρ).bind fun (b, ρ1) => (intOf b).bind fun j => (chk (decide (RgOk 0 j))).bind fun _ => .ok (.tmp (.fz (.tup (rangeD 0 (j - 0).toNat))), ρ1)
def cRgLst (c : CE) : CE := fun ρ => (c ρ).bind fun (b, ρ1) => (intOf b).bind fun j => (chk (decide (RgOk 0 j))).bind fun _ => .ok (.tmp (.lst ((rangeD 0 (j - 0).toNat).map W.fz)), ρ1)
theorem range_rep {C : Cfg} {H : Hp} {O : AP} (lo : Int) : ∀ (l : List Nat), RepDs C H O (l.map fun i => D.int (lo + (i : Nat))) (l.map fun i => V.int (lo + (i : Nat)))
  | [] => rfl
  | i :: l => .cons rfl (range_rep lo l)
theorem rgV_rep {C : Cfg} {H : Hp} {O : AP} (a b : Int) : RepDs C H O (rangeD a (b - a).toNat) (rgV a b) := by
  have h := range_rep (C := C) (H := H) (O := O) a (List.range (b - a).toNat)
  exact h
section
variable {X : Cx} {cl : Nat → Addr} {e : Expr} {ca : CE} {qa : Bool} {p p2 pos pos2 : Pos}
theorem PostT.grow {C : Cfg} {σ : Sg} {H H1 H' : Hp} {O O1 O' : AP} {L L1 Lw : List Addr} {ρ ρ1 : En} {w : W} {v : V} (P : PostT C σ H O L ρ qa ρ1 H1 O1 L1) (g : Gr H1 O1 H' O' Lw) (r : RepW C H' O' w v Lw) : PostE C σ H O L ρ qa (.tmp w) ρ1 v H' O' L1 Lw := by
  refine ⟨P.env.grow g, r, ?_, P.st.trans g.stp, fun q => ⟨(P.qu q).1, fun a o e => g.ex a o ((P.qu q).2 a o e)⟩⟩
  refine List.nodup_append.mpr ⟨P.nd, g.nd, fun a ha b hb e => ?_⟩
  subst e
  obtain ⟨_, xs, e⟩ := P.env.own a ha
  rw [g.nw a hb] at e; cases e
theorem se_tupRange (hc : X.calm = true) (hg : Gl X "tuple") (hm : X.mg "tuple" = none) (hg2 : Gl X "range") (hm2 : X.mg "range" = none) (he : SE X cl qa e ca) (hs : starEach [e] X.env = (false, eval e X.env) :: starEach [] X.env := by rfl)
    (hs2 : starEach [Expr.Call (.Name "range" p2) [e] [] pos2] X.env = (false, eval (.Call (.Name "range" p2) [e] [] pos2) X.env) :: starEach [] X.env := by rfl) :
    SE X cl qa (.Call (.Name "tuple" p) [.Call (.Name "range" p2) [e] [] pos2] [] pos) (cRgTup ca) := by
  refine PE.imp (pe_tupRg hc hg hm (prg_1 hg2 hm2 he hs) hs2) fun σ H Q h => ?_
  obtain ⟨O, L, ρ, b0, ρ', env, nd, c, q⟩ := h
  obtain ⟨⟨b, ρ1⟩, c1, c⟩ := Res.of_bind c
  obtain ⟨j, c2, c⟩ := Res.of_bind c
  obtain ⟨_, c3, c⟩ := Res.of_bind c
  cases c
  have eb := intOf_ok c2
  subst eb
  refine ⟨O, L, ρ, _, ρ', env, nd, c1, fun v H1 O1 L1 Lb P => ?_⟩
  obtain ⟨e1, P'⟩ := P.ofInt
  exact ⟨j, e1, chk_dec c3, fun l hl => q (.ref l) _ _ L1 [] (P'.grow (Gr.new hl) (new_tup hl (rgV_rep 0 j)))⟩
theorem se_lstRange (hc : X.calm = true) (hg : Gl X "list") (hm : X.mg "list" = none) (hg2 : Gl X "range") (hm2 : X.mg "range" = none) (he : SE X cl qa e ca) (hs : starEach [e] X.env = (false, eval e X.env) :: starEach [] X.env := by rfl)
    (hs2 : starEach [Expr.Call (.Name "range" p2) [e] [] pos2] X.env = (false, eval (.Call (.Name "range" p2) [e] [] pos2) X.env) :: starEach [] X.env := by rfl) :
    SE X cl qa (.Call (.Name "list" p) [.Call (.Name "range" p2) [e] [] pos2] [] pos) (cRgLst ca) := by
  refine PE.imp (pe_listRg hc hg hm (prg_1 hg2 hm2 he hs) hs2) fun σ H Q h => ?_
  obtain ⟨O, L, ρ, b0, ρ', env, nd, c, q⟩ := h
  obtain ⟨⟨b, ρ1⟩, c1, c⟩ := Res.of_bind c
  obtain ⟨j, c2, c⟩ := Res.of_bind c
  obtain ⟨_, c3, c⟩ := Res.of_bind c
  cases c
  have eb := intOf_ok c2
  subst eb
  refine ⟨O, L, ρ, _, ρ', env, nd, c1, fun v H1 O1 L1 Lb P => ?_⟩
  obtain ⟨e1, P'⟩ := P.ofInt
  exact ⟨j, e1, chk_dec c3, fun l hl => q (.ref l) _ _ L1 [l] (P'.grow (Gr.newO hl) (new_lst hl (rgV_rep 0 j)))⟩
end
end Mi
/-! Mi: short words for the printed derivations -/
namespace Mi
open PySem PySem.Spec PyProof.Rows L2
/-- the built-in names are what they were -/
structure Blt (mg : Str → Option Value) : Prop where
  len : mg "len" = none
  abs : mg "abs" = none
  max : mg "max" = none
  min : mg "min" = none
  int : mg "int" = none
  str : mg "str" = none
  bool : mg "bool" = none
  sum : mg "sum" = none
  all : mg "all" = none
  any : mg "any" = none
  tuple : mg "tuple" = none
  list : mg "list" = none
  isinstance : mg "isinstance" = none
  range : mg "range" = none
  enumerate : mg "enumerate" = none
  zip : mg "zip" = none
  sorted : mg "sorted" = none
  reversed : mg "reversed" = none
  set : mg "set" = none
theorem FnM.blk {X : Cx} {cl : Nat → Addr} {x : Str} {F : Fn} (h : FnM X cl x F) {s : Shared} {H : Hp} {scope : Scope} {env : Env} {fp : List Addr} : FnM (X.blk s H scope env fp) cl x F := ⟨h.ex⟩
theorem FnK.blk {X : Cx} {cl : Nat → Addr} {x : Str} {ks : List Str} {ix : List Nat} {F : Fn} (h : FnK X cl x ks ix F) {s : Shared} {H : Hp} {scope : Scope} {env : Env} {fp : List Addr} : FnK (X.blk s H scope env fp) cl x ks ix F := ⟨h.ex⟩
abbrev BX (P : Program) (w : World) (K : PySem.W.Frag) (mg : Str → Option Value) (base : Heap) (N : List Str) (q : Str) (sc : Scope) (f : Addr) (cdv : Value) (A : Around) (outer : List Env) (s : Shared) (H : Hp) (E : XK) : Cx := (cxOf CX0 P w K mg base N q sc f cdv A outer s H E).nox
section
variable {X : Cx} {cl : Nat → Addr} {a b c e : Expr} {es : List Expr} {ca cb : CE} {cbs : CBs} {qa qb : Bool} {pos p p2 p3 p4 : Pos}
theorem dv (i : Nat) {x : Str} (hN : X.N[i]? = some x := by rfl) (hv : Vis X.env.scope x := by first | exact Or.inl rfl | exact Or.inr (Or.inl rfl) | exact Or.inr (Or.inr rfl)) (hd : (x == ("__debug__" : Str)) = false := by decide)
    (hcd : (x == ("__classdict__" : Str)) = false := by decide) : SE X cl true (.Name x pos) (cVar i) := se_var hN hv hd hcd
theorem dAdd (ha : SE X cl qa a ca) (hb : SE X cl qb b cb) : SE X cl (qa && qb) (.BinOp a .Add b pos) (cBin fAdd qb ca cb) := se_bin opr_add ops_add ha hb
theorem dSub (ha : SE X cl qa a ca) (hb : SE X cl qb b cb) : SE X cl (qa && qb) (.BinOp a .Sub b pos) (cBin fSub qb ca cb) := se_bin op_sub ops_sub ha hb
theorem dMul (ha : SE X cl qa a ca) (hb : SE X cl qb b cb) : SE X cl (qa && qb) (.BinOp a .Mult b pos) (cBin fMul qb ca cb) := se_bin opr_mul ops_mul ha hb
theorem dDiv (ha : SE X cl qa a ca) (hb : SE X cl qb b cb) : SE X cl (qa && qb) (.BinOp a .FloorDiv b pos) (cBin fDiv qb ca cb) := se_bin op_fdivW ops_div ha hb
theorem dMod (ha : SE X cl qa a ca) (hb : SE X cl qb b cb) : SE X cl (qa && qb) (.BinOp a .Mod b pos) (cBin fMod qb ca cb) := se_bin op_mod ops_mod ha hb
theorem dPow (ha : SE X cl qa a ca) (hb : SE X cl qb b cb) : SE X cl (qa && qb) (.BinOp a .Pow b pos) (cBin fPow qb ca cb) := se_bin op_pow ops_pow ha hb
theorem dNeg (ha : SE X cl qa a ca) : SE X cl qa (.UnaryOp .USub a pos) (cUn fNeg ca) := se_un un_neg uns_neg ha
theorem dLt (ha : SE X cl qa a ca) (hb : SE X cl qb b cb) : SE X cl (qa && qb) (.Compare a [.Lt] [b] pos) (cBin fLt qb ca cb) := se_cmp op_lt ops_lt ha hb (nomark _)
theorem dLe (ha : SE X cl qa a ca) (hb : SE X cl qb b cb) : SE X cl (qa && qb) (.Compare a [.LtE] [b] pos) (cBin fLe qb ca cb) := se_cmp op_le ops_le ha hb (nomark _)
theorem dGt (ha : SE X cl qa a ca) (hb : SE X cl qb b cb) : SE X cl (qa && qb) (.Compare a [.Gt] [b] pos) (cBin fGt qb ca cb) := se_cmp op_gt ops_gt ha hb (nomark _)
theorem dGe (ha : SE X cl qa a ca) (hb : SE X cl qb b cb) : SE X cl (qa && qb) (.Compare a [.GtE] [b] pos) (cBin fGe qb ca cb) := se_cmp op_ge ops_ge ha hb (nomark _)
theorem dEq (hu : X.A.units + 64 < cLine) (ha : SE X cl qa a ca) (hb : SE X cl qb b cb) : SE X cl (qa && qb) (.Compare a [.Eq] [b] pos) (cBin fEq qb ca cb) := se_cmp (op_eqD hu) ops_eq ha hb (nomark _)
theorem dNe (hu : X.A.units + 64 < cLine) (ha : SE X cl qa a ca) (hb : SE X cl qb b cb) : SE X cl (qa && qb) (.Compare a [.NotEq] [b] pos) (cBin fNe qb ca cb) := se_cmp (op_neD hu) ops_ne ha hb (nomark _)
theorem dIs (ha : SE X cl qa a ca) (hb : SE X cl qb b cb) : SE X cl (qa && qb) (.Compare a [.Is] [b] pos) (cBin fIsN qb ca cb) := se_cmp op_isN ops_isN ha hb (nomark _)
theorem dIsNot (ha : SE X cl qa a ca) (hb : SE X cl qb b cb) : SE X cl (qa && qb) (.Compare a [.IsNot] [b] pos) (cBin fNotN qb ca cb) := se_cmp op_notN ops_notN ha hb (nomark _)
theorem tLt' (ha : SE X cl qa a ca) (hb : SE X cl qb b cb) : ST X cl (qa && qb) (.Compare a [.Lt] [b] pos) (cTest (cBin fLt qb ca cb)) := st_cmp op_lt ops_lt ha hb (nomark _)
theorem tLe' (ha : SE X cl qa a ca) (hb : SE X cl qb b cb) : ST X cl (qa && qb) (.Compare a [.LtE] [b] pos) (cTest (cBin fLe qb ca cb)) := st_cmp op_le ops_le ha hb (nomark _)
theorem tGt' (ha : SE X cl qa a ca) (hb : SE X cl qb b cb) : ST X cl (qa && qb) (.Compare a [.Gt] [b] pos) (cTest (cBin fGt qb ca cb)) := st_cmp op_gt ops_gt ha hb (nomark _)
theorem tGe' (ha : SE X cl qa a ca) (hb : SE X cl qb b cb) : ST X cl (qa && qb) (.Compare a [.GtE] [b] pos) (cTest (cBin fGe qb ca cb)) := st_cmp op_ge ops_ge ha hb (nomark _)
theorem tEq' (hu : X.A.units + 64 < cLine) (ha : SE X cl qa a ca) (hb : SE X cl qb b cb) : ST X cl (qa && qb) (.Compare a [.Eq] [b] pos) (cTest (cBin fEq qb ca cb)) := st_cmp (op_eqD hu) ops_eq ha hb (nomark _)
theorem tNe' (hu : X.A.units + 64 < cLine) (ha : SE X cl qa a ca) (hb : SE X cl qb b cb) : ST X cl (qa && qb) (.Compare a [.NotEq] [b] pos) (cTest (cBin fNe qb ca cb)) := st_cmp (op_neD hu) ops_ne ha hb (nomark _)
theorem tIs' (ha : SE X cl qa a ca) (hb : SE X cl qb b cb) : ST X cl (qa && qb) (.Compare a [.Is] [b] pos) (cTest (cBin fIsN qb ca cb)) := st_cmp op_isN ops_isN ha hb (nomark _)
theorem tIsNot' (ha : SE X cl qa a ca) (hb : SE X cl qb b cb) : ST X cl (qa && qb) (.Compare a [.IsNot] [b] pos) (cTest (cBin fNotN qb ca cb)) := st_cmp op_notN ops_notN ha hb (nomark _)
theorem dIx (ha : SE X cl qa a ca) (hb : SE X cl qb b cb) (hs : PlainIx b := by intro _ _; rfl) : SE X cl (qa && qb) (.Subscript a b pos) (cBin fIdx qb ca cb) := PE.imp (pe_ix ix_seq ha hb hs) fun σ H Q h => bin_core ops_idx h
theorem dSl {lo hi : Option Expr} {co ch : CO} {ql qh : Bool} (he : SE X cl qa e ca) (hl : SO X cl ql lo co) (hh : SO X cl qh hi ch) : SE X cl (qa && (ql && qh)) (.Subscript e (.Slice lo hi none p2) pos) (cSl fSl (ql && qh) ca co ch) := se_slice slr_seq sls_seq he hl hh
/-- a built-in with its arguments -/
theorem dLen (hg : Gl X "len") (hm : X.mg "len" = none) (hb : SB X cl qb (e :: es) cbs) (he : starEach (e :: es) X.env = (false, eval e X.env) :: starEach es X.env := by rfl) (hpl : (backTo pos (starEach es X.env)).any (·.1) = false := by rfl) :
    SE X cl qb (.Call (.Name "len" p) (e :: es) [] pos) (cCallB fLen cbs) := se_callB cr_lenA cs_len hg hm PySem.boot_len hb (by decide) (by decide) he hpl
theorem dAbs (hg : Gl X "abs") (hm : X.mg "abs" = none) (hb : SB X cl qb (e :: es) cbs) (he : starEach (e :: es) X.env = (false, eval e X.env) :: starEach es X.env := by rfl) (hpl : (backTo pos (starEach es X.env)).any (·.1) = false := by rfl) :
    SE X cl qb (.Call (.Name "abs" p) (e :: es) [] pos) (cCallB fAbs cbs) := se_callB call_abs cs_abs hg hm (by decide +kernel) hb (by decide) (by decide) he hpl
theorem dMax2 (hc : X.calm = true) (hg : Gl X "max") (hm : X.mg "max" = none) (hb : SB X cl qb (e :: es) cbs) (he : starEach (e :: es) X.env = (false, eval e X.env) :: starEach es X.env := by rfl) (hpl : (backTo pos (starEach es X.env)).any (·.1) = false := by rfl) :
    SE X cl qb (.Call (.Name "max" p) (e :: es) [] pos) (cCallB fMax2 cbs) := se_callB (call_max2 hc) cs_max2 hg hm (by decide +kernel) hb (by decide) (by decide) he hpl
theorem dMin2 (hc : X.calm = true) (hg : Gl X "min") (hm : X.mg "min" = none) (hb : SB X cl qb (e :: es) cbs) (he : starEach (e :: es) X.env = (false, eval e X.env) :: starEach es X.env := by rfl) (hpl : (backTo pos (starEach es X.env)).any (·.1) = false := by rfl) :
    SE X cl qb (.Call (.Name "min" p) (e :: es) [] pos) (cCallB fMin2 cbs) := se_callB (call_min2 hc) cs_min2 hg hm (by decide +kernel) hb (by decide) (by decide) he hpl
theorem dMax1 (hc : X.calm = true) (hg : Gl X "max") (hm : X.mg "max" = none) (hb : SB X cl qb (e :: es) cbs) (he : starEach (e :: es) X.env = (false, eval e X.env) :: starEach es X.env := by rfl) (hpl : (backTo pos (starEach es X.env)).any (·.1) = false := by rfl) :
    SE X cl qb (.Call (.Name "max" p) (e :: es) [] pos) (cCallB fMax1 cbs) := se_callB (cr_max hc) cs_max1 hg hm (by decide +kernel) hb (by decide) (by decide) he hpl
theorem dMin1 (hc : X.calm = true) (hg : Gl X "min") (hm : X.mg "min" = none) (hb : SB X cl qb (e :: es) cbs) (he : starEach (e :: es) X.env = (false, eval e X.env) :: starEach es X.env := by rfl) (hpl : (backTo pos (starEach es X.env)).any (·.1) = false := by rfl) :
    SE X cl qb (.Call (.Name "min" p) (e :: es) [] pos) (cCallB fMin1 cbs) := se_callB (cr_min hc) cs_min1 hg hm (by decide +kernel) hb (by decide) (by decide) he hpl
theorem dSum (hc : X.calm = true) (hg : Gl X "sum") (hm : X.mg "sum" = none) (hb : SB X cl qb (e :: es) cbs) (he : starEach (e :: es) X.env = (false, eval e X.env) :: starEach es X.env := by rfl) (hpl : (backTo pos (starEach es X.env)).any (·.1) = false := by rfl) :
    SE X cl qb (.Call (.Name "sum" p) (e :: es) [] pos) (cCallB fSum cbs) := se_callB (cr_sum hc) cs_sum hg hm (by decide +kernel) hb (by decide) (by decide) he hpl
theorem dAll (hc : X.calm = true) (hg : Gl X "all") (hm : X.mg "all" = none) (hb : SB X cl qb (e :: es) cbs) (he : starEach (e :: es) X.env = (false, eval e X.env) :: starEach es X.env := by rfl) (hpl : (backTo pos (starEach es X.env)).any (·.1) = false := by rfl) :
    SE X cl qb (.Call (.Name "all" p) (e :: es) [] pos) (cCallB fAll cbs) := se_callB (cr_all hc) cs_all hg hm (by decide +kernel) hb (by decide) (by decide) he hpl
theorem dAny (hc : X.calm = true) (hg : Gl X "any") (hm : X.mg "any" = none) (hb : SB X cl qb (e :: es) cbs) (he : starEach (e :: es) X.env = (false, eval e X.env) :: starEach es X.env := by rfl) (hpl : (backTo pos (starEach es X.env)).any (·.1) = false := by rfl) :
    SE X cl qb (.Call (.Name "any" p) (e :: es) [] pos) (cCallB fAny cbs) := se_callB (cr_any hc) cs_any hg hm (by decide +kernel) hb (by decide) (by decide) he hpl
theorem dInt (hg : Gl X "int") (hm : X.mg "int" = none) (hb : SB X cl qb (e :: es) cbs) (he : starEach (e :: es) X.env = (false, eval e X.env) :: starEach es X.env := by rfl) (hpl : (backTo pos (starEach es X.env)).any (·.1) = false := by rfl) :
    SE X cl qb (.Call (.Name "int" p) (e :: es) [] pos) (cCallB fInt cbs) := se_callTy call_int1 cs_int hg hm (by decide +kernel) hb (by decide) (by decide) he hpl
theorem dTuple (hg : Gl X "tuple") (hm : X.mg "tuple" = none) (hb : SB X cl qb (e :: es) cbs) (he : starEach (e :: es) X.env = (false, eval e X.env) :: starEach es X.env := by rfl) (hpl : (backTo pos (starEach es X.env)).any (·.1) = false := by rfl) :
    SE X cl qb (.Call (.Name "tuple" p) (e :: es) [] pos) (cCallB fTuple cbs) := se_callTy call_tuple_of cs_tuple hg hm (by decide +kernel) hb (by decide) (by decide) he hpl
theorem dList (hg : Gl X "list") (hm : X.mg "list" = none) (hb : SB X cl qb (e :: es) cbs) (he : starEach (e :: es) X.env = (false, eval e X.env) :: starEach es X.env := by rfl) (hpl : (backTo pos (starEach es X.env)).any (·.1) = false := by rfl) :
    SE X cl qb (.Call (.Name "list" p) (e :: es) [] pos) (cCallB fList cbs) := se_callTy call_list_of cs_list hg hm (by decide +kernel) hb (by decide) (by decide) he hpl
theorem tyInt (hg : Gl X "int") (hm : X.mg "int" = none) : TyN X "int" "int" := ⟨hg, hm, by decide +kernel, by decide, by decide⟩
theorem tyBool (hg : Gl X "bool") (hm : X.mg "bool" = none) : TyN X "bool" "bool" := ⟨hg, hm, by decide +kernel, by decide, by decide⟩
theorem tyStr (hg : Gl X "str") (hm : X.mg "str" = none) : TyN X "str" "str" := ⟨hg, hm, by decide +kernel, by decide, by decide⟩
theorem tyTuple (hg : Gl X "tuple") (hm : X.mg "tuple" = none) : TyN X "tuple" "tuple" := ⟨hg, hm, by decide +kernel, by decide, by decide⟩
theorem tyList (hg : Gl X "list") (hm : X.mg "list" = none) : TyN X "list" "list" := ⟨hg, hm, by decide +kernel, by decide, by decide⟩
end
/-- a def of the text keeps its promise: from its body -/
theorem fn_def {P : Program} {w : World} {K : PySem.W.Frag} {mg : Str → Option Value} {base : Heap} {cl : Nat → Addr} {x q : Str} {st : Stmt} {N ps : List Str} {k : Nat} {f : Addr} {fd : FuncData} {io : KP} {body : CS}
    (F : FunD K x q (defArgs st) (defBody st) (defScope st) [] [] f fd) (S : FnScope N ps (defScope st)) (hio : ∀ i, ps.length ≤ i → io i = false)
    (hb : ∀ (cdv : Value) (A : Around) (outer : List Env) (s : Shared) (H : Hp) (E : XK), Room k (A.deeper (envOfC q (defScope st) s.heap.objs.size f cdv)) → SSs (BX P w K mg base N q (defScope st) f cdv A outer s H E) cl io (defBody st) body) :
    FnOk P w K mg base CX0 (k + 1) f fd ps (spM ⟨K, cl⟩ (runDef ps.length N.length io body)) := by
  refine F.ok S (fun vs H Q E h => ?_) (fun cdv A outer s H vs Q E hr h => ⟨tS ⟨K, cl⟩ io body, PSs.nox (hb cdv A outer s H E hr), def_core hio h⟩)
  obtain ⟨O, L, ws, r, back, rs, nd, c, _⟩ := h
  obtain ⟨_, c1, _⟩ := Res.of_bind c
  have hl : ws.length = ps.length := by simpa using chk_ok c1
  rw [rs.length, hl]
end Mi
/-! Mi: defs by names, the law's end -/
namespace Mi
open PySem PySem.Spec PyProof.Rows L2
def ioOf (l : List Nat) : KP := fun i => l.contains i
theorem ioOf_out {l : List Nat} {n : Nat} (h : (l.all fun j => decide (j < n)) = true) : ∀ i, n ≤ i → ioOf l i = false := fun i hi => by
  unfold ioOf
  cases e : l.contains i with
  | false => rfl
  | true =>
    have := List.all_eq_true.mp h i (by simpa using e)
    have := of_decide_eq_true this
    omega
theorem vals_pick {zs : List V} {ws : List Value} (r : Vals zs ws) : ∀ ix : List Nat, Vals (pick ix zs) (pick ix ws)
  | [] => .nil
  | i :: ix => by
    unfold pick
    rw [List.filterMap_cons, List.filterMap_cons]
    cases h : zs[i]? with
    | none =>
      rw [Vals.none_of r h]
      exact vals_pick r ix
    | some x =>
      obtain ⟨u, hu, ru⟩ := Vals.get r h
      rw [hu]
      exact .cons ru (vals_pick r ix)
section
variable {K : PySem.W.Frag} {x qual : Str} {params : Arguments} {body : List Stmt} {scope : Scope} {f : Addr} {fd : FuncData} {ps : List Str}
theorem kbn_of {ks : List Str} {ix : List Nat} (F : FunD K x qual params body scope [] [] f fd)
    (h : ∀ (kV doc pm : Value) (an : Option Addr) (cdv ct : Value) (us : List Value), us.length = ks.length → bindArgs (PySem.W.fnOf x qual params body scope .none kV doc pm an cdv ct) ⟨[], ks.zip us⟩ = pure (ps.zip (pick ix us))) :
    KBn K fd ps 0 ks (fun _ ws => pick ix ws) (fun _ zs => pick ix zs) := by
  obtain ⟨oc, od, dV, kV, doc, pm, an, cdv, ct, osl, rfl, lk, hcd, hD, hK⟩ := F.ex
  rcases hD with ⟨_, rfl⟩ | ⟨e, _⟩
  · refine ⟨fun s us ws X l1 l2 => ?_, fun r1 r2 => vals_pick r2 ix⟩
    cases us with
    | nil => exact .of_eq (h kV doc pm an cdv ct ws l2)
    | cons u r => cases l1
  · exact absurd rfl e
end
/-- a def that keeps its promise, at a level -/
structure Dn (P : Program) (w : World) (K : PySem.W.Frag) (mg : Str → Option Value) (base : Heap) (cl : Nat → Addr) (x : Str) (k : Nat) (F : Fn) : Prop where
  ex : ∃ (f : Addr) (fd : FuncData) (ps : List Str), FnOk P w K mg base CX0 k f fd ps (spM ⟨K, cl⟩ F) ∧ mg x = some (.ref f) ∧ PySem.W.keepIn K (.ref f) = true ∧ Binds K fd ps []
structure Dk (P : Program) (w : World) (K : PySem.W.Frag) (mg : Str → Option Value) (base : Heap) (cl : Nat → Addr) (x : Str) (ks : List Str) (ix : List Nat) (k : Nat) (F : Fn) : Prop where
  ex : ∃ (f : Addr) (fd : FuncData) (ps : List Str), FnOk P w K mg base CX0 k f fd ps (spM ⟨K, cl⟩ F) ∧ mg x = some (.ref f) ∧ PySem.W.keepIn K (.ref f) = true ∧ KBn K fd ps 0 ks (fun _ ws => pick ix ws) (fun _ zs => pick ix zs)
section
variable {P : Program} {w : World} {K : PySem.W.Frag} {mg : Str → Option Value} {base : Heap} {cl : Nat → Addr} {x : Str} {k j : Nat} {F : Fn} {N : List Str} {q : Str} {sc : Scope} {f : Addr} {cdv : Value} {A : Around} {outer : List Env} {s : Shared} {H : Hp} {E : XK}
theorem Dn.fm (d : Dn P w K mg base cl x k F) (hr : Room j (A.deeper (envOfC q sc s.heap.objs.size f cdv))) (h : k ≤ j) : FnM (BX P w K mg base N q sc f cdv A outer s H E) cl x F := by
  obtain ⟨f, fd, ps, G, m, kp, b⟩ := d.ex
  exact ⟨k, f, fd, ps, G, hr.mono h, m, kp, b⟩
theorem Dk.fm {ks : List Str} {ix : List Nat} (d : Dk P w K mg base cl x ks ix k F) (hr : Room j (A.deeper (envOfC q sc s.heap.objs.size f cdv))) (h : k ≤ j) : FnK (BX P w K mg base N q sc f cdv A outer s H E) cl x ks ix F := by
  obtain ⟨f, fd, ps, G, m, kp, b⟩ := d.ex
  exact ⟨k, f, fd, ps, G, hr.mono h, m, kp, b⟩
end
abbrev errF : Fn := fun _ => .err
theorem fn_zero {P : Program} {w : World} {K : PySem.W.Frag} {mg : Str → Option Value} {base : Heap} {cl : Nat → Addr} {x q : Str} {st : Stmt} {N ps : List Str} {k : Nat} {f : Addr} {fd : FuncData}
    (F : FunD K x q (defArgs st) (defBody st) (defScope st) [] [] f fd) (S : FnScope N ps (defScope st)) : FnOk P w K mg base CX0 (k + 1) f fd ps (spM ⟨K, cl⟩ errF) := by
  refine F.ok S (fun vs H Q E h => ?_) (fun cdv A outer s H vs Q E hr h => ?_)
  · obtain ⟨O, L, ws, r, back, rs, nd, c, _⟩ := h
    cases c
  · obtain ⟨O, L, ws, r, back, rs, nd, c, _⟩ := h
    cases c
theorem ints_rep {C : Cfg} {H : Hp} {O : AP} : ∀ ns : List Int, RepDs C H O (ns.map D.int) (ns.map V.int)
  | [] => rfl
  | n :: ns => ⟨.int n, _, rfl, rfl, ints_rep ns⟩
theorem law_sp {K : PySem.W.Frag} {cl : Nat → Addr} {F : Fn} {H : Hp} {a : Addr} {ns : List Int} {E : XK} (hS : SqL K H a (ns.map V.int)) (h : ∃ bk, F [.fz (.scr (ns.map D.int))] = .ok (.fz (.bl true), bk)) : spM ⟨K, cl⟩ F [.ref a] H (fun v _ => v = .bl true) E := by
  obtain ⟨bk, h⟩ := h
  have sc : Sc ⟨K, cl⟩ H (fun _ => False) a (ns.map V.int) := by
    rcases hS with z | z
    · exact .inl ⟨z, fun q => q⟩
    · exact .inr z
  have r0 : RepW ⟨K, cl⟩ H (fun _ => False) (.fz (.scr (ns.map D.int))) (.ref a) [] := ⟨rfl, a, ns.map V.int, rfl, sc, ints_rep ns⟩
  have rs : RepWs ⟨K, cl⟩ H (fun _ => False) [.fz (.scr (ns.map D.int))] [.ref a] [] := ⟨.ref a, [], [], [], rfl, rfl, r0, rfl, rfl⟩
  exact ⟨fun _ => False, [], _, _, bk, rs, List.nodup_nil, h, fun v H' O' L' Lr r _ _ _ => r.2⟩
end Mi
/-! Mi: reading the mirror by simp -/
namespace Mi
open PySem PySem.Spec PyProof.Rows L2
def mutS (i : Nat) (p : List Nat) (k : Int) (w : W) (ρ : En) : Res En := mutP i p (fun ws => match ixN ws.length k with
    | some j => some (ws.set j w)
    | none => none) ρ
def mutA (i : Nat) (p : List Nat) (w : W) (ρ : En) : Res En := mutP i p (fun ws => if ws.length < 16777216 then some (ws ++ [w]) else none) ρ
def fzT (b : B) (ρ : En) : Res (W × En) := (take b ρ).bind fun (w, ρ') => .ok (.fz (frz w), ρ')
def backs1 (io : KP) (n : Nat) (w x : W) : Res W := if io n = true then .ok x else match w with
    | .fz d => .ok (.fz d)
    | .lst _ => .err
def lcT (vs : List Nat) (g : CG) (ct : CT) (ce : CE) (dl : List D) (ρ : En) : Res (List W × En) := (ce ρ).bind fun (b, ρc) => (take b ρc).bind fun (w, ρd) => (lcL vs g ct ce dl (wipeE ρd vs)).bind fun (ws, ρ') => .ok (w :: ws, ρ')
def kbin5 (op : W → W → Res W) (q : Bool) (ca : CE) (cb : CE) (ρ : En) (a : B) (ρ1 : En) (u : Unit) (b : B) (ρ2 : En) (x : W) (y : W) : (W) → Res (B × En) := fun z => match z with
  | w => .ok (.tmp w, ρ2)
def kbin4 (op : W → W → Res W) (q : Bool) (ca : CE) (cb : CE) (ρ : En) (a : B) (ρ1 : En) (u : Unit) (b : B) (ρ2 : En) (x : W) : (W) → Res (B × En) := fun z => match z with
  | y => (op x y).bind (kbin5 op q ca cb ρ a ρ1 u b ρ2 x y)
def kbin3 (op : W → W → Res W) (q : Bool) (ca : CE) (cb : CE) (ρ : En) (a : B) (ρ1 : En) (u : Unit) (b : B) (ρ2 : En) : (W) → Res (B × En) := fun z => match z with
  | x => (cont b ρ2).bind (kbin4 op q ca cb ρ a ρ1 u b ρ2 x)
def kbin2 (op : W → W → Res W) (q : Bool) (ca : CE) (cb : CE) (ρ : En) (a : B) (ρ1 : En) (u : Unit) : (B) × (En) → Res (B × En) := fun z => match z with
  | (b, ρ2) => (cont a ρ2).bind (kbin3 op q ca cb ρ a ρ1 u b ρ2)
def kbin1 (op : W → W → Res W) (q : Bool) (ca : CE) (cb : CE) (ρ : En) (a : B) (ρ1 : En) : (Unit) → Res (B × En) := fun z => match z with
  | u => (cb ρ1).bind (kbin2 op q ca cb ρ a ρ1 u)
def kbin0 (op : W → W → Res W) (q : Bool) (ca : CE) (cb : CE) (ρ : En) : (B) × (En) → Res (B × En) := fun z => match z with
  | (a, ρ1) => (pend q a).bind (kbin1 op q ca cb ρ a ρ1)
theorem v_bin6 {op : W → W → Res W} {q : Bool} {ca : CE} {cb : CE} {ρ : En} {a : B} {ρ1 : En} {u : Unit} {b : B} {ρ2 : En} {x : W} {y : W} {w : W} : kbin5 op q ca cb ρ a ρ1 u b ρ2 x y w = .ok (.tmp w, ρ2) := rfl
theorem v_bin5 {op : W → W → Res W} {q : Bool} {ca : CE} {cb : CE} {ρ : En} {a : B} {ρ1 : En} {u : Unit} {b : B} {ρ2 : En} {x : W} {y : W} : kbin4 op q ca cb ρ a ρ1 u b ρ2 x y = (op x y).bind (kbin5 op q ca cb ρ a ρ1 u b ρ2 x y) := rfl
theorem v_bin4 {op : W → W → Res W} {q : Bool} {ca : CE} {cb : CE} {ρ : En} {a : B} {ρ1 : En} {u : Unit} {b : B} {ρ2 : En} {x : W} : kbin3 op q ca cb ρ a ρ1 u b ρ2 x = (cont b ρ2).bind (kbin4 op q ca cb ρ a ρ1 u b ρ2 x) := rfl
theorem v_bin3 {op : W → W → Res W} {q : Bool} {ca : CE} {cb : CE} {ρ : En} {a : B} {ρ1 : En} {u : Unit} {b : B} {ρ2 : En} : kbin2 op q ca cb ρ a ρ1 u (b, ρ2) = (cont a ρ2).bind (kbin3 op q ca cb ρ a ρ1 u b ρ2) := rfl
theorem v_bin2 {op : W → W → Res W} {q : Bool} {ca : CE} {cb : CE} {ρ : En} {a : B} {ρ1 : En} {u : Unit} : kbin1 op q ca cb ρ a ρ1 u = (cb ρ1).bind (kbin2 op q ca cb ρ a ρ1 u) := rfl
theorem v_bin1 {op : W → W → Res W} {q : Bool} {ca : CE} {cb : CE} {ρ : En} {a : B} {ρ1 : En} : kbin0 op q ca cb ρ (a, ρ1) = (pend q a).bind (kbin1 op q ca cb ρ a ρ1) := rfl
theorem v_bin {op : W → W → Res W} {q : Bool} {ca : CE} {cb : CE} {ρ : En} : cBin op q ca cb ρ = (ca ρ).bind (kbin0 op q ca cb ρ) := rfl
def kun2 (un : W → Res W) (ca : CE) (ρ : En) (a : B) (ρ1 : En) (x : W) : (W) → Res (B × En) := fun z => match z with
  | w => .ok (.tmp w, ρ1)
def kun1 (un : W → Res W) (ca : CE) (ρ : En) (a : B) (ρ1 : En) : (W) → Res (B × En) := fun z => match z with
  | x => (un x).bind (kun2 un ca ρ a ρ1 x)
def kun0 (un : W → Res W) (ca : CE) (ρ : En) : (B) × (En) → Res (B × En) := fun z => match z with
  | (a, ρ1) => (cont a ρ1).bind (kun1 un ca ρ a ρ1)
theorem v_un3 {un : W → Res W} {ca : CE} {ρ : En} {a : B} {ρ1 : En} {x : W} {w : W} : kun2 un ca ρ a ρ1 x w = .ok (.tmp w, ρ1) := rfl
theorem v_un2 {un : W → Res W} {ca : CE} {ρ : En} {a : B} {ρ1 : En} {x : W} : kun1 un ca ρ a ρ1 x = (un x).bind (kun2 un ca ρ a ρ1 x) := rfl
theorem v_un1 {un : W → Res W} {ca : CE} {ρ : En} {a : B} {ρ1 : En} : kun0 un ca ρ (a, ρ1) = (cont a ρ1).bind (kun1 un ca ρ a ρ1) := rfl
theorem v_un {un : W → Res W} {ca : CE} {ρ : En} : cUn un ca ρ = (ca ρ).bind (kun0 un ca ρ) := rfl
def ktest1 (ce : CE) (ρ : En) (b : B) (ρ1 : En) : (Bool) → Res (Bool × En) := fun z => match z with
  | k => .ok (k, ρ1)
def ktest0 (ce : CE) (ρ : En) : (B) × (En) → Res (Bool × En) := fun z => match z with
  | (b, ρ1) => (boolOf b).bind (ktest1 ce ρ b ρ1)
theorem v_test2 {ce : CE} {ρ : En} {b : B} {ρ1 : En} {k : Bool} : ktest1 ce ρ b ρ1 k = .ok (k, ρ1) := rfl
theorem v_test1 {ce : CE} {ρ : En} {b : B} {ρ1 : En} : ktest0 ce ρ (b, ρ1) = (boolOf b).bind (ktest1 ce ρ b ρ1) := rfl
theorem v_test {ce : CE} {ρ : En} : cTest ce ρ = (ce ρ).bind (ktest0 ce ρ) := rfl
def kcons2 (q : Bool) (ca : CE) (cbs : CBs) (ρ : En) (a : B) (ρ1 : En) (b : B) (ρ2 : En) : (List B) × (En) → Res (List B × En) := fun z => match z with
  | (bs, ρ3) => .ok (b :: bs, ρ3)
def kcons1 (q : Bool) (ca : CE) (cbs : CBs) (ρ : En) (a : B) (ρ1 : En) : (B) × (En) → Res (List B × En) := fun z => match z with
  | (b, ρ2) => (cbs ρ2).bind (kcons2 q ca cbs ρ a ρ1 b ρ2)
def kcons0 (q : Bool) (ca : CE) (cbs : CBs) (ρ : En) : (B) × (En) → Res (List B × En) := fun z => match z with
  | (a, ρ1) => (early q a ρ1).bind (kcons1 q ca cbs ρ a ρ1)
theorem v_cons3 {q : Bool} {ca : CE} {cbs : CBs} {ρ : En} {a : B} {ρ1 : En} {b : B} {ρ2 : En} {bs : List B} {ρ3 : En} : kcons2 q ca cbs ρ a ρ1 b ρ2 (bs, ρ3) = .ok (b :: bs, ρ3) := rfl
theorem v_cons2 {q : Bool} {ca : CE} {cbs : CBs} {ρ : En} {a : B} {ρ1 : En} {b : B} {ρ2 : En} : kcons1 q ca cbs ρ a ρ1 (b, ρ2) = (cbs ρ2).bind (kcons2 q ca cbs ρ a ρ1 b ρ2) := rfl
theorem v_cons1 {q : Bool} {ca : CE} {cbs : CBs} {ρ : En} {a : B} {ρ1 : En} : kcons0 q ca cbs ρ (a, ρ1) = (early q a ρ1).bind (kcons1 q ca cbs ρ a ρ1) := rfl
theorem v_cons {q : Bool} {ca : CE} {cbs : CBs} {ρ : En} : cCons q ca cbs ρ = (ca ρ).bind (kcons0 q ca cbs ρ) := rfl
def kstar3 (ca : CE) (cbs : CBs) (ρ : En) (a : B) (ρ1 : En) (x : W) (ds : List D) : (List B) × (En) → Res (List B × En) := fun z => match z with
  | (bs, ρ2) => .ok (ds.map (fun d => B.tmp (.fz d)) ++ bs, ρ2)
def kstar2 (ca : CE) (cbs : CBs) (ρ : En) (a : B) (ρ1 : En) (x : W) : (List D) → Res (List B × En) := fun z => match z with
  | ds => (cbs ρ1).bind (kstar3 ca cbs ρ a ρ1 x ds)
def kstar1 (ca : CE) (cbs : CBs) (ρ : En) (a : B) (ρ1 : En) : (W) → Res (List B × En) := fun z => match z with
  | x => (Res.of (seqV x)).bind (kstar2 ca cbs ρ a ρ1 x)
def kstar0 (ca : CE) (cbs : CBs) (ρ : En) : (B) × (En) → Res (List B × En) := fun z => match z with
  | (a, ρ1) => (cont a ρ1).bind (kstar1 ca cbs ρ a ρ1)
theorem v_star4 {ca : CE} {cbs : CBs} {ρ : En} {a : B} {ρ1 : En} {x : W} {ds : List D} {bs : List B} {ρ2 : En} : kstar3 ca cbs ρ a ρ1 x ds (bs, ρ2) = .ok (ds.map (fun d => B.tmp (.fz d)) ++ bs, ρ2) := rfl
theorem v_star3 {ca : CE} {cbs : CBs} {ρ : En} {a : B} {ρ1 : En} {x : W} {ds : List D} : kstar2 ca cbs ρ a ρ1 x ds = (cbs ρ1).bind (kstar3 ca cbs ρ a ρ1 x ds) := rfl
theorem v_star2 {ca : CE} {cbs : CBs} {ρ : En} {a : B} {ρ1 : En} {x : W} : kstar1 ca cbs ρ a ρ1 x = (Res.of (seqV x)).bind (kstar2 ca cbs ρ a ρ1 x) := rfl
theorem v_star1 {ca : CE} {cbs : CBs} {ρ : En} {a : B} {ρ1 : En} : kstar0 ca cbs ρ (a, ρ1) = (cont a ρ1).bind (kstar1 ca cbs ρ a ρ1) := rfl
theorem v_star {ca : CE} {cbs : CBs} {ρ : En} : cStar ca cbs seqV ρ = (ca ρ).bind (kstar0 ca cbs ρ) := rfl
def ktup3 (q : Bool) (cbs : CBs) (ρ : En) (bs : List B) (ρ1 : En) (u : Unit) (ws : List W) (ρ2 : En) : (Unit) → Res (B × En) := fun z => match z with
  | u2 => .ok (.tmp (.fz (.tup (frzs ws))), ρ2)
def ktup2 (q : Bool) (cbs : CBs) (ρ : En) (bs : List B) (ρ1 : En) (u : Unit) : (List W) × (En) → Res (B × En) := fun z => match z with
  | (ws, ρ2) => (chk (decide (ws.length ≤ 16777216))).bind (ktup3 q cbs ρ bs ρ1 u ws ρ2)
def ktup1 (q : Bool) (cbs : CBs) (ρ : En) (bs : List B) (ρ1 : En) : (Unit) → Res (B × En) := fun z => match z with
  | u => (takes bs ρ1).bind (ktup2 q cbs ρ bs ρ1 u)
def ktup0 (q : Bool) (cbs : CBs) (ρ : En) : (List B) × (En) → Res (B × En) := fun z => match z with
  | (bs, ρ1) => (chk (shut q bs)).bind (ktup1 q cbs ρ bs ρ1)
theorem v_tup4 {q : Bool} {cbs : CBs} {ρ : En} {bs : List B} {ρ1 : En} {u : Unit} {ws : List W} {ρ2 : En} {u2 : Unit} : ktup3 q cbs ρ bs ρ1 u ws ρ2 u2 = .ok (.tmp (.fz (.tup (frzs ws))), ρ2) := rfl
theorem v_tup3 {q : Bool} {cbs : CBs} {ρ : En} {bs : List B} {ρ1 : En} {u : Unit} {ws : List W} {ρ2 : En} : ktup2 q cbs ρ bs ρ1 u (ws, ρ2) = (chk (decide (ws.length ≤ 16777216))).bind (ktup3 q cbs ρ bs ρ1 u ws ρ2) := rfl
theorem v_tup2 {q : Bool} {cbs : CBs} {ρ : En} {bs : List B} {ρ1 : En} {u : Unit} : ktup1 q cbs ρ bs ρ1 u = (takes bs ρ1).bind (ktup2 q cbs ρ bs ρ1 u) := rfl
theorem v_tup1 {q : Bool} {cbs : CBs} {ρ : En} {bs : List B} {ρ1 : En} : ktup0 q cbs ρ (bs, ρ1) = (chk (shut q bs)).bind (ktup1 q cbs ρ bs ρ1) := rfl
theorem v_tup {q : Bool} {cbs : CBs} {ρ : En} : cTup q cbs ρ = (cbs ρ).bind (ktup0 q cbs ρ) := rfl
def klst3 (q : Bool) (cbs : CBs) (ρ : En) (bs : List B) (ρ1 : En) (u : Unit) (ws : List W) (ρ2 : En) : (Unit) → Res (B × En) := fun z => match z with
  | u2 => .ok (.tmp (.lst ws), ρ2)
def klst2 (q : Bool) (cbs : CBs) (ρ : En) (bs : List B) (ρ1 : En) (u : Unit) : (List W) × (En) → Res (B × En) := fun z => match z with
  | (ws, ρ2) => (chk (decide (ws.length ≤ 16777216))).bind (klst3 q cbs ρ bs ρ1 u ws ρ2)
def klst1 (q : Bool) (cbs : CBs) (ρ : En) (bs : List B) (ρ1 : En) : (Unit) → Res (B × En) := fun z => match z with
  | u => (takes bs ρ1).bind (klst2 q cbs ρ bs ρ1 u)
def klst0 (q : Bool) (cbs : CBs) (ρ : En) : (List B) × (En) → Res (B × En) := fun z => match z with
  | (bs, ρ1) => (chk (shut q bs)).bind (klst1 q cbs ρ bs ρ1)
theorem v_lst4 {q : Bool} {cbs : CBs} {ρ : En} {bs : List B} {ρ1 : En} {u : Unit} {ws : List W} {ρ2 : En} {u2 : Unit} : klst3 q cbs ρ bs ρ1 u ws ρ2 u2 = .ok (.tmp (.lst ws), ρ2) := rfl
theorem v_lst3 {q : Bool} {cbs : CBs} {ρ : En} {bs : List B} {ρ1 : En} {u : Unit} {ws : List W} {ρ2 : En} : klst2 q cbs ρ bs ρ1 u (ws, ρ2) = (chk (decide (ws.length ≤ 16777216))).bind (klst3 q cbs ρ bs ρ1 u ws ρ2) := rfl
theorem v_lst2 {q : Bool} {cbs : CBs} {ρ : En} {bs : List B} {ρ1 : En} {u : Unit} : klst1 q cbs ρ bs ρ1 u = (takes bs ρ1).bind (klst2 q cbs ρ bs ρ1 u) := rfl
theorem v_lst1 {q : Bool} {cbs : CBs} {ρ : En} {bs : List B} {ρ1 : En} : klst0 q cbs ρ (bs, ρ1) = (chk (shut q bs)).bind (klst1 q cbs ρ bs ρ1) := rfl
theorem v_lst {q : Bool} {cbs : CBs} {ρ : En} : cLst q cbs ρ = (cbs ρ).bind (klst0 q cbs ρ) := rfl
def kcallB2 (fl : List W → Res W) (cbs : CBs) (ρ : En) (bs : List B) (ρ1 : En) (ws : List W) : (W) → Res (B × En) := fun z => match z with
  | w => .ok (.tmp w, ρ1)
def kcallB1 (fl : List W → Res W) (cbs : CBs) (ρ : En) (bs : List B) (ρ1 : En) : (List W) → Res (B × En) := fun z => match z with
  | ws => (fl ws).bind (kcallB2 fl cbs ρ bs ρ1 ws)
def kcallB0 (fl : List W → Res W) (cbs : CBs) (ρ : En) : (List B) × (En) → Res (B × En) := fun z => match z with
  | (bs, ρ1) => (conts bs ρ1).bind (kcallB1 fl cbs ρ bs ρ1)
theorem v_callB3 {fl : List W → Res W} {cbs : CBs} {ρ : En} {bs : List B} {ρ1 : En} {ws : List W} {w : W} : kcallB2 fl cbs ρ bs ρ1 ws w = .ok (.tmp w, ρ1) := rfl
theorem v_callB2 {fl : List W → Res W} {cbs : CBs} {ρ : En} {bs : List B} {ρ1 : En} {ws : List W} : kcallB1 fl cbs ρ bs ρ1 ws = (fl ws).bind (kcallB2 fl cbs ρ bs ρ1 ws) := rfl
theorem v_callB1 {fl : List W → Res W} {cbs : CBs} {ρ : En} {bs : List B} {ρ1 : En} : kcallB0 fl cbs ρ (bs, ρ1) = (conts bs ρ1).bind (kcallB1 fl cbs ρ bs ρ1) := rfl
theorem v_callB {fl : List W → Res W} {cbs : CBs} {ρ : En} : cCallB fl cbs ρ = (cbs ρ).bind (kcallB0 fl cbs ρ) := rfl
def kandT0 (ct : CT) (ct2 : CT) (ρ : En) : (Bool) × (En) → Res (Bool × En) := fun z => match z with
  | (k, ρ1) => if k = true then ct2 ρ1 else .ok (false, ρ1)
theorem v_andT1 {ct : CT} {ct2 : CT} {ρ : En} {k : Bool} {ρ1 : En} : kandT0 ct ct2 ρ (k, ρ1) = if k = true then ct2 ρ1 else .ok (false, ρ1) := rfl
theorem v_andT {ct : CT} {ct2 : CT} {ρ : En} : cAndT ct ct2 ρ = (ct ρ).bind (kandT0 ct ct2 ρ) := rfl
def korT0 (ct : CT) (ct2 : CT) (ρ : En) : (Bool) × (En) → Res (Bool × En) := fun z => match z with
  | (k, ρ1) => if k = true then .ok (true, ρ1) else ct2 ρ1
theorem v_orT1 {ct : CT} {ct2 : CT} {ρ : En} {k : Bool} {ρ1 : En} : korT0 ct ct2 ρ (k, ρ1) = if k = true then .ok (true, ρ1) else ct2 ρ1 := rfl
theorem v_orT {ct : CT} {ct2 : CT} {ρ : En} : cOrT ct ct2 ρ = (ct ρ).bind (korT0 ct ct2 ρ) := rfl
def knotT0 (ct : CT) (ρ : En) : (Bool) × (En) → Res (Bool × En) := fun z => match z with
  | (k, ρ1) => .ok (!k, ρ1)
theorem v_notT1 {ct : CT} {ρ : En} {k : Bool} {ρ1 : En} : knotT0 ct ρ (k, ρ1) = .ok (!k, ρ1) := rfl
theorem v_notT {ct : CT} {ρ : En} : cNotT ct ρ = (ct ρ).bind (knotT0 ct ρ) := rfl
def kand1 (ca : CE) (cb : CE) (ρ : En) (a : B) (ρ1 : En) : (Bool) → Res (B × En) := fun z => match z with
  | k => if k = true then cb ρ1 else .ok (.tmp (.fz (.bl false)), ρ1)
def kand0 (ca : CE) (cb : CE) (ρ : En) : (B) × (En) → Res (B × En) := fun z => match z with
  | (a, ρ1) => (boolOf a).bind (kand1 ca cb ρ a ρ1)
theorem v_and2 {ca : CE} {cb : CE} {ρ : En} {a : B} {ρ1 : En} {k : Bool} : kand1 ca cb ρ a ρ1 k = if k = true then cb ρ1 else .ok (.tmp (.fz (.bl false)), ρ1) := rfl
theorem v_and1 {ca : CE} {cb : CE} {ρ : En} {a : B} {ρ1 : En} : kand0 ca cb ρ (a, ρ1) = (boolOf a).bind (kand1 ca cb ρ a ρ1) := rfl
theorem v_and {ca : CE} {cb : CE} {ρ : En} : cAnd ca cb ρ = (ca ρ).bind (kand0 ca cb ρ) := rfl
def kor1 (ca : CE) (cb : CE) (ρ : En) (a : B) (ρ1 : En) : (Bool) → Res (B × En) := fun z => match z with
  | k => if k = true then .ok (.tmp (.fz (.bl true)), ρ1) else cb ρ1
def kor0 (ca : CE) (cb : CE) (ρ : En) : (B) × (En) → Res (B × En) := fun z => match z with
  | (a, ρ1) => (boolOf a).bind (kor1 ca cb ρ a ρ1)
theorem v_or2 {ca : CE} {cb : CE} {ρ : En} {a : B} {ρ1 : En} {k : Bool} : kor1 ca cb ρ a ρ1 k = if k = true then .ok (.tmp (.fz (.bl true)), ρ1) else cb ρ1 := rfl
theorem v_or1 {ca : CE} {cb : CE} {ρ : En} {a : B} {ρ1 : En} : kor0 ca cb ρ (a, ρ1) = (boolOf a).bind (kor1 ca cb ρ a ρ1) := rfl
theorem v_or {ca : CE} {cb : CE} {ρ : En} : cOr ca cb ρ = (ca ρ).bind (kor0 ca cb ρ) := rfl
def knot1 (ca : CE) (ρ : En) (a : B) (ρ1 : En) : (Bool) → Res (B × En) := fun z => match z with
  | k => .ok (.tmp (.fz (.bl (!k))), ρ1)
def knot0 (ca : CE) (ρ : En) : (B) × (En) → Res (B × En) := fun z => match z with
  | (a, ρ1) => (boolOf a).bind (knot1 ca ρ a ρ1)
theorem v_not2 {ca : CE} {ρ : En} {a : B} {ρ1 : En} {k : Bool} : knot1 ca ρ a ρ1 k = .ok (.tmp (.fz (.bl (!k))), ρ1) := rfl
theorem v_not1 {ca : CE} {ρ : En} {a : B} {ρ1 : En} : knot0 ca ρ (a, ρ1) = (boolOf a).bind (knot1 ca ρ a ρ1) := rfl
theorem v_not {ca : CE} {ρ : En} : cNot ca ρ = (ca ρ).bind (knot0 ca ρ) := rfl
def kif0 (ct : CT) (ca : CE) (cb : CE) (ρ : En) : (Bool) × (En) → Res (B × En) := fun z => match z with
  | (k, ρ1) => if k = true then ca ρ1 else cb ρ1
theorem v_if1 {ct : CT} {ca : CE} {cb : CE} {ρ : En} {k : Bool} {ρ1 : En} : kif0 ct ca cb ρ (k, ρ1) = if k = true then ca ρ1 else cb ρ1 := rfl
theorem v_if {ct : CT} {ca : CE} {cb : CE} {ρ : En} : cIf ct ca cb ρ = (ct ρ).bind (kif0 ct ca cb ρ) := rfl
def korL0 (ca : CE) (cb : CE) (ρ : En) : (B) × (En) → Res (B × En) := fun z => match z with
  | (a, ρ1) => match a with
      | .tmp (.lst ws) => if ws.isEmpty = true then cb ρ1 else .ok (.tmp (.lst ws), ρ1)
      | _ => .err
theorem v_orL1 {ca : CE} {cb : CE} {ρ : En} {a : B} {ρ1 : En} : korL0 ca cb ρ (a, ρ1) = match a with
  | .tmp (.lst ws) => if ws.isEmpty = true then cb ρ1 else .ok (.tmp (.lst ws), ρ1)
  | _ => .err := rfl
theorem v_orL {ca : CE} {cb : CE} {ρ : En} : cOrL ca cb ρ = (ca ρ).bind (korL0 ca cb ρ) := rfl
def kseq0 (c1 : CS) (c2 : CS) (ρ : En) : (Fl) × (En) → Res (Fl × En) := fun z => match z with
  | (f, ρ1) => match f with
      | .nx => c2 ρ1
      | f => .ok (f, ρ1)
theorem v_seq1 {c1 : CS} {c2 : CS} {ρ : En} {f : Fl} {ρ1 : En} : kseq0 c1 c2 ρ (f, ρ1) = match f with
  | .nx => c2 ρ1
  | f => .ok (f, ρ1) := rfl
theorem v_seq {c1 : CS} {c2 : CS} {ρ : En} : cSeq c1 c2 ρ = (c1 ρ).bind (kseq0 c1 c2 ρ) := rfl
def kifS0 (ct : CT) (c1 : CS) (c2 : CS) (ρ : En) : (Bool) × (En) → Res (Fl × En) := fun z => match z with
  | (k, ρ1) => if k = true then c1 ρ1 else c2 ρ1
theorem v_ifS1 {ct : CT} {c1 : CS} {c2 : CS} {ρ : En} {k : Bool} {ρ1 : En} : kifS0 ct c1 c2 ρ (k, ρ1) = if k = true then c1 ρ1 else c2 ρ1 := rfl
theorem v_ifS {ct : CT} {c1 : CS} {c2 : CS} {ρ : En} : cIfS ct c1 c2 ρ = (ct ρ).bind (kifS0 ct c1 c2 ρ) := rfl
def kret1 (ce : CE) (ρ : En) (b : B) (ρ1 : En) : (W) × (En) → Res (Fl × En) := fun z => match z with
  | (w, ρ2) => .ok (.ret w, ρ2)
def kret0 (ce : CE) (ρ : En) : (B) × (En) → Res (Fl × En) := fun z => match z with
  | (b, ρ1) => (move b ρ1).bind (kret1 ce ρ b ρ1)
theorem v_ret2 {ce : CE} {ρ : En} {b : B} {ρ1 : En} {w : W} {ρ2 : En} : kret1 ce ρ b ρ1 (w, ρ2) = .ok (.ret w, ρ2) := rfl
theorem v_ret1 {ce : CE} {ρ : En} {b : B} {ρ1 : En} : kret0 ce ρ (b, ρ1) = (move b ρ1).bind (kret1 ce ρ b ρ1) := rfl
theorem v_ret {ce : CE} {ρ : En} : cRet ce ρ = (ce ρ).bind (kret0 ce ρ) := rfl
def kdrop0 (ce : CE) (ρ : En) : (B) × (En) → Res (Fl × En) := fun z => match z with
  | (b, ρ1) => .ok (.nx, ρ1)
theorem v_drop1 {ce : CE} {ρ : En} {b : B} {ρ1 : En} : kdrop0 ce ρ (b, ρ1) = .ok (.nx, ρ1) := rfl
theorem v_drop {ce : CE} {ρ : En} : cDrop ce ρ = (ce ρ).bind (kdrop0 ce ρ) := rfl
def kasg2 (g : CG) (ce : CE) (ρ : En) (b : B) (ρ1 : En) (w : W) (ρ2 : En) : (En) → Res (Fl × En) := fun z => match z with
  | ρ3 => .ok (.nx, ρ3)
def kasg1 (g : CG) (ce : CE) (ρ : En) (b : B) (ρ1 : En) : (W) × (En) → Res (Fl × En) := fun z => match z with
  | (w, ρ2) => (g w ρ2).bind (kasg2 g ce ρ b ρ1 w ρ2)
def kasg0 (g : CG) (ce : CE) (ρ : En) : (B) × (En) → Res (Fl × En) := fun z => match z with
  | (b, ρ1) => (take b ρ1).bind (kasg1 g ce ρ b ρ1)
theorem v_asg3 {g : CG} {ce : CE} {ρ : En} {b : B} {ρ1 : En} {w : W} {ρ2 : En} {ρ3 : En} : kasg2 g ce ρ b ρ1 w ρ2 ρ3 = .ok (.nx, ρ3) := rfl
theorem v_asg2 {g : CG} {ce : CE} {ρ : En} {b : B} {ρ1 : En} {w : W} {ρ2 : En} : kasg1 g ce ρ b ρ1 (w, ρ2) = (g w ρ2).bind (kasg2 g ce ρ b ρ1 w ρ2) := rfl
theorem v_asg1 {g : CG} {ce : CE} {ρ : En} {b : B} {ρ1 : En} : kasg0 g ce ρ (b, ρ1) = (take b ρ1).bind (kasg1 g ce ρ b ρ1) := rfl
theorem v_asg {g : CG} {ce : CE} {ρ : En} : cAsg g ce ρ = (ce ρ).bind (kasg0 g ce ρ) := rfl
def kgset0 (i : Nat) (w : W) (ρ : En) : (Unit) → Res (En) := fun z => match z with
  | u => .ok (ρ.set i (some w))
theorem v_gset1 {i : Nat} {w : W} {ρ : En} {u : Unit} : kgset0 i w ρ u = .ok (ρ.set i (some w)) := rfl
theorem v_gset {i : Nat} {w : W} {ρ : En} : gSet i w ρ = (chk (decide (i < ρ.length))).bind (kgset0 i w ρ) := rfl
def kgsub4 (q : Bool) (co : CE) (ci : CE) (w : W) (ρ : En) (b : B) (ρ1 : En) (u : Unit) (bi : B) (ρ2 : En) (j : Int) : (Nat) × (List Nat) → Res (En) := fun z => match z with
  | (i, p) => mutS i p j w ρ2
def kgsub3 (q : Bool) (co : CE) (ci : CE) (w : W) (ρ : En) (b : B) (ρ1 : En) (u : Unit) (bi : B) (ρ2 : En) : (Int) → Res (En) := fun z => match z with
  | j => (isPl b ρ2).bind (kgsub4 q co ci w ρ b ρ1 u bi ρ2 j)
def kgsub2 (q : Bool) (co : CE) (ci : CE) (w : W) (ρ : En) (b : B) (ρ1 : En) (u : Unit) : (B) × (En) → Res (En) := fun z => match z with
  | (bi, ρ2) => (intOf bi).bind (kgsub3 q co ci w ρ b ρ1 u bi ρ2)
def kgsub1 (q : Bool) (co : CE) (ci : CE) (w : W) (ρ : En) (b : B) (ρ1 : En) : (Unit) → Res (En) := fun z => match z with
  | u => (ci ρ1).bind (kgsub2 q co ci w ρ b ρ1 u)
def kgsub0 (q : Bool) (co : CE) (ci : CE) (w : W) (ρ : En) : (B) × (En) → Res (En) := fun z => match z with
  | (b, ρ1) => (pend q b).bind (kgsub1 q co ci w ρ b ρ1)
theorem v_gsub5 {q : Bool} {co : CE} {ci : CE} {w : W} {ρ : En} {b : B} {ρ1 : En} {u : Unit} {bi : B} {ρ2 : En} {j : Int} {i : Nat} {p : List Nat} : kgsub4 q co ci w ρ b ρ1 u bi ρ2 j (i, p) = mutS i p j w ρ2 := rfl
theorem v_gsub4 {q : Bool} {co : CE} {ci : CE} {w : W} {ρ : En} {b : B} {ρ1 : En} {u : Unit} {bi : B} {ρ2 : En} {j : Int} : kgsub3 q co ci w ρ b ρ1 u bi ρ2 j = (isPl b ρ2).bind (kgsub4 q co ci w ρ b ρ1 u bi ρ2 j) := rfl
theorem v_gsub3 {q : Bool} {co : CE} {ci : CE} {w : W} {ρ : En} {b : B} {ρ1 : En} {u : Unit} {bi : B} {ρ2 : En} : kgsub2 q co ci w ρ b ρ1 u (bi, ρ2) = (intOf bi).bind (kgsub3 q co ci w ρ b ρ1 u bi ρ2) := rfl
theorem v_gsub2 {q : Bool} {co : CE} {ci : CE} {w : W} {ρ : En} {b : B} {ρ1 : En} {u : Unit} : kgsub1 q co ci w ρ b ρ1 u = (ci ρ1).bind (kgsub2 q co ci w ρ b ρ1 u) := rfl
theorem v_gsub1 {q : Bool} {co : CE} {ci : CE} {w : W} {ρ : En} {b : B} {ρ1 : En} : kgsub0 q co ci w ρ (b, ρ1) = (pend q b).bind (kgsub1 q co ci w ρ b ρ1) := rfl
theorem v_gsub {q : Bool} {co : CE} {ci : CE} {w : W} {ρ : En} : gSub q co ci w ρ = (co ρ).bind (kgsub0 q co ci w ρ) := rfl
def kgsc0 (g : CG) (gs : CGs) (d : D) (dl : List D) (ρ : En) : (En) → Res (En) := fun z => match z with
  | ρ1 => gs dl ρ1
theorem v_gsc1 {g : CG} {gs : CGs} {d : D} {dl : List D} {ρ : En} {ρ1 : En} : kgsc0 g gs d dl ρ ρ1 = gs dl ρ1 := rfl
theorem v_gsc {g : CG} {gs : CGs} {d : D} {dl : List D} {ρ : En} : gsCons g gs (d :: dl) ρ = (g (.fz d) ρ).bind (kgsc0 g gs d dl ρ) := rfl
def kgsn0 (dl : List D) (ρ : En) : (Unit) → Res (En) := fun z => match z with
  | u => .ok ρ
theorem v_gsn1 {dl : List D} {ρ : En} {u : Unit} : kgsn0 dl ρ u = .ok ρ := rfl
theorem v_gsn {dl : List D} {ρ : En} : gsNil dl ρ = (chk dl.isEmpty).bind (kgsn0 dl ρ) := rfl
def kfor0 (it : CI) (g : CG) (c1 : CS) (ρ : En) : (List D) × (En) → Res (Fl × En) := fun z => match z with
  | (ds, ρ1) => forL g c1 ds ρ1
theorem v_for1 {it : CI} {g : CG} {c1 : CS} {ρ : En} {ds : List D} {ρ1 : En} : kfor0 it g c1 ρ (ds, ρ1) = forL g c1 ds ρ1 := rfl
theorem v_for {it : CI} {g : CG} {c1 : CS} {ρ : En} : cFor it g c1 ρ = (it ρ).bind (kfor0 it g c1 ρ) := rfl
def kforc1 (g : CG) (c1 : CS) (d : D) (dl : List D) (ρ : En) (ρ1 : En) : (Fl) × (En) → Res (Fl × En) := fun z => match z with
  | (f, ρ2) => match f with
        | .nx => forL g c1 dl ρ2
        | .ct => forL g c1 dl ρ2
        | .bk => .ok (.nx, ρ2)
        | .ret w => .ok (.ret w, ρ2)
def kforc0 (g : CG) (c1 : CS) (d : D) (dl : List D) (ρ : En) : (En) → Res (Fl × En) := fun z => match z with
  | ρ1 => (c1 ρ1).bind (kforc1 g c1 d dl ρ ρ1)
theorem v_forc2 {g : CG} {c1 : CS} {d : D} {dl : List D} {ρ : En} {ρ1 : En} {f : Fl} {ρ2 : En} : kforc1 g c1 d dl ρ ρ1 (f, ρ2) = match f with
    | .nx => forL g c1 dl ρ2
    | .ct => forL g c1 dl ρ2
    | .bk => .ok (.nx, ρ2)
    | .ret w => .ok (.ret w, ρ2) := rfl
theorem v_forc1 {g : CG} {c1 : CS} {d : D} {dl : List D} {ρ : En} {ρ1 : En} : kforc0 g c1 d dl ρ ρ1 = (c1 ρ1).bind (kforc1 g c1 d dl ρ ρ1) := rfl
theorem v_forc {g : CG} {c1 : CS} {d : D} {dl : List D} {ρ : En} : forL g c1 (d :: dl) ρ = (g (.fz d) ρ).bind (kforc0 g c1 d dl ρ) := rfl
def klcc1 (vs : List Nat) (g : CG) (ct : CT) (ce : CE) (d : D) (dl : List D) (ρ : En) (ρ1 : En) : (Bool) × (En) → Res (List W × En) := fun z => match z with
  | (k, ρ2) => if k = true then lcT vs g ct ce dl ρ2 else lcL vs g ct ce dl (wipeE ρ2 vs)
def klcc0 (vs : List Nat) (g : CG) (ct : CT) (ce : CE) (d : D) (dl : List D) (ρ : En) : (En) → Res (List W × En) := fun z => match z with
  | ρ1 => (ct ρ1).bind (klcc1 vs g ct ce d dl ρ ρ1)
theorem v_lcc2 {vs : List Nat} {g : CG} {ct : CT} {ce : CE} {d : D} {dl : List D} {ρ : En} {ρ1 : En} {k : Bool} {ρ2 : En} : klcc1 vs g ct ce d dl ρ ρ1 (k, ρ2) = if k = true then lcT vs g ct ce dl ρ2 else lcL vs g ct ce dl (wipeE ρ2 vs) := rfl
theorem v_lcc1 {vs : List Nat} {g : CG} {ct : CT} {ce : CE} {d : D} {dl : List D} {ρ : En} {ρ1 : En} : klcc0 vs g ct ce d dl ρ ρ1 = (ct ρ1).bind (klcc1 vs g ct ce d dl ρ ρ1) := rfl
theorem v_lcc {vs : List Nat} {g : CG} {ct : CT} {ce : CE} {d : D} {dl : List D} {ρ : En} : lcL vs g ct ce (d :: dl) ρ = (g (.fz d) ρ).bind (klcc0 vs g ct ce d dl ρ) := rfl
def klcT2 (vs : List Nat) (g : CG) (ct : CT) (ce : CE) (dl : List D) (ρ : En) (b : B) (ρ1 : En) (w : W) (ρ2 : En) : (List W) × (En) → Res (List W × En) := fun z => match z with
  | (ws, ρ3) => .ok (w :: ws, ρ3)
def klcT1 (vs : List Nat) (g : CG) (ct : CT) (ce : CE) (dl : List D) (ρ : En) (b : B) (ρ1 : En) : (W) × (En) → Res (List W × En) := fun z => match z with
  | (w, ρ2) => (lcL vs g ct ce dl (wipeE ρ2 vs)).bind (klcT2 vs g ct ce dl ρ b ρ1 w ρ2)
def klcT0 (vs : List Nat) (g : CG) (ct : CT) (ce : CE) (dl : List D) (ρ : En) : (B) × (En) → Res (List W × En) := fun z => match z with
  | (b, ρ1) => (take b ρ1).bind (klcT1 vs g ct ce dl ρ b ρ1)
theorem v_lcT3 {vs : List Nat} {g : CG} {ct : CT} {ce : CE} {dl : List D} {ρ : En} {b : B} {ρ1 : En} {w : W} {ρ2 : En} {ws : List W} {ρ3 : En} : klcT2 vs g ct ce dl ρ b ρ1 w ρ2 (ws, ρ3) = .ok (w :: ws, ρ3) := rfl
theorem v_lcT2 {vs : List Nat} {g : CG} {ct : CT} {ce : CE} {dl : List D} {ρ : En} {b : B} {ρ1 : En} {w : W} {ρ2 : En} : klcT1 vs g ct ce dl ρ b ρ1 (w, ρ2) = (lcL vs g ct ce dl (wipeE ρ2 vs)).bind (klcT2 vs g ct ce dl ρ b ρ1 w ρ2) := rfl
theorem v_lcT1 {vs : List Nat} {g : CG} {ct : CT} {ce : CE} {dl : List D} {ρ : En} {b : B} {ρ1 : En} : klcT0 vs g ct ce dl ρ (b, ρ1) = (take b ρ1).bind (klcT1 vs g ct ce dl ρ b ρ1) := rfl
theorem v_lcT {vs : List Nat} {g : CG} {ct : CT} {ce : CE} {dl : List D} {ρ : En} : lcT vs g ct ce dl ρ = (ce ρ).bind (klcT0 vs g ct ce dl ρ) := rfl
def klc3 (vs : List Nat) (it : CI) (g : CG) (ct : CT) (ce : CE) (ρ : En) (ds : List D) (ρ1 : En) (u : Unit) (u2 : Unit) : (List W) × (En) → Res (B × En) := fun z => match z with
  | (ws, ρ2) => .ok (.tmp (.lst ws), restE ρ1 vs ρ2)
def klc2 (vs : List Nat) (it : CI) (g : CG) (ct : CT) (ce : CE) (ρ : En) (ds : List D) (ρ1 : En) (u : Unit) : (Unit) → Res (B × En) := fun z => match z with
  | u2 => (lcL vs g ct ce ds (wipeE ρ1 vs)).bind (klc3 vs it g ct ce ρ ds ρ1 u u2)
def klc1 (vs : List Nat) (it : CI) (g : CG) (ct : CT) (ce : CE) (ρ : En) (ds : List D) (ρ1 : En) : (Unit) → Res (B × En) := fun z => match z with
  | u => (chk (decide (ds.length ≤ 16777216))).bind (klc2 vs it g ct ce ρ ds ρ1 u)
def klc0 (vs : List Nat) (it : CI) (g : CG) (ct : CT) (ce : CE) (ρ : En) : (List D) × (En) → Res (B × En) := fun z => match z with
  | (ds, ρ1) => (chk (vs.all fun v => decide (v < ρ1.length))).bind (klc1 vs it g ct ce ρ ds ρ1)
theorem v_lc4 {vs : List Nat} {it : CI} {g : CG} {ct : CT} {ce : CE} {ρ : En} {ds : List D} {ρ1 : En} {u : Unit} {u2 : Unit} {ws : List W} {ρ2 : En} : klc3 vs it g ct ce ρ ds ρ1 u u2 (ws, ρ2) = .ok (.tmp (.lst ws), restE ρ1 vs ρ2) := rfl
theorem v_lc3 {vs : List Nat} {it : CI} {g : CG} {ct : CT} {ce : CE} {ρ : En} {ds : List D} {ρ1 : En} {u : Unit} {u2 : Unit} : klc2 vs it g ct ce ρ ds ρ1 u u2 = (lcL vs g ct ce ds (wipeE ρ1 vs)).bind (klc3 vs it g ct ce ρ ds ρ1 u u2) := rfl
theorem v_lc2 {vs : List Nat} {it : CI} {g : CG} {ct : CT} {ce : CE} {ρ : En} {ds : List D} {ρ1 : En} {u : Unit} : klc1 vs it g ct ce ρ ds ρ1 u = (chk (decide (ds.length ≤ 16777216))).bind (klc2 vs it g ct ce ρ ds ρ1 u) := rfl
theorem v_lc1 {vs : List Nat} {it : CI} {g : CG} {ct : CT} {ce : CE} {ρ : En} {ds : List D} {ρ1 : En} : klc0 vs it g ct ce ρ (ds, ρ1) = (chk (vs.all fun v => decide (v < ρ1.length))).bind (klc1 vs it g ct ce ρ ds ρ1) := rfl
theorem v_lc {vs : List Nat} {it : CI} {g : CG} {ct : CT} {ce : CE} {ρ : En} : cLc vs it g ct ce ρ = (it ρ).bind (klc0 vs it g ct ce ρ) := rfl
def kdef3 (np : Nat) (ns : Nat) (io : KP) (c1 : CS) (ws : List W) (u : Unit) (f : Fl) (ρ1 : En) (r : W) : (List W) → Res (W × List W) := fun z => match z with
  | bk => .ok (r, bk)
def kdef2 (np : Nat) (ns : Nat) (io : KP) (c1 : CS) (ws : List W) (u : Unit) (f : Fl) (ρ1 : En) : (W) → Res (W × List W) := fun z => match z with
  | r => (backs io 0 ws ρ1).bind (kdef3 np ns io c1 ws u f ρ1 r)
def kdef1 (np : Nat) (ns : Nat) (io : KP) (c1 : CS) (ws : List W) (u : Unit) : (Fl) × (En) → Res (W × List W) := fun z => match z with
  | (f, ρ1) => (retOf f).bind (kdef2 np ns io c1 ws u f ρ1)
def kdef0 (np : Nat) (ns : Nat) (io : KP) (c1 : CS) (ws : List W) : (Unit) → Res (W × List W) := fun z => match z with
  | u => (c1 (ws.map some ++ List.replicate (ns - np) none)).bind (kdef1 np ns io c1 ws u)
theorem v_def4 {np : Nat} {ns : Nat} {io : KP} {c1 : CS} {ws : List W} {u : Unit} {f : Fl} {ρ1 : En} {r : W} {bk : List W} : kdef3 np ns io c1 ws u f ρ1 r bk = .ok (r, bk) := rfl
theorem v_def3 {np : Nat} {ns : Nat} {io : KP} {c1 : CS} {ws : List W} {u : Unit} {f : Fl} {ρ1 : En} {r : W} : kdef2 np ns io c1 ws u f ρ1 r = (backs io 0 ws ρ1).bind (kdef3 np ns io c1 ws u f ρ1 r) := rfl
theorem v_def2 {np : Nat} {ns : Nat} {io : KP} {c1 : CS} {ws : List W} {u : Unit} {f : Fl} {ρ1 : En} : kdef1 np ns io c1 ws u (f, ρ1) = (retOf f).bind (kdef2 np ns io c1 ws u f ρ1) := rfl
theorem v_def1 {np : Nat} {ns : Nat} {io : KP} {c1 : CS} {ws : List W} {u : Unit} : kdef0 np ns io c1 ws u = (c1 (ws.map some ++ List.replicate (ns - np) none)).bind (kdef1 np ns io c1 ws u) := rfl
theorem v_def {np : Nat} {ns : Nat} {io : KP} {c1 : CS} {ws : List W} : runDef np ns io c1 ws = (chk (ws.length == np)).bind (kdef0 np ns io c1 ws) := rfl
def kcallV3 (F : Fn) (cbs : CBs) (ρ : En) (bs : List B) (ρ1 : En) (ws : List W) (r : W) (bk : List W) : (Unit) → Res (B × En) := fun z => match z with
  | u => .ok (.tmp r, ρ1)
def kcallV2 (F : Fn) (cbs : CBs) (ρ : En) (bs : List B) (ρ1 : En) (ws : List W) : (W) × (List W) → Res (B × En) := fun z => match z with
  | (r, bk) => (chk (scal r)).bind (kcallV3 F cbs ρ bs ρ1 ws r bk)
def kcallV1 (F : Fn) (cbs : CBs) (ρ : En) (bs : List B) (ρ1 : En) : (List W) → Res (B × En) := fun z => match z with
  | ws => (F (ws.map fun w => .fz (frz w))).bind (kcallV2 F cbs ρ bs ρ1 ws)
def kcallV0 (F : Fn) (cbs : CBs) (ρ : En) : (List B) × (En) → Res (B × En) := fun z => match z with
  | (bs, ρ1) => (conts bs ρ1).bind (kcallV1 F cbs ρ bs ρ1)
theorem v_callV4 {F : Fn} {cbs : CBs} {ρ : En} {bs : List B} {ρ1 : En} {ws : List W} {r : W} {bk : List W} {u : Unit} : kcallV3 F cbs ρ bs ρ1 ws r bk u = .ok (.tmp r, ρ1) := rfl
theorem v_callV3 {F : Fn} {cbs : CBs} {ρ : En} {bs : List B} {ρ1 : En} {ws : List W} {r : W} {bk : List W} : kcallV2 F cbs ρ bs ρ1 ws (r, bk) = (chk (scal r)).bind (kcallV3 F cbs ρ bs ρ1 ws r bk) := rfl
theorem v_callV2 {F : Fn} {cbs : CBs} {ρ : En} {bs : List B} {ρ1 : En} {ws : List W} : kcallV1 F cbs ρ bs ρ1 ws = (F (ws.map fun w => .fz (frz w))).bind (kcallV2 F cbs ρ bs ρ1 ws) := rfl
theorem v_callV1 {F : Fn} {cbs : CBs} {ρ : En} {bs : List B} {ρ1 : En} : kcallV0 F cbs ρ (bs, ρ1) = (conts bs ρ1).bind (kcallV1 F cbs ρ bs ρ1) := rfl
theorem v_callV {F : Fn} {cbs : CBs} {ρ : En} : cCallV F cbs ρ = (cbs ρ).bind (kcallV0 F cbs ρ) := rfl
def kcallP3 (q : Bool) (F : Fn) (cbs : CBs) (ρ : En) (bs : List B) (ρ1 : En) (u : Unit) (ws : List W) (ρ2 : En) : (W) × (List W) → Res (B × En) := fun z => match z with
  | (r, bk) => .ok (.tmp r, ρ2)
def kcallP2 (q : Bool) (F : Fn) (cbs : CBs) (ρ : En) (bs : List B) (ρ1 : En) (u : Unit) : (List W) × (En) → Res (B × En) := fun z => match z with
  | (ws, ρ2) => (F (ws.map fun w => .fz (frz w))).bind (kcallP3 q F cbs ρ bs ρ1 u ws ρ2)
def kcallP1 (q : Bool) (F : Fn) (cbs : CBs) (ρ : En) (bs : List B) (ρ1 : En) : (Unit) → Res (B × En) := fun z => match z with
  | u => (takes bs ρ1).bind (kcallP2 q F cbs ρ bs ρ1 u)
def kcallP0 (q : Bool) (F : Fn) (cbs : CBs) (ρ : En) : (List B) × (En) → Res (B × En) := fun z => match z with
  | (bs, ρ1) => (chk (shut q bs)).bind (kcallP1 q F cbs ρ bs ρ1)
theorem v_callP4 {q : Bool} {F : Fn} {cbs : CBs} {ρ : En} {bs : List B} {ρ1 : En} {u : Unit} {ws : List W} {ρ2 : En} {r : W} {bk : List W} : kcallP3 q F cbs ρ bs ρ1 u ws ρ2 (r, bk) = .ok (.tmp r, ρ2) := rfl
theorem v_callP3 {q : Bool} {F : Fn} {cbs : CBs} {ρ : En} {bs : List B} {ρ1 : En} {u : Unit} {ws : List W} {ρ2 : En} : kcallP2 q F cbs ρ bs ρ1 u (ws, ρ2) = (F (ws.map fun w => .fz (frz w))).bind (kcallP3 q F cbs ρ bs ρ1 u ws ρ2) := rfl
theorem v_callP2 {q : Bool} {F : Fn} {cbs : CBs} {ρ : En} {bs : List B} {ρ1 : En} {u : Unit} : kcallP1 q F cbs ρ bs ρ1 u = (takes bs ρ1).bind (kcallP2 q F cbs ρ bs ρ1 u) := rfl
theorem v_callP1 {q : Bool} {F : Fn} {cbs : CBs} {ρ : En} {bs : List B} {ρ1 : En} : kcallP0 q F cbs ρ (bs, ρ1) = (chk (shut q bs)).bind (kcallP1 q F cbs ρ bs ρ1) := rfl
theorem v_callP {q : Bool} {F : Fn} {cbs : CBs} {ρ : En} : cCallP q F cbs ρ = (cbs ρ).bind (kcallP0 q F cbs ρ) := rfl
def kcallKV4 (F : Fn) (ix : List Nat) (n : Nat) (cbs : CBs) (ρ : En) (bs : List B) (ρ1 : En) (u2 : Unit) (ws : List W) (r : W) (bk : List W) : (Unit) → Res (B × En) := fun z => match z with
  | u => .ok (.tmp r, ρ1)
def kcallKV3 (F : Fn) (ix : List Nat) (n : Nat) (cbs : CBs) (ρ : En) (bs : List B) (ρ1 : En) (u2 : Unit) (ws : List W) : (W) × (List W) → Res (B × En) := fun z => match z with
  | (r, bk) => (chk (scal r)).bind (kcallKV4 F ix n cbs ρ bs ρ1 u2 ws r bk)
def kcallKV2 (F : Fn) (ix : List Nat) (n : Nat) (cbs : CBs) (ρ : En) (bs : List B) (ρ1 : En) (u2 : Unit) : (List W) → Res (B × En) := fun z => match z with
  | ws => (F (pick ix (ws.map fun w => .fz (frz w)))).bind (kcallKV3 F ix n cbs ρ bs ρ1 u2 ws)
def kcallKV1 (F : Fn) (ix : List Nat) (n : Nat) (cbs : CBs) (ρ : En) (bs : List B) (ρ1 : En) : (Unit) → Res (B × En) := fun z => match z with
  | u2 => (conts bs ρ1).bind (kcallKV2 F ix n cbs ρ bs ρ1 u2)
def kcallKV0 (F : Fn) (ix : List Nat) (n : Nat) (cbs : CBs) (ρ : En) : (List B) × (En) → Res (B × En) := fun z => match z with
  | (bs, ρ1) => (chk (bs.length == n)).bind (kcallKV1 F ix n cbs ρ bs ρ1)
theorem v_callKV5 {F : Fn} {ix : List Nat} {n : Nat} {cbs : CBs} {ρ : En} {bs : List B} {ρ1 : En} {u2 : Unit} {ws : List W} {r : W} {bk : List W} {u : Unit} : kcallKV4 F ix n cbs ρ bs ρ1 u2 ws r bk u = .ok (.tmp r, ρ1) := rfl
theorem v_callKV4 {F : Fn} {ix : List Nat} {n : Nat} {cbs : CBs} {ρ : En} {bs : List B} {ρ1 : En} {u2 : Unit} {ws : List W} {r : W} {bk : List W} : kcallKV3 F ix n cbs ρ bs ρ1 u2 ws (r, bk) = (chk (scal r)).bind (kcallKV4 F ix n cbs ρ bs ρ1 u2 ws r bk) := rfl
theorem v_callKV3 {F : Fn} {ix : List Nat} {n : Nat} {cbs : CBs} {ρ : En} {bs : List B} {ρ1 : En} {u2 : Unit} {ws : List W} : kcallKV2 F ix n cbs ρ bs ρ1 u2 ws = (F (pick ix (ws.map fun w => .fz (frz w)))).bind (kcallKV3 F ix n cbs ρ bs ρ1 u2 ws) := rfl
theorem v_callKV2 {F : Fn} {ix : List Nat} {n : Nat} {cbs : CBs} {ρ : En} {bs : List B} {ρ1 : En} {u2 : Unit} : kcallKV1 F ix n cbs ρ bs ρ1 u2 = (conts bs ρ1).bind (kcallKV2 F ix n cbs ρ bs ρ1 u2) := rfl
theorem v_callKV1 {F : Fn} {ix : List Nat} {n : Nat} {cbs : CBs} {ρ : En} {bs : List B} {ρ1 : En} : kcallKV0 F ix n cbs ρ (bs, ρ1) = (chk (bs.length == n)).bind (kcallKV1 F ix n cbs ρ bs ρ1) := rfl
theorem v_callKV {F : Fn} {ix : List Nat} {n : Nat} {cbs : CBs} {ρ : En} : cCallKV F ix n cbs ρ = (cbs ρ).bind (kcallKV0 F ix n cbs ρ) := rfl
def kcallKP4 (q : Bool) (F : Fn) (ix : List Nat) (n : Nat) (cbs : CBs) (ρ : En) (bs : List B) (ρ1 : En) (u2 : Unit) (u : Unit) (ws : List W) (ρ2 : En) : (W) × (List W) → Res (B × En) := fun z => match z with
  | (r, bk) => .ok (.tmp r, ρ2)
def kcallKP3 (q : Bool) (F : Fn) (ix : List Nat) (n : Nat) (cbs : CBs) (ρ : En) (bs : List B) (ρ1 : En) (u2 : Unit) (u : Unit) : (List W) × (En) → Res (B × En) := fun z => match z with
  | (ws, ρ2) => (F (pick ix (ws.map fun w => .fz (frz w)))).bind (kcallKP4 q F ix n cbs ρ bs ρ1 u2 u ws ρ2)
def kcallKP2 (q : Bool) (F : Fn) (ix : List Nat) (n : Nat) (cbs : CBs) (ρ : En) (bs : List B) (ρ1 : En) (u2 : Unit) : (Unit) → Res (B × En) := fun z => match z with
  | u => (takes bs ρ1).bind (kcallKP3 q F ix n cbs ρ bs ρ1 u2 u)
def kcallKP1 (q : Bool) (F : Fn) (ix : List Nat) (n : Nat) (cbs : CBs) (ρ : En) (bs : List B) (ρ1 : En) : (Unit) → Res (B × En) := fun z => match z with
  | u2 => (chk (shut q bs)).bind (kcallKP2 q F ix n cbs ρ bs ρ1 u2)
def kcallKP0 (q : Bool) (F : Fn) (ix : List Nat) (n : Nat) (cbs : CBs) (ρ : En) : (List B) × (En) → Res (B × En) := fun z => match z with
  | (bs, ρ1) => (chk (bs.length == n)).bind (kcallKP1 q F ix n cbs ρ bs ρ1)
theorem v_callKP5 {q : Bool} {F : Fn} {ix : List Nat} {n : Nat} {cbs : CBs} {ρ : En} {bs : List B} {ρ1 : En} {u2 : Unit} {u : Unit} {ws : List W} {ρ2 : En} {r : W} {bk : List W} : kcallKP4 q F ix n cbs ρ bs ρ1 u2 u ws ρ2 (r, bk) = .ok (.tmp r, ρ2) := rfl
theorem v_callKP4 {q : Bool} {F : Fn} {ix : List Nat} {n : Nat} {cbs : CBs} {ρ : En} {bs : List B} {ρ1 : En} {u2 : Unit} {u : Unit} {ws : List W} {ρ2 : En} : kcallKP3 q F ix n cbs ρ bs ρ1 u2 u (ws, ρ2) = (F (pick ix (ws.map fun w => .fz (frz w)))).bind (kcallKP4 q F ix n cbs ρ bs ρ1 u2 u ws ρ2) := rfl
theorem v_callKP3 {q : Bool} {F : Fn} {ix : List Nat} {n : Nat} {cbs : CBs} {ρ : En} {bs : List B} {ρ1 : En} {u2 : Unit} {u : Unit} : kcallKP2 q F ix n cbs ρ bs ρ1 u2 u = (takes bs ρ1).bind (kcallKP3 q F ix n cbs ρ bs ρ1 u2 u) := rfl
theorem v_callKP2 {q : Bool} {F : Fn} {ix : List Nat} {n : Nat} {cbs : CBs} {ρ : En} {bs : List B} {ρ1 : En} {u2 : Unit} : kcallKP1 q F ix n cbs ρ bs ρ1 u2 = (chk (shut q bs)).bind (kcallKP2 q F ix n cbs ρ bs ρ1 u2) := rfl
theorem v_callKP1 {q : Bool} {F : Fn} {ix : List Nat} {n : Nat} {cbs : CBs} {ρ : En} {bs : List B} {ρ1 : En} : kcallKP0 q F ix n cbs ρ (bs, ρ1) = (chk (bs.length == n)).bind (kcallKP1 q F ix n cbs ρ bs ρ1) := rfl
theorem v_callKP {q : Bool} {F : Fn} {ix : List Nat} {n : Nat} {cbs : CBs} {ρ : En} : cCallKP q F ix n cbs ρ = (cbs ρ).bind (kcallKP0 q F ix n cbs ρ) := rfl
def kcallIO4 (F : Fn) (io : KP) (cbs : CBs) (ρ : En) (bs : List B) (ρ1 : En) (u : Unit) (ws : List W) (ρ2 : En) (r : W) (bk : List W) : (En) → Res (B × En) := fun z => match z with
  | ρ3 => .ok (.tmp r, ρ3)
def kcallIO3 (F : Fn) (io : KP) (cbs : CBs) (ρ : En) (bs : List B) (ρ1 : En) (u : Unit) (ws : List W) (ρ2 : En) : (W) × (List W) → Res (B × En) := fun z => match z with
  | (r, bk) => (putB io 0 bs bk ρ2).bind (kcallIO4 F io cbs ρ bs ρ1 u ws ρ2 r bk)
def kcallIO2 (F : Fn) (io : KP) (cbs : CBs) (ρ : En) (bs : List B) (ρ1 : En) (u : Unit) : (List W) × (En) → Res (B × En) := fun z => match z with
  | (ws, ρ2) => (F ws).bind (kcallIO3 F io cbs ρ bs ρ1 u ws ρ2)
def kcallIO1 (F : Fn) (io : KP) (cbs : CBs) (ρ : En) (bs : List B) (ρ1 : En) : (Unit) → Res (B × En) := fun z => match z with
  | u => (argsIO io 0 bs ρ1).bind (kcallIO2 F io cbs ρ bs ρ1 u)
def kcallIO0 (F : Fn) (io : KP) (cbs : CBs) (ρ : En) : (List B) × (En) → Res (B × En) := fun z => match z with
  | (bs, ρ1) => (chk (bs.all flatB)).bind (kcallIO1 F io cbs ρ bs ρ1)
theorem v_callIO5 {F : Fn} {io : KP} {cbs : CBs} {ρ : En} {bs : List B} {ρ1 : En} {u : Unit} {ws : List W} {ρ2 : En} {r : W} {bk : List W} {ρ3 : En} : kcallIO4 F io cbs ρ bs ρ1 u ws ρ2 r bk ρ3 = .ok (.tmp r, ρ3) := rfl
theorem v_callIO4 {F : Fn} {io : KP} {cbs : CBs} {ρ : En} {bs : List B} {ρ1 : En} {u : Unit} {ws : List W} {ρ2 : En} {r : W} {bk : List W} : kcallIO3 F io cbs ρ bs ρ1 u ws ρ2 (r, bk) = (putB io 0 bs bk ρ2).bind (kcallIO4 F io cbs ρ bs ρ1 u ws ρ2 r bk) := rfl
theorem v_callIO3 {F : Fn} {io : KP} {cbs : CBs} {ρ : En} {bs : List B} {ρ1 : En} {u : Unit} {ws : List W} {ρ2 : En} : kcallIO2 F io cbs ρ bs ρ1 u (ws, ρ2) = (F ws).bind (kcallIO3 F io cbs ρ bs ρ1 u ws ρ2) := rfl
theorem v_callIO2 {F : Fn} {io : KP} {cbs : CBs} {ρ : En} {bs : List B} {ρ1 : En} {u : Unit} : kcallIO1 F io cbs ρ bs ρ1 u = (argsIO io 0 bs ρ1).bind (kcallIO2 F io cbs ρ bs ρ1 u) := rfl
theorem v_callIO1 {F : Fn} {io : KP} {cbs : CBs} {ρ : En} {bs : List B} {ρ1 : En} : kcallIO0 F io cbs ρ (bs, ρ1) = (chk (bs.all flatB)).bind (kcallIO1 F io cbs ρ bs ρ1) := rfl
theorem v_callIO {F : Fn} {io : KP} {cbs : CBs} {ρ : En} : cCallIO F io cbs ρ = (cbs ρ).bind (kcallIO0 F io cbs ρ) := rfl
def kapp6 (q : Bool) (co : CE) (ca : CE) (ρ : En) (b : B) (ρ1 : En) (i : Nat) (p : List Nat) (u : Unit) (a : B) (ρ2 : En) (u2 : Unit) (w : W) (ρ3 : En) : (En) → Res (B × En) := fun z => match z with
  | ρ4 => .ok (.tmp (.fz .non), ρ4)
def kapp5 (q : Bool) (co : CE) (ca : CE) (ρ : En) (b : B) (ρ1 : En) (i : Nat) (p : List Nat) (u : Unit) (a : B) (ρ2 : En) (u2 : Unit) : (W) × (En) → Res (B × En) := fun z => match z with
  | (w, ρ3) => (mutA i p w ρ3).bind (kapp6 q co ca ρ b ρ1 i p u a ρ2 u2 w ρ3)
def kapp4 (q : Bool) (co : CE) (ca : CE) (ρ : En) (b : B) (ρ1 : En) (i : Nat) (p : List Nat) (u : Unit) (a : B) (ρ2 : En) : (Unit) → Res (B × En) := fun z => match z with
  | u2 => (take a ρ2).bind (kapp5 q co ca ρ b ρ1 i p u a ρ2 u2)
def kapp3 (q : Bool) (co : CE) (ca : CE) (ρ : En) (b : B) (ρ1 : En) (i : Nat) (p : List Nat) (u : Unit) : (B) × (En) → Res (B × En) := fun z => match z with
  | (a, ρ2) => (chk (p.isEmpty || isTmp a)).bind (kapp4 q co ca ρ b ρ1 i p u a ρ2)
def kapp2 (q : Bool) (co : CE) (ca : CE) (ρ : En) (b : B) (ρ1 : En) (i : Nat) (p : List Nat) : (Unit) → Res (B × En) := fun z => match z with
  | u => (ca ρ1).bind (kapp3 q co ca ρ b ρ1 i p u)
def kapp1 (q : Bool) (co : CE) (ca : CE) (ρ : En) (b : B) (ρ1 : En) : (Nat) × (List Nat) → Res (B × En) := fun z => match z with
  | (i, p) => (pend q (.bor i p)).bind (kapp2 q co ca ρ b ρ1 i p)
def kapp0 (q : Bool) (co : CE) (ca : CE) (ρ : En) : (B) × (En) → Res (B × En) := fun z => match z with
  | (b, ρ1) => (isPl b ρ1).bind (kapp1 q co ca ρ b ρ1)
theorem v_app7 {q : Bool} {co : CE} {ca : CE} {ρ : En} {b : B} {ρ1 : En} {i : Nat} {p : List Nat} {u : Unit} {a : B} {ρ2 : En} {u2 : Unit} {w : W} {ρ3 : En} {ρ4 : En} : kapp6 q co ca ρ b ρ1 i p u a ρ2 u2 w ρ3 ρ4 = .ok (.tmp (.fz .non), ρ4) := rfl
theorem v_app6 {q : Bool} {co : CE} {ca : CE} {ρ : En} {b : B} {ρ1 : En} {i : Nat} {p : List Nat} {u : Unit} {a : B} {ρ2 : En} {u2 : Unit} {w : W} {ρ3 : En} : kapp5 q co ca ρ b ρ1 i p u a ρ2 u2 (w, ρ3) = (mutA i p w ρ3).bind (kapp6 q co ca ρ b ρ1 i p u a ρ2 u2 w ρ3) := rfl
theorem v_app5 {q : Bool} {co : CE} {ca : CE} {ρ : En} {b : B} {ρ1 : En} {i : Nat} {p : List Nat} {u : Unit} {a : B} {ρ2 : En} {u2 : Unit} : kapp4 q co ca ρ b ρ1 i p u a ρ2 u2 = (take a ρ2).bind (kapp5 q co ca ρ b ρ1 i p u a ρ2 u2) := rfl
theorem v_app4 {q : Bool} {co : CE} {ca : CE} {ρ : En} {b : B} {ρ1 : En} {i : Nat} {p : List Nat} {u : Unit} {a : B} {ρ2 : En} : kapp3 q co ca ρ b ρ1 i p u (a, ρ2) = (chk (p.isEmpty || isTmp a)).bind (kapp4 q co ca ρ b ρ1 i p u a ρ2) := rfl
theorem v_app3 {q : Bool} {co : CE} {ca : CE} {ρ : En} {b : B} {ρ1 : En} {i : Nat} {p : List Nat} {u : Unit} : kapp2 q co ca ρ b ρ1 i p u = (ca ρ1).bind (kapp3 q co ca ρ b ρ1 i p u) := rfl
theorem v_app2 {q : Bool} {co : CE} {ca : CE} {ρ : En} {b : B} {ρ1 : En} {i : Nat} {p : List Nat} : kapp1 q co ca ρ b ρ1 (i, p) = (pend q (.bor i p)).bind (kapp2 q co ca ρ b ρ1 i p) := rfl
theorem v_app1 {q : Bool} {co : CE} {ca : CE} {ρ : En} {b : B} {ρ1 : En} : kapp0 q co ca ρ (b, ρ1) = (isPl b ρ1).bind (kapp1 q co ca ρ b ρ1) := rfl
theorem v_app {q : Bool} {co : CE} {ca : CE} {ρ : En} : cApp q co ca ρ = (co ρ).bind (kapp0 q co ca ρ) := rfl
def ksl5 (sl : W → Option Int → Option Int → Res W) (q : Bool) (ca : CE) (o1 : CO) (o2 : CO) (ρ : En) (a : B) (ρ1 : En) (u : Unit) (lo : Option Int) (ρ2 : En) (hi : Option Int) (ρ3 : En) (x : W) : (W) → Res (B × En) := fun z => match z with
  | w => .ok (.tmp w, ρ3)
def ksl4 (sl : W → Option Int → Option Int → Res W) (q : Bool) (ca : CE) (o1 : CO) (o2 : CO) (ρ : En) (a : B) (ρ1 : En) (u : Unit) (lo : Option Int) (ρ2 : En) (hi : Option Int) (ρ3 : En) : (W) → Res (B × En) := fun z => match z with
  | x => (sl x lo hi).bind (ksl5 sl q ca o1 o2 ρ a ρ1 u lo ρ2 hi ρ3 x)
def ksl3 (sl : W → Option Int → Option Int → Res W) (q : Bool) (ca : CE) (o1 : CO) (o2 : CO) (ρ : En) (a : B) (ρ1 : En) (u : Unit) (lo : Option Int) (ρ2 : En) : (Option Int) × (En) → Res (B × En) := fun z => match z with
  | (hi, ρ3) => (cont a ρ3).bind (ksl4 sl q ca o1 o2 ρ a ρ1 u lo ρ2 hi ρ3)
def ksl2 (sl : W → Option Int → Option Int → Res W) (q : Bool) (ca : CE) (o1 : CO) (o2 : CO) (ρ : En) (a : B) (ρ1 : En) (u : Unit) : (Option Int) × (En) → Res (B × En) := fun z => match z with
  | (lo, ρ2) => (o2 ρ2).bind (ksl3 sl q ca o1 o2 ρ a ρ1 u lo ρ2)
def ksl1 (sl : W → Option Int → Option Int → Res W) (q : Bool) (ca : CE) (o1 : CO) (o2 : CO) (ρ : En) (a : B) (ρ1 : En) : (Unit) → Res (B × En) := fun z => match z with
  | u => (o1 ρ1).bind (ksl2 sl q ca o1 o2 ρ a ρ1 u)
def ksl0 (sl : W → Option Int → Option Int → Res W) (q : Bool) (ca : CE) (o1 : CO) (o2 : CO) (ρ : En) : (B) × (En) → Res (B × En) := fun z => match z with
  | (a, ρ1) => (pend q a).bind (ksl1 sl q ca o1 o2 ρ a ρ1)
theorem v_sl6 {sl : W → Option Int → Option Int → Res W} {q : Bool} {ca : CE} {o1 : CO} {o2 : CO} {ρ : En} {a : B} {ρ1 : En} {u : Unit} {lo : Option Int} {ρ2 : En} {hi : Option Int} {ρ3 : En} {x : W} {w : W} : ksl5 sl q ca o1 o2 ρ a ρ1 u lo ρ2 hi ρ3 x w = .ok (.tmp w, ρ3) := rfl
theorem v_sl5 {sl : W → Option Int → Option Int → Res W} {q : Bool} {ca : CE} {o1 : CO} {o2 : CO} {ρ : En} {a : B} {ρ1 : En} {u : Unit} {lo : Option Int} {ρ2 : En} {hi : Option Int} {ρ3 : En} {x : W} : ksl4 sl q ca o1 o2 ρ a ρ1 u lo ρ2 hi ρ3 x = (sl x lo hi).bind (ksl5 sl q ca o1 o2 ρ a ρ1 u lo ρ2 hi ρ3 x) := rfl
theorem v_sl4 {sl : W → Option Int → Option Int → Res W} {q : Bool} {ca : CE} {o1 : CO} {o2 : CO} {ρ : En} {a : B} {ρ1 : En} {u : Unit} {lo : Option Int} {ρ2 : En} {hi : Option Int} {ρ3 : En} : ksl3 sl q ca o1 o2 ρ a ρ1 u lo ρ2 (hi, ρ3) = (cont a ρ3).bind (ksl4 sl q ca o1 o2 ρ a ρ1 u lo ρ2 hi ρ3) := rfl
theorem v_sl3 {sl : W → Option Int → Option Int → Res W} {q : Bool} {ca : CE} {o1 : CO} {o2 : CO} {ρ : En} {a : B} {ρ1 : En} {u : Unit} {lo : Option Int} {ρ2 : En} : ksl2 sl q ca o1 o2 ρ a ρ1 u (lo, ρ2) = (o2 ρ2).bind (ksl3 sl q ca o1 o2 ρ a ρ1 u lo ρ2) := rfl
theorem v_sl2 {sl : W → Option Int → Option Int → Res W} {q : Bool} {ca : CE} {o1 : CO} {o2 : CO} {ρ : En} {a : B} {ρ1 : En} {u : Unit} : ksl1 sl q ca o1 o2 ρ a ρ1 u = (o1 ρ1).bind (ksl2 sl q ca o1 o2 ρ a ρ1 u) := rfl
theorem v_sl1 {sl : W → Option Int → Option Int → Res W} {q : Bool} {ca : CE} {o1 : CO} {o2 : CO} {ρ : En} {a : B} {ρ1 : En} : ksl0 sl q ca o1 o2 ρ (a, ρ1) = (pend q a).bind (ksl1 sl q ca o1 o2 ρ a ρ1) := rfl
theorem v_sl {sl : W → Option Int → Option Int → Res W} {q : Bool} {ca : CE} {o1 : CO} {o2 : CO} {ρ : En} : cSl sl q ca o1 o2 ρ = (ca ρ).bind (ksl0 sl q ca o1 o2 ρ) := rfl
def koS1 (ce : CE) (ρ : En) (b : B) (ρ1 : En) : (Int) → Res (Option Int × En) := fun z => match z with
  | j => .ok (some j, ρ1)
def koS0 (ce : CE) (ρ : En) : (B) × (En) → Res (Option Int × En) := fun z => match z with
  | (b, ρ1) => (intOf b).bind (koS1 ce ρ b ρ1)
theorem v_oS2 {ce : CE} {ρ : En} {b : B} {ρ1 : En} {j : Int} : koS1 ce ρ b ρ1 j = .ok (some j, ρ1) := rfl
theorem v_oS1 {ce : CE} {ρ : En} {b : B} {ρ1 : En} : koS0 ce ρ (b, ρ1) = (intOf b).bind (koS1 ce ρ b ρ1) := rfl
theorem v_oS {ce : CE} {ρ : En} : oSome ce ρ = (ce ρ).bind (koS0 ce ρ) := rfl
def kiseq2 (ce : CE) (ρ : En) (b : B) (ρ1 : En) (w : W) (ρ2 : En) : (List D) → Res (List D × En) := fun z => match z with
  | ds => .ok (ds, ρ2)
def kiseq1 (ce : CE) (ρ : En) (b : B) (ρ1 : En) : (W) × (En) → Res (List D × En) := fun z => match z with
  | (w, ρ2) => (Res.of (srcV w)).bind (kiseq2 ce ρ b ρ1 w ρ2)
def kiseq0 (ce : CE) (ρ : En) : (B) × (En) → Res (List D × En) := fun z => match z with
  | (b, ρ1) => (take b ρ1).bind (kiseq1 ce ρ b ρ1)
theorem v_iseq3 {ce : CE} {ρ : En} {b : B} {ρ1 : En} {w : W} {ρ2 : En} {ds : List D} : kiseq2 ce ρ b ρ1 w ρ2 ds = .ok (ds, ρ2) := rfl
theorem v_iseq2 {ce : CE} {ρ : En} {b : B} {ρ1 : En} {w : W} {ρ2 : En} : kiseq1 ce ρ b ρ1 (w, ρ2) = (Res.of (srcV w)).bind (kiseq2 ce ρ b ρ1 w ρ2) := rfl
theorem v_iseq1 {ce : CE} {ρ : En} {b : B} {ρ1 : En} : kiseq0 ce ρ (b, ρ1) = (take b ρ1).bind (kiseq1 ce ρ b ρ1) := rfl
theorem v_iseq {ce : CE} {ρ : En} : iSeq ce ρ = (ce ρ).bind (kiseq0 ce ρ) := rfl
def kienum2 (ce : CE) (ρ : En) (b : B) (ρ1 : En) (w : W) (ρ2 : En) : (List D) → Res (List D × En) := fun z => match z with
  | ds => .ok (enumD 0 ds, ρ2)
def kienum1 (ce : CE) (ρ : En) (b : B) (ρ1 : En) : (W) × (En) → Res (List D × En) := fun z => match z with
  | (w, ρ2) => (Res.of (srcV w)).bind (kienum2 ce ρ b ρ1 w ρ2)
def kienum0 (ce : CE) (ρ : En) : (B) × (En) → Res (List D × En) := fun z => match z with
  | (b, ρ1) => (take b ρ1).bind (kienum1 ce ρ b ρ1)
theorem v_ienum3 {ce : CE} {ρ : En} {b : B} {ρ1 : En} {w : W} {ρ2 : En} {ds : List D} : kienum2 ce ρ b ρ1 w ρ2 ds = .ok (enumD 0 ds, ρ2) := rfl
theorem v_ienum2 {ce : CE} {ρ : En} {b : B} {ρ1 : En} {w : W} {ρ2 : En} : kienum1 ce ρ b ρ1 (w, ρ2) = (Res.of (srcV w)).bind (kienum2 ce ρ b ρ1 w ρ2) := rfl
theorem v_ienum1 {ce : CE} {ρ : En} {b : B} {ρ1 : En} : kienum0 ce ρ (b, ρ1) = (take b ρ1).bind (kienum1 ce ρ b ρ1) := rfl
theorem v_ienum {ce : CE} {ρ : En} : iEnumM ce ρ = (ce ρ).bind (kienum0 ce ρ) := rfl
def kirg2 (ce : CE) (ρ : En) (b : B) (ρ1 : En) (j : Int) : (Unit) → Res (List D × En) := fun z => match z with
  | u => .ok (rangeD 0 j.toNat, ρ1)
def kirg1 (ce : CE) (ρ : En) (b : B) (ρ1 : En) : (Int) → Res (List D × En) := fun z => match z with
  | j => (chk (decide (-(2 ^ 62) ≤ j ∧ j < 2 ^ 62))).bind (kirg2 ce ρ b ρ1 j)
def kirg0 (ce : CE) (ρ : En) : (B) × (En) → Res (List D × En) := fun z => match z with
  | (b, ρ1) => (intOf b).bind (kirg1 ce ρ b ρ1)
theorem v_irg3 {ce : CE} {ρ : En} {b : B} {ρ1 : En} {j : Int} {u : Unit} : kirg2 ce ρ b ρ1 j u = .ok (rangeD 0 j.toNat, ρ1) := rfl
theorem v_irg2 {ce : CE} {ρ : En} {b : B} {ρ1 : En} {j : Int} : kirg1 ce ρ b ρ1 j = (chk (decide (-(2 ^ 62) ≤ j ∧ j < 2 ^ 62))).bind (kirg2 ce ρ b ρ1 j) := rfl
theorem v_irg1 {ce : CE} {ρ : En} {b : B} {ρ1 : En} : kirg0 ce ρ (b, ρ1) = (intOf b).bind (kirg1 ce ρ b ρ1) := rfl
theorem v_irg {ce : CE} {ρ : En} : iRange1 ce ρ = (ce ρ).bind (kirg0 ce ρ) := rfl
def krgTup2 (ce : CE) (ρ : En) (b : B) (ρ1 : En) (j : Int) : (Unit) → Res (B × En) := fun z => match z with
  | u => .ok (.tmp (.fz (.tup (rangeD 0 (j - 0).toNat))), ρ1)
def krgTup1 (ce : CE) (ρ : En) (b : B) (ρ1 : En) : (Int) → Res (B × En) := fun z => match z with
  | j => (chk (decide (RgOk 0 j))).bind (krgTup2 ce ρ b ρ1 j)
def krgTup0 (ce : CE) (ρ : En) : (B) × (En) → Res (B × En) := fun z => match z with
  | (b, ρ1) => (intOf b).bind (krgTup1 ce ρ b ρ1)
theorem v_rgTup3 {ce : CE} {ρ : En} {b : B} {ρ1 : En} {j : Int} {u : Unit} : krgTup2 ce ρ b ρ1 j u = .ok (.tmp (.fz (.tup (rangeD 0 (j - 0).toNat))), ρ1) := rfl
theorem v_rgTup2 {ce : CE} {ρ : En} {b : B} {ρ1 : En} {j : Int} : krgTup1 ce ρ b ρ1 j = (chk (decide (RgOk 0 j))).bind (krgTup2 ce ρ b ρ1 j) := rfl
theorem v_rgTup1 {ce : CE} {ρ : En} {b : B} {ρ1 : En} : krgTup0 ce ρ (b, ρ1) = (intOf b).bind (krgTup1 ce ρ b ρ1) := rfl
theorem v_rgTup {ce : CE} {ρ : En} : cRgTup ce ρ = (ce ρ).bind (krgTup0 ce ρ) := rfl
def kargsc1 (io : KP) (n : Nat) (b : B) (bs : List B) (ρ : En) (w : W) (ρ1 : En) : (List W) × (En) → Res (List W × En) := fun z => match z with
  | (ws, ρ2) => .ok (w :: ws, ρ2)
def kargsc0 (io : KP) (n : Nat) (b : B) (bs : List B) (ρ : En) : (W) × (En) → Res (List W × En) := fun z => match z with
  | (w, ρ1) => (argsIO io (n + 1) bs ρ1).bind (kargsc1 io n b bs ρ w ρ1)
theorem v_argsc2 {io : KP} {n : Nat} {b : B} {bs : List B} {ρ : En} {w : W} {ρ1 : En} {ws : List W} {ρ2 : En} : kargsc1 io n b bs ρ w ρ1 (ws, ρ2) = .ok (w :: ws, ρ2) := rfl
theorem v_argsc1 {io : KP} {n : Nat} {b : B} {bs : List B} {ρ : En} {w : W} {ρ1 : En} : kargsc0 io n b bs ρ (w, ρ1) = (argsIO io (n + 1) bs ρ1).bind (kargsc1 io n b bs ρ w ρ1) := rfl
theorem v_argsc {io : KP} {n : Nat} {b : B} {bs : List B} {ρ : En} : argsIO io n (b :: bs) ρ = ((if io n = true then move b ρ else fzT b ρ)).bind (kargsc0 io n b bs ρ) := rfl
def kputc0 (io : KP) (n : Nat) (b : B) (bs : List B) (w : W) (ws : List W) (ρ : En) : (En) → Res (En) := fun z => match z with
  | ρ1 => putB io (n + 1) bs ws ρ1
theorem v_putc1 {io : KP} {n : Nat} {b : B} {bs : List B} {w : W} {ws : List W} {ρ : En} {ρ1 : En} : kputc0 io n b bs w ws ρ ρ1 = putB io (n + 1) bs ws ρ1 := rfl
theorem v_putc {io : KP} {n : Nat} {b : B} {bs : List B} {w : W} {ws : List W} {ρ : En} : putB io n (b :: bs) (w :: ws) ρ = ((if io n = true then put1 b w ρ else Res.ok ρ)).bind (kputc0 io n b bs w ws ρ) := rfl
def ktakesc1 (b : B) (bs : List B) (ρ : En) (w : W) (ρ1 : En) : (List W) × (En) → Res (List W × En) := fun z => match z with
  | (ws, ρ2) => .ok (w :: ws, ρ2)
def ktakesc0 (b : B) (bs : List B) (ρ : En) : (W) × (En) → Res (List W × En) := fun z => match z with
  | (w, ρ1) => (takes bs ρ1).bind (ktakesc1 b bs ρ w ρ1)
theorem v_takesc2 {b : B} {bs : List B} {ρ : En} {w : W} {ρ1 : En} {ws : List W} {ρ2 : En} : ktakesc1 b bs ρ w ρ1 (ws, ρ2) = .ok (w :: ws, ρ2) := rfl
theorem v_takesc1 {b : B} {bs : List B} {ρ : En} {w : W} {ρ1 : En} : ktakesc0 b bs ρ (w, ρ1) = (takes bs ρ1).bind (ktakesc1 b bs ρ w ρ1) := rfl
theorem v_takesc {b : B} {bs : List B} {ρ : En} : takes (b :: bs) ρ = (take b ρ).bind (ktakesc0 b bs ρ) := rfl
def kcontsc1 (b : B) (bs : List B) (ρ : En) (w : W) : (List W) → Res (List W) := fun z => match z with
  | ws => .ok (w :: ws)
def kcontsc0 (b : B) (bs : List B) (ρ : En) : (W) → Res (List W) := fun z => match z with
  | w => (conts bs ρ).bind (kcontsc1 b bs ρ w)
theorem v_contsc2 {b : B} {bs : List B} {ρ : En} {w : W} {ws : List W} : kcontsc1 b bs ρ w ws = .ok (w :: ws) := rfl
theorem v_contsc1 {b : B} {bs : List B} {ρ : En} {w : W} : kcontsc0 b bs ρ w = (conts bs ρ).bind (kcontsc1 b bs ρ w) := rfl
theorem v_contsc {b : B} {bs : List B} {ρ : En} : conts (b :: bs) ρ = (cont b ρ).bind (kcontsc0 b bs ρ) := rfl
def kbacksI1 (io : KP) (n : Nat) (w : W) (ws : List W) (x : W) (ρ : En) (y : W) : (List W) → Res (List W) := fun z => match z with
  | rr => .ok (y :: rr)
def kbacksI0 (io : KP) (n : Nat) (w : W) (ws : List W) (x : W) (ρ : En) : (W) → Res (List W) := fun z => match z with
  | y => (backs io (n + 1) ws ρ).bind (kbacksI1 io n w ws x ρ y)
theorem v_backsI2 {io : KP} {n : Nat} {w : W} {ws : List W} {x : W} {ρ : En} {y : W} {rr : List W} : kbacksI1 io n w ws x ρ y rr = .ok (y :: rr) := rfl
theorem v_backsI1 {io : KP} {n : Nat} {w : W} {ws : List W} {x : W} {ρ : En} {y : W} : kbacksI0 io n w ws x ρ y = (backs io (n + 1) ws ρ).bind (kbacksI1 io n w ws x ρ y) := rfl
theorem v_backsI {io : KP} {n : Nat} {w : W} {ws : List W} {x : W} {ρ : En} : backs io n (w :: ws) (some x :: ρ) = (backs1 io n w x).bind (kbacksI0 io n w ws x ρ) := rfl
section
variable {ρ : En} {i : Nat} {d : D} {io : KP} {w : W} {ws : List W} {ds : List D} {gs : CGs} {α β : Type}
theorem v_ok (a : α) (k : α → Res β) : (Res.ok a).bind k = k a := rfl
theorem v_c : cC d ρ = .ok (.tmp (.fz d), ρ) := rfl
theorem v_nil : cNil ρ = .ok ([], ρ) := rfl
theorem v_next : cNext ρ = .ok (.nx, ρ) := rfl
theorem v_yes : cYes ρ = .ok (true, ρ) := rfl
theorem v_oN : oNone ρ = .ok (none, ρ) := rfl
theorem v_gtup : gTupG gs (.fz (.tup ds)) ρ = gs ds ρ := rfl
theorem v_var : cVar i ρ = match ρ[i]? with
  | some (some (.fz d)) => .ok (.tmp (.fz d), ρ)
  | some (some (.lst _)) => .ok (.bor i [], ρ)
  | _ => .err := rfl
theorem v_lc0 {vs : List Nat} {g : CG} {ct : CT} {ce : CE} : lcL vs g ct ce [] ρ = .ok ([], ρ) := rfl
theorem v_for0 {g : CG} {c1 : CS} : forL g c1 [] ρ = .ok (.nx, ρ) := rfl
theorem v_args0 {n : Nat} : argsIO io n [] ρ = .ok ([], ρ) := rfl
theorem v_put0 {n : Nat} {ws : List W} : putB io n [] ws ρ = .ok ρ := rfl
theorem v_takes0 : takes [] ρ = .ok ([], ρ) := rfl
theorem v_conts0 : conts [] ρ = .ok [] := rfl
theorem v_backs0 {n : Nat} : backs io n [] ρ = .ok [] := rfl
theorem v_backsN {n : Nat} (h : io n = false) {d : D} {o : Option W} : backs io n (.fz d :: ws) (o :: ρ) = (backs io (n + 1) ws ρ).bind fun r => .ok (.fz d :: r) := by
  show Res.bind (if io n = true then Res.of o else .ok (.fz d)) _ = _
  rw [if_neg (by rw [h]; decide)]; rfl
/- the small parts -/
theorem w_int {h : Int → Int → Res D} {i j : Int} : fI h (.fz (.int i)) (.fz (.int j)) = (h i j).bind fun d => .ok (.fz d) := rfl
theorem w_add {i j : Int} : fAdd (.fz (.int i)) (.fz (.int j)) = .ok (.fz (.int (i + j))) := rfl
theorem w_sub {i j : Int} : fSub (.fz (.int i)) (.fz (.int j)) = .ok (.fz (.int (i - j))) := rfl
theorem w_neg {i : Int} : fNeg (.fz (.int i)) = .ok (.fz (.int (-i))) := rfl
theorem w_mulL {i j : Int} (h : -(2 ^ 64) < i ∧ i < 2 ^ 64) : fMul (.fz (.int i)) (.fz (.int j)) = .ok (.fz (.int (i * j))) := by
  show Res.bind (if CMul i j then Res.ok (D.int (i * j)) else if CMulW i j then .ok (.int (i * j)) else .err) _ = _
  rw [if_pos (show CMul i j from .inl h)]; rfl
theorem w_mulR {i j : Int} (h : -(2 ^ 64) < j ∧ j < 2 ^ 64) : fMul (.fz (.int i)) (.fz (.int j)) = .ok (.fz (.int (i * j))) := by
  show Res.bind (if CMul i j then Res.ok (D.int (i * j)) else if CMulW i j then .ok (.int (i * j)) else .err) _ = _
  rw [if_pos (show CMul i j from .inr h)]; rfl
theorem log_small {n : Nat} (h : n < 2 ^ 9000) : n.log2 < 9000 := by
  by_cases h0 : n = 0
  · subst h0; decide
  · exact (Nat.log2_lt h0).mpr h
theorem big64 : (2 : Nat) ^ 64 ≤ 2 ^ 9000 := Nat.pow_le_pow_right (by decide) (by decide)
theorem w_div {i j : Int} (h0 : 0 < j) (h : j < 2 ^ 64) : fDiv (.fz (.int i)) (.fz (.int j)) = .ok (.fz (.int (i / j))) := by
  show Res.bind (if CDivW i j then Res.ok (D.int (i / j)) else .err) _ = _
  rw [if_pos (show CDivW i j from ⟨h0, log_small (Nat.lt_of_lt_of_le (by omega) big64)⟩)]; rfl
theorem w_divB {i j : Int} (h0 : 0 < j) (h : j.natAbs < 2 ^ 9000) : fDiv (.fz (.int i)) (.fz (.int j)) = .ok (.fz (.int (i / j))) := by
  show Res.bind (if CDivW i j then Res.ok (D.int (i / j)) else .err) _ = _
  rw [if_pos (show CDivW i j from ⟨h0, log_small h⟩)]; rfl
theorem w_mod {i j : Int} (h0 : 0 < j) : fMod (.fz (.int i)) (.fz (.int j)) = .ok (.fz (.int (i % j))) := by
  show Res.bind (if 0 < j then Res.ok (D.int (i % j)) else .err) _ = _
  rw [if_pos h0]; rfl
theorem w_lt {i j : Int} : fLt (.fz (.int i)) (.fz (.int j)) = .ok (.fz (.bl (decide (i < j)))) := rfl
theorem w_le {i j : Int} : fLe (.fz (.int i)) (.fz (.int j)) = .ok (.fz (.bl (decide (i ≤ j)))) := rfl
theorem w_gt {i j : Int} : fGt (.fz (.int i)) (.fz (.int j)) = .ok (.fz (.bl (decide (j < i)))) := rfl
theorem w_ge {i j : Int} : fGe (.fz (.int i)) (.fz (.int j)) = .ok (.fz (.bl (decide (j ≤ i)))) := rfl
theorem w_ix {x : W} {k : Int} {ds : List D} {j : Nat} {d : D} (hs : seqV x = some ds) (hk : ixN ds.length k = some j) (hd : ds[j]? = some d) : fIdx x (.fz (.int k)) = .ok (.fz d) := by
  have ha : atI ds k = some d := by unfold atI; rw [hk]; exact hd
  unfold fIdx
  cases x with
  | lst ws => dsimp only; rw [hs]; dsimp only; rw [ha]
  | fz e => cases e with
    | lst a => dsimp only; rw [hs]; dsimp only; rw [ha]
    | tup a => dsimp only; rw [hs]; dsimp only; rw [ha]
    | scr a => dsimp only; rw [hs]; dsimp only; rw [ha]
    | _ => cases hs
theorem w_intI {i : Int} : fInt [.fz (.int i)] = .ok (.fz (.int i)) := rfl
theorem w_intB {b : Bool} : fInt [.fz (.bl b)] = .ok (.fz (.int (if b then 1 else 0))) := rfl
theorem w_abs {i : Int} : fAbs [.fz (.int i)] = .ok (.fz (.int (if i < 0 then -i else i))) := rfl
theorem w_max {i j : Int} : fMax2 [.fz (.int i), .fz (.int j)] = .ok (.fz (.int (if j > i then j else i))) := rfl
theorem w_min {i j : Int} : fMin2 [.fz (.int i), .fz (.int j)] = .ok (.fz (.int (if j < i then j else i))) := rfl
theorem w_ix0 {a b c : D} : fIdx (.lst [.fz a, .fz b, .fz c]) (.fz (.int 0)) = .ok (.fz a) := rfl
theorem w_ix1 {a b c : D} : fIdx (.lst [.fz a, .fz b, .fz c]) (.fz (.int 1)) = .ok (.fz b) := rfl
theorem w_ix2 {a b c : D} : fIdx (.lst [.fz a, .fz b, .fz c]) (.fz (.int 2)) = .ok (.fz c) := rfl
theorem w_i0 : ixN 3 0 = some 0 := rfl
theorem w_i1 : ixN 3 1 = some 1 := rfl
theorem w_i2 : ixN 3 2 = some 2 := rfl
theorem w_st0 {a b c w : W} : (match ixN [a, b, c].length 0 with | some j => some ([a, b, c].set j w) | none => none) = some [w, b, c] := rfl
theorem w_st2 {a b c w : W} : (match ixN [a, b, c].length 2 with | some j => some ([a, b, c].set j w) | none => none) = some [a, b, w] := rfl
end
end Mi
/-! printed by gen.py -/
namespace Gn
open Mi PySem PySem.Spec PyProof.Rows L2
def top (i : Nat) : Stmt := PySem.Challenge.pw_boundedlevels_k45_held_additions.main.body.getD i (.Pass ⟨0, 0, 0, 0⟩)
abbrev FnP (K : PySem.W.Frag) (x : Str) (st : Stmt) (f : Addr) (fd : FuncData) : Prop := FunD K x x (defArgs st) (defBody st) (defScope st) [] [] f fd
abbrev N_law_box : List Str := ["_law_script", "_law_k", "_law_cell"]
theorem sc_law_box : FnScope N_law_box ["_law_script", "_law_k"] (defScope (top 6)) := ⟨rfl, rfl, rfl, by decide +kernel, rfl, by decide +kernel, by decide +kernel⟩
def m_law_box : CS := (cSeq
  (cAsg (gSet 2) (cIf (cTest (cBin fLt true (cVar 1) (cCallB fLen (cCons true (cVar 0) cNil)))) (cBin fIdx true (cVar 0) (cVar 1)) (cC (.int 0))))
  (cRet (cLst true (cCons true (cBin fMul true (cCallB fAbs (cCons true (cVar 2) cNil)) (cCallB fInt (cCons true (cBin fGe true (cCallB fAbs (cCons true (cVar 2) cNil)) (cBin fPow true (cC (.int 10)) (cC (.int 18)))) cNil))) (cCons true (cBin fAdd true (cBin fAdd true (cBin fMod true (cCallB fInt (cCons true (cVar 2) cNil)) (cC (.int 2305843009213693951))) (cBin fMul true (cC (.int 39373)) (cVar 1))) (cC (.int 62345))) (cCons true (cC (.int 0)) cNil))))))
def F_law_box : Fn := runDef 2 3 (ioOf []) m_law_box
theorem b_law_box {P : Program} {w : World} {K : PySem.W.Frag} {mg : Str → Option Value} {base : Heap} {cl : Nat → Addr} (B : Blt mg) {f : Addr} {cdv : Value} {A : Around} {outer : List Env} {s : Shared} {H : Hp} {E : XK} (hr : Room 0 (A.deeper (envOfC "_law_box" (defScope (top 6)) s.heap.objs.size f cdv)))  : SSs (BX P w K mg base N_law_box "_law_box" (defScope (top 6)) f cdv A outer s H E) cl (ioOf []) (defBody (top 6)) m_law_box :=
  (sss_cons
  (ss_asg (q := true) (se_if (qc := true) (qa := true) (qb := true) (tLt' (qa := true) (qb := true) (dv 1) (dLen (qb := true) rfl B.len (sb_cons (qa := true) (qb := true) (dv 0) sb_nil))) (dIx (qa := true) (qb := true) (dv 0) (dv 1)) se_int) (sg_name (i := 2) sc_law_box.nd rfl (by first | exact .inl rfl | exact .inr rfl) rfl))
  (sss_one (ss_ret (q := true) (se_lst (qb := true) (qd := true) (sb_cons (qa := true) (qb := true) (dMul (qa := true) (qb := true) (dAbs (qb := true) rfl B.abs (sb_cons (qa := true) (qb := true) (dv 2) sb_nil)) (dInt (qb := true) rfl B.int (sb_cons (qa := true) (qb := true) (dGe (qa := true) (qb := true) (dAbs (qb := true) rfl B.abs (sb_cons (qa := true) (qb := true) (dv 2) sb_nil)) (dPow (qa := true) (qb := true) se_int se_int)) sb_nil))) (sb_cons (qa := true) (qb := true) (dAdd (qa := true) (qb := true) (dAdd (qa := true) (qb := true) (dMod (qa := true) (qb := true) (dInt (qb := true) rfl B.int (sb_cons (qa := true) (qb := true) (dv 2) sb_nil)) se_int) (dMul (qa := true) (qb := true) se_int (dv 1))) se_int) (sb_cons (qa := true) (qb := true) se_int sb_nil)))))))
theorem o_law_box {P : Program} {w : World} {K : PySem.W.Frag} {mg : Str → Option Value} {base : Heap} {cl : Nat → Addr} (B : Blt mg) {f : Addr} {fd : FuncData} (FD : FnP K "_law_box" (top 6) f fd)  : FnOk P w K mg base CX0 1 f fd ["_law_script", "_law_k"] (spM ⟨K, cl⟩ F_law_box) :=
  fn_def (k := 0) FD sc_law_box (ioOf_out (by decide)) (fun cdv A outer s H E hr => b_law_box B hr )
theorem d_law_box {P : Program} {w : World} {K : PySem.W.Frag} {mg : Str → Option Value} {base : Heap} {cl : Nat → Addr} (B : Blt mg) {f : Addr} {fd : FuncData} (FD : FnP K "_law_box" (top 6) f fd) (hm : mg "_law_box" = some (.ref f))  : Dn P w K mg base cl "_law_box" 1 F_law_box :=
  ⟨f, fd, ["_law_script", "_law_k"], o_law_box B FD , hm, FD.kp, FD.bindsN fun _ _ _ _ _ _ us hl => match us, hl with | [_, _], _ => rfl⟩
abbrev N_law_same : List Str := ["_law_got", "_law_due", "_law_mine", "_law_its"]
theorem sc_law_same : FnScope N_law_same ["_law_got", "_law_due"] (defScope (top 10)) := ⟨rfl, rfl, rfl, by decide +kernel, rfl, by decide +kernel, by decide +kernel⟩
def m_law_same (Fme : Fn) : CS := (cSeq
  (cIfS (cTest (cUn (fIsi ["list", "tuple"]) (cVar 1))) (cSeq
  (cIfS (cTest (cBin fNe true (cUn (fIsi ["list"]) (cVar 0)) (cUn (fIsi ["list"]) (cVar 1)))) (cRet (cC (.bl false))) cNext)
  (cSeq
  (cIfS (cTest (cBin fNe true (cUn (fIsi ["tuple"]) (cVar 0)) (cUn (fIsi ["tuple"]) (cVar 1)))) (cRet (cC (.bl false))) cNext)
  (cRet (cAnd (cBin fEq true (cCallB fLen (cCons true (cVar 0) cNil)) (cCallB fLen (cCons true (cVar 1) cNil))) (cCallB fAll (cCons true (cLc [2, 3] (iZipM (cCons true (cVar 0) (cCons true (cVar 1) cNil))) (gTupG (gsCons (gSet 2) (gsCons (gSet 3) gsNil))) cYes (cCallV Fme (cCons true (cVar 2) (cCons true (cVar 3) cNil)))) cNil)))))) cNext)
  (cSeq
  (cIfS (cOrT (cTest (cBin fIsN true (cVar 1) (cC .non))) (cTest (cUn (fIsi ["bool", "str"]) (cVar 1)))) (cRet (cAnd (cBin fEq true (cVar 0) (cVar 1)) (cAnd (cBin fEq true (cUn (fIsi ["bool"]) (cVar 0)) (cUn (fIsi ["bool"]) (cVar 1))) (cBin fEq true (cBin fIsN true (cVar 0) (cC .non)) (cBin fIsN true (cVar 1) (cC .non)))))) cNext)
  (cRet (cAnd (cUn (fIsi ["int"]) (cVar 0)) (cAnd (cNot (cUn (fIsi ["bool"]) (cVar 0))) (cBin fEq true (cVar 0) (cVar 1)))))))
def F_law_same : Nat → Fn
  | 0 => errF
  | n + 1 => runDef 2 4 (ioOf []) (m_law_same (F_law_same n))
theorem b_law_same {P : Program} {w : World} {K : PySem.W.Frag} {mg : Str → Option Value} {base : Heap} {cl : Nat → Addr} (B : Blt mg) {f : Addr} {cdv : Value} {A : Around} {outer : List Env} {s : Shared} {H : Hp} {E : XK} {n : Nat} {Fme : Fn} (hr : Room (n + 1) (A.deeper (envOfC "_law_same" (defScope (top 10)) s.heap.objs.size f cdv))) (d_me : Dn P w K mg base cl "_law_same" (n + 1) Fme)  : SSs (BX P w K mg base N_law_same "_law_same" (defScope (top 10)) f cdv A outer s H E) cl (ioOf []) (defBody (top 10)) (m_law_same Fme) :=
  (sss_cons
  (ss_if (q := true) (st_val (qa := true) (se_isi2 (qa := true) rfl B.isinstance (tyList rfl B.list) (tyTuple rfl B.tuple) (by decide) (by decide) (dv 1))) (sss_cons
  (ss_if (q := true) (tNe' (qa := true) (qb := true) hr.units (se_isi1 (qa := true) rfl B.isinstance (tyList rfl B.list) (by decide) (dv 0)) (se_isi1 (qa := true) rfl B.isinstance (tyList rfl B.list) (by decide) (dv 1))) (sss_one (ss_ret (q := true) se_bl)) sss_nil)
  (sss_cons
  (ss_if (q := true) (tNe' (qa := true) (qb := true) hr.units (se_isi1 (qa := true) rfl B.isinstance (tyTuple rfl B.tuple) (by decide) (dv 0)) (se_isi1 (qa := true) rfl B.isinstance (tyTuple rfl B.tuple) (by decide) (dv 1))) (sss_one (ss_ret (q := true) se_bl)) sss_nil)
  (sss_one (ss_ret (q := false) (se_and (qa := true) (qb := false) (dEq (qa := true) (qb := true) hr.units (dLen (qb := true) rfl B.len (sb_cons (qa := true) (qb := true) (dv 0) sb_nil)) (dLen (qb := true) rfl B.len (sb_cons (qa := true) (qb := true) (dv 1) sb_nil))) (se_one (qa := false) (dAll (qb := false) rfl rfl B.all (sb_cons (qa := false) (qb := true) (se_lc (own := [("_law_mine", 2), ("_law_its", 3)]) (qt := true) (qe := true) rfl sc_law_same.nd (si_zip (qb := true) rfl B.zip (sb_cons (qa := true) (qb := true) (dv 0) (sb_cons (qa := true) (qb := true) (dv 1) sb_nil))) (blkOk_by (by kernel_rfl)) (fun s H A l fp => (sg_tup rfl (sgs_cons (sg_name (i := 2) sc_law_same.nd rfl (by first | exact .inl rfl | exact .inr rfl) rfl) (sgs_cons (sg_name (i := 3) sc_law_same.nd rfl (by first | exact .inl rfl | exact .inr rfl) rfl) sgs_nil)) (gsCons_len (gsCons_len gsNil_len)))) (fun s H A l fp => sts_nil) (fun s H A l fp => (se_callV (qb := true) (d_me.fm hr (by omega)).blk rfl (sb_cons (qa := true) (qb := true) (dv 2) (sb_cons (qa := true) (qb := true) (dv 3) sb_nil))))) sb_nil)))))))) sss_nil)
  (sss_cons
  (ss_if (q := true) (SW.st (qa := true) (sw_or (qa := true) (qb := true) (tIs' (qa := true) (qb := true) (dv 1) se_non) (sw_or1 (qa := true) (st_val (qa := true) (se_isi2 (qa := true) rfl B.isinstance (tyBool rfl B.bool) (tyStr rfl B.str) (by decide) (by decide) (dv 1)))))) (sss_one (ss_ret (q := true) (se_and (qa := true) (qb := true) (dEq (qa := true) (qb := true) hr.units (dv 0) (dv 1)) (se_and (qa := true) (qb := true) (dEq (qa := true) (qb := true) hr.units (se_isi1 (qa := true) rfl B.isinstance (tyBool rfl B.bool) (by decide) (dv 0)) (se_isi1 (qa := true) rfl B.isinstance (tyBool rfl B.bool) (by decide) (dv 1))) (se_one (qa := true) (dEq (qa := true) (qb := true) hr.units (dIs (qa := true) (qb := true) (dv 0) se_non) (dIs (qa := true) (qb := true) (dv 1) se_non))))))) sss_nil)
  (sss_one (ss_ret (q := true) (se_and (qa := true) (qb := true) (se_isi1 (qa := true) rfl B.isinstance (tyInt rfl B.int) (by decide) (dv 0)) (se_and (qa := true) (qb := true) (se_not (qa := true) (se_isi1 (qa := true) rfl B.isinstance (tyBool rfl B.bool) (by decide) (dv 0))) (se_one (qa := true) (dEq (qa := true) (qb := true) hr.units (dv 0) (dv 1)))))))))
theorem d_law_same {P : Program} {w : World} {K : PySem.W.Frag} {mg : Str → Option Value} {base : Heap} {cl : Nat → Addr} (B : Blt mg) {f : Addr} {fd : FuncData} (FD : FnP K "_law_same" (top 10) f fd) (hm : mg "_law_same" = some (.ref f))  : ∀ n : Nat, Dn P w K mg base cl "_law_same" (n + 1) (F_law_same n)
  | 0 => ⟨f, fd, ["_law_got", "_law_due"], fn_zero (k := 0 + 0) FD sc_law_same, hm, FD.kp, FD.bindsN fun _ _ _ _ _ _ us hl => match us, hl with | [_, _], _ => rfl⟩
  | n + 1 => ⟨f, fd, ["_law_got", "_law_due"], (Nat.succ_add n 1).symm ▸ fn_def (k := n + 1) FD sc_law_same (ioOf_out (by decide)) (fun cdv A outer s H E hr => b_law_same B hr (d_law_same B FD hm  n) ), hm, FD.kp, FD.bindsN fun _ _ _ _ _ _ us hl => match us, hl with | [_, _], _ => rfl⟩
abbrev Ngiven_in : List Str := ["numbers", "number"]
theorem scgiven_in : FnScope Ngiven_in ["numbers"] (defScope (top 1)) := ⟨rfl, rfl, rfl, by decide +kernel, rfl, by decide +kernel, by decide +kernel⟩
def mgiven_in : CS := (cRet (cCallB fSum (cCons true (cLc [1] (iSeq (cVar 0)) (gSet 1) (cTest (cBin fGt true (cVar 1) (cC (.int 0)))) (cVar 1)) cNil)))
def Fgiven_in : Fn := runDef 1 2 (ioOf []) mgiven_in
theorem bgiven_in {P : Program} {w : World} {K : PySem.W.Frag} {mg : Str → Option Value} {base : Heap} {cl : Nat → Addr} (B : Blt mg) {f : Addr} {cdv : Value} {A : Around} {outer : List Env} {s : Shared} {H : Hp} {E : XK} (hr : Room 0 (A.deeper (envOfC "given_in" (defScope (top 1)) s.heap.objs.size f cdv)))  : SSs (BX P w K mg base Ngiven_in "given_in" (defScope (top 1)) f cdv A outer s H E) cl (ioOf []) (defBody (top 1)) mgiven_in :=
  (sss_one (ss_ret (q := false) (dSum (qb := false) rfl rfl B.sum (sb_cons (qa := false) (qb := true) (se_lc (own := [("number", 1)]) (qt := true) (qe := true) rfl scgiven_in.nd (si_seq (qa := true) (dv 0)) (blkOk_by (by kernel_rfl)) (fun s H A l fp => (sg_name (i := 1) scgiven_in.nd rfl (by first | exact .inl rfl | exact .inr rfl) rfl)) (fun s H A l fp => (sts_one (qt := true) (tGt' (qa := true) (qb := true) (dv 1) se_int))) (fun s H A l fp => (dv 1))) sb_nil))))
theorem ogiven_in {P : Program} {w : World} {K : PySem.W.Frag} {mg : Str → Option Value} {base : Heap} {cl : Nat → Addr} (B : Blt mg) {f : Addr} {fd : FuncData} (FD : FnP K "given_in" (top 1) f fd)  : FnOk P w K mg base CX0 1 f fd ["numbers"] (spM ⟨K, cl⟩ Fgiven_in) :=
  fn_def (k := 0) FD scgiven_in (ioOf_out (by decide)) (fun cdv A outer s H E hr => bgiven_in B hr )
theorem dgiven_in {P : Program} {w : World} {K : PySem.W.Frag} {mg : Str → Option Value} {base : Heap} {cl : Nat → Addr} (B : Blt mg) {f : Addr} {fd : FuncData} (FD : FnP K "given_in" (top 1) f fd) (hm : mg "given_in" = some (.ref f))  : Dn P w K mg base cl "given_in" 1 Fgiven_in :=
  ⟨f, fd, ["numbers"], ogiven_in B FD , hm, FD.kp, FD.bindsN fun _ _ _ _ _ _ us hl => match us, hl with | [_], _ => rfl⟩
abbrev Ntaken_in : List Str := ["numbers", "number"]
theorem sctaken_in : FnScope Ntaken_in ["numbers"] (defScope (top 2)) := ⟨rfl, rfl, rfl, by decide +kernel, rfl, by decide +kernel, by decide +kernel⟩
def mtaken_in : CS := (cRet (cUn fNeg (cCallB fSum (cCons true (cLc [1] (iSeq (cVar 0)) (gSet 1) (cTest (cBin fLt true (cVar 1) (cC (.int 0)))) (cVar 1)) cNil))))
def Ftaken_in : Fn := runDef 1 2 (ioOf []) mtaken_in
theorem btaken_in {P : Program} {w : World} {K : PySem.W.Frag} {mg : Str → Option Value} {base : Heap} {cl : Nat → Addr} (B : Blt mg) {f : Addr} {cdv : Value} {A : Around} {outer : List Env} {s : Shared} {H : Hp} {E : XK} (hr : Room 0 (A.deeper (envOfC "taken_in" (defScope (top 2)) s.heap.objs.size f cdv)))  : SSs (BX P w K mg base Ntaken_in "taken_in" (defScope (top 2)) f cdv A outer s H E) cl (ioOf []) (defBody (top 2)) mtaken_in :=
  (sss_one (ss_ret (q := false) (dNeg (qa := false) (dSum (qb := false) rfl rfl B.sum (sb_cons (qa := false) (qb := true) (se_lc (own := [("number", 1)]) (qt := true) (qe := true) rfl sctaken_in.nd (si_seq (qa := true) (dv 0)) (blkOk_by (by kernel_rfl)) (fun s H A l fp => (sg_name (i := 1) sctaken_in.nd rfl (by first | exact .inl rfl | exact .inr rfl) rfl)) (fun s H A l fp => (sts_one (qt := true) (tLt' (qa := true) (qb := true) (dv 1) se_int))) (fun s H A l fp => (dv 1))) sb_nil)))))
theorem otaken_in {P : Program} {w : World} {K : PySem.W.Frag} {mg : Str → Option Value} {base : Heap} {cl : Nat → Addr} (B : Blt mg) {f : Addr} {fd : FuncData} (FD : FnP K "taken_in" (top 2) f fd)  : FnOk P w K mg base CX0 1 f fd ["numbers"] (spM ⟨K, cl⟩ Ftaken_in) :=
  fn_def (k := 0) FD sctaken_in (ioOf_out (by decide)) (fun cdv A outer s H E hr => btaken_in B hr )
theorem dtaken_in {P : Program} {w : World} {K : PySem.W.Frag} {mg : Str → Option Value} {base : Heap} {cl : Nat → Addr} (B : Blt mg) {f : Addr} {fd : FuncData} (FD : FnP K "taken_in" (top 2) f fd) (hm : mg "taken_in" = some (.ref f))  : Dn P w K mg base cl "taken_in" 1 Ftaken_in :=
  ⟨f, fd, ["numbers"], otaken_in B FD , hm, FD.kp, FD.bindsN fun _ _ _ _ _ _ us hl => match us, hl with | [_], _ => rfl⟩
abbrev Nhighest_held : List Str := ["adds", "floor", "cap", "start"]
theorem schighest_held : FnScope Nhighest_held ["adds", "floor", "cap", "start"] (defScope (top 3)) := ⟨rfl, rfl, rfl, by decide +kernel, rfl, by decide +kernel, by decide +kernel⟩
def mhighest_held : CS := (cRet (cCallB fMin2 (cCons true (cVar 2) (cCons true (cBin fAdd true (cCallB fMax2 (cCons true (cVar 1) (cCons true (cBin fSub true (cVar 3) (cCallV Ftaken_in (cCons true (cVar 0) cNil))) cNil))) (cCallV Fgiven_in (cCons true (cVar 0) cNil))) cNil))))
def Fhighest_held : Fn := runDef 4 4 (ioOf []) mhighest_held
theorem bhighest_held {P : Program} {w : World} {K : PySem.W.Frag} {mg : Str → Option Value} {base : Heap} {cl : Nat → Addr} (B : Blt mg) {f : Addr} {cdv : Value} {A : Around} {outer : List Env} {s : Shared} {H : Hp} {E : XK} (hr : Room 1 (A.deeper (envOfC "highest_held" (defScope (top 3)) s.heap.objs.size f cdv))) (dgiven_in : Dn P w K mg base cl "given_in" 1 Fgiven_in) (dtaken_in : Dn P w K mg base cl "taken_in" 1 Ftaken_in) : SSs (BX P w K mg base Nhighest_held "highest_held" (defScope (top 3)) f cdv A outer s H E) cl (ioOf []) (defBody (top 3)) mhighest_held :=
  (sss_one (ss_ret (q := true) (dMin2 (qb := true) rfl rfl B.min (sb_cons (qa := true) (qb := true) (dv 2) (sb_cons (qa := true) (qb := true) (dAdd (qa := true) (qb := true) (dMax2 (qb := true) rfl rfl B.max (sb_cons (qa := true) (qb := true) (dv 1) (sb_cons (qa := true) (qb := true) (dSub (qa := true) (qb := true) (dv 3) (se_callV (qb := true) (dtaken_in.fm hr (by decide)) rfl (sb_cons (qa := true) (qb := true) (dv 0) sb_nil))) sb_nil))) (se_callV (qb := true) (dgiven_in.fm hr (by decide)) rfl (sb_cons (qa := true) (qb := true) (dv 0) sb_nil))) sb_nil)))))
theorem ohighest_held {P : Program} {w : World} {K : PySem.W.Frag} {mg : Str → Option Value} {base : Heap} {cl : Nat → Addr} (B : Blt mg) {f : Addr} {fd : FuncData} (FD : FnP K "highest_held" (top 3) f fd) (dgiven_in : Dn P w K mg base cl "given_in" 1 Fgiven_in) (dtaken_in : Dn P w K mg base cl "taken_in" 1 Ftaken_in) : FnOk P w K mg base CX0 2 f fd ["adds", "floor", "cap", "start"] (spM ⟨K, cl⟩ Fhighest_held) :=
  fn_def (k := 1) FD schighest_held (ioOf_out (by decide)) (fun cdv A outer s H E hr => bhighest_held B hr dgiven_in dtaken_in)
theorem dhighest_held {P : Program} {w : World} {K : PySem.W.Frag} {mg : Str → Option Value} {base : Heap} {cl : Nat → Addr} (B : Blt mg) {f : Addr} {fd : FuncData} (FD : FnP K "highest_held" (top 3) f fd) (hm : mg "highest_held" = some (.ref f)) (dgiven_in : Dn P w K mg base cl "given_in" 1 Fgiven_in) (dtaken_in : Dn P w K mg base cl "taken_in" 1 Ftaken_in) : Dn P w K mg base cl "highest_held" 2 Fhighest_held :=
  ⟨f, fd, ["adds", "floor", "cap", "start"], ohighest_held B FD dgiven_in dtaken_in, hm, FD.kp, FD.bindsN fun _ _ _ _ _ _ us hl => match us, hl with | [_, _, _, _], _ => rfl⟩
theorem khighest_held_start_cap_floor_adds {P : Program} {w : World} {K : PySem.W.Frag} {mg : Str → Option Value} {base : Heap} {cl : Nat → Addr} (B : Blt mg) {f : Addr} {fd : FuncData} (FD : FnP K "highest_held" (top 3) f fd) (hm : mg "highest_held" = some (.ref f)) (dgiven_in : Dn P w K mg base cl "given_in" 1 Fgiven_in) (dtaken_in : Dn P w K mg base cl "taken_in" 1 Ftaken_in) : Dk P w K mg base cl "highest_held" ["start", "cap", "floor", "adds"] [3, 2, 1, 0] 2 Fhighest_held :=
  ⟨f, fd, ["adds", "floor", "cap", "start"], ohighest_held B FD dgiven_in dtaken_in, hm, FD.kp, kbn_of FD fun _ _ _ _ _ _ us hl => match us, hl with | [_, _, _, _], _ => rfl⟩
abbrev Nlowest_held : List Str := ["adds", "floor", "cap", "start"]
theorem sclowest_held : FnScope Nlowest_held ["adds", "floor", "cap", "start"] (defScope (top 4)) := ⟨rfl, rfl, rfl, by decide +kernel, rfl, by decide +kernel, by decide +kernel⟩
def mlowest_held : CS := (cRet (cCallB fMax2 (cCons true (cVar 1) (cCons true (cBin fSub true (cCallB fMin2 (cCons true (cVar 2) (cCons true (cBin fAdd true (cVar 3) (cCallV Fgiven_in (cCons true (cVar 0) cNil))) cNil))) (cCallV Ftaken_in (cCons true (cVar 0) cNil))) cNil))))
def Flowest_held : Fn := runDef 4 4 (ioOf []) mlowest_held
theorem blowest_held {P : Program} {w : World} {K : PySem.W.Frag} {mg : Str → Option Value} {base : Heap} {cl : Nat → Addr} (B : Blt mg) {f : Addr} {cdv : Value} {A : Around} {outer : List Env} {s : Shared} {H : Hp} {E : XK} (hr : Room 1 (A.deeper (envOfC "lowest_held" (defScope (top 4)) s.heap.objs.size f cdv))) (dgiven_in : Dn P w K mg base cl "given_in" 1 Fgiven_in) (dtaken_in : Dn P w K mg base cl "taken_in" 1 Ftaken_in) : SSs (BX P w K mg base Nlowest_held "lowest_held" (defScope (top 4)) f cdv A outer s H E) cl (ioOf []) (defBody (top 4)) mlowest_held :=
  (sss_one (ss_ret (q := true) (dMax2 (qb := true) rfl rfl B.max (sb_cons (qa := true) (qb := true) (dv 1) (sb_cons (qa := true) (qb := true) (dSub (qa := true) (qb := true) (dMin2 (qb := true) rfl rfl B.min (sb_cons (qa := true) (qb := true) (dv 2) (sb_cons (qa := true) (qb := true) (dAdd (qa := true) (qb := true) (dv 3) (se_callV (qb := true) (dgiven_in.fm hr (by decide)) rfl (sb_cons (qa := true) (qb := true) (dv 0) sb_nil))) sb_nil))) (se_callV (qb := true) (dtaken_in.fm hr (by decide)) rfl (sb_cons (qa := true) (qb := true) (dv 0) sb_nil))) sb_nil)))))
theorem olowest_held {P : Program} {w : World} {K : PySem.W.Frag} {mg : Str → Option Value} {base : Heap} {cl : Nat → Addr} (B : Blt mg) {f : Addr} {fd : FuncData} (FD : FnP K "lowest_held" (top 4) f fd) (dgiven_in : Dn P w K mg base cl "given_in" 1 Fgiven_in) (dtaken_in : Dn P w K mg base cl "taken_in" 1 Ftaken_in) : FnOk P w K mg base CX0 2 f fd ["adds", "floor", "cap", "start"] (spM ⟨K, cl⟩ Flowest_held) :=
  fn_def (k := 1) FD sclowest_held (ioOf_out (by decide)) (fun cdv A outer s H E hr => blowest_held B hr dgiven_in dtaken_in)
theorem dlowest_held {P : Program} {w : World} {K : PySem.W.Frag} {mg : Str → Option Value} {base : Heap} {cl : Nat → Addr} (B : Blt mg) {f : Addr} {fd : FuncData} (FD : FnP K "lowest_held" (top 4) f fd) (hm : mg "lowest_held" = some (.ref f)) (dgiven_in : Dn P w K mg base cl "given_in" 1 Fgiven_in) (dtaken_in : Dn P w K mg base cl "taken_in" 1 Ftaken_in) : Dn P w K mg base cl "lowest_held" 2 Flowest_held :=
  ⟨f, fd, ["adds", "floor", "cap", "start"], olowest_held B FD dgiven_in dtaken_in, hm, FD.kp, FD.bindsN fun _ _ _ _ _ _ us hl => match us, hl with | [_, _, _, _], _ => rfl⟩
theorem klowest_held_start_cap_floor_adds {P : Program} {w : World} {K : PySem.W.Frag} {mg : Str → Option Value} {base : Heap} {cl : Nat → Addr} (B : Blt mg) {f : Addr} {fd : FuncData} (FD : FnP K "lowest_held" (top 4) f fd) (hm : mg "lowest_held" = some (.ref f)) (dgiven_in : Dn P w K mg base cl "given_in" 1 Fgiven_in) (dtaken_in : Dn P w K mg base cl "taken_in" 1 Ftaken_in) : Dk P w K mg base cl "lowest_held" ["start", "cap", "floor", "adds"] [3, 2, 1, 0] 2 Flowest_held :=
  ⟨f, fd, ["adds", "floor", "cap", "start"], olowest_held B FD dgiven_in dtaken_in, hm, FD.kp, kbn_of FD fun _ _ _ _ _ _ us hl => match us, hl with | [_, _, _, _], _ => rfl⟩
abbrev N_law_by_hand_right : List Str := ["_law_got", "_law_due", "_law_far"]
theorem sc_law_by_hand_right : FnScope N_law_by_hand_right [] (defScope (top 14)) := ⟨rfl, rfl, rfl, by decide +kernel, rfl, by decide +kernel, by decide +kernel⟩
def m_law_by_hand_right : CS := (cSeq
  (cAsg (gSet 0) (cLst true (cCons true (cCallV Fhighest_held (cCons true (cTup true (cCons true (cC (.int 8)) (cCons true (cUn fNeg (cC (.int 8))) cNil))) (cCons true (cC (.int 0)) (cCons true (cC (.int 10)) (cCons true (cC (.int 5)) cNil))))) (cCons true (cCallV Flowest_held (cCons true (cTup true (cCons true (cC (.int 8)) (cCons true (cUn fNeg (cC (.int 8))) cNil))) (cCons true (cC (.int 0)) (cCons true (cC (.int 10)) (cCons true (cC (.int 5)) cNil))))) (cCons true (cCallV Fhighest_held (cCons true (cTup true (cCons true (cUn fNeg (cC (.int 3))) (cCons true (cC (.int 9)) (cCons true (cUn fNeg (cC (.int 4))) cNil)))) (cCons true (cC (.int 0)) (cCons true (cC (.int 10)) (cCons true (cC (.int 5)) cNil))))) cNil)))))
  (cSeq
  (cAsg (gSet 1) (cLst true (cCons true (cC (.int 8)) (cCons true (cC (.int 2)) (cCons true (cC (.int 9)) cNil)))))
  (cSeq
  (cAsg (gSet 0) (cBin fAdd true (cVar 0) (cLst true (cCons true (cCallV Flowest_held (cCons true (cTup true cNil) (cCons true (cC (.int 0)) (cCons true (cC (.int 10)) (cCons true (cC (.int 5)) cNil))))) (cCons true (cCallV Fhighest_held (cCons true (cTup true cNil) (cCons true (cC (.int 0)) (cCons true (cC (.int 10)) (cCons true (cC (.int 5)) cNil))))) (cCons true (cCallV Flowest_held (cCons true (cTup true (cCons true (cUn fNeg (cC (.int 3))) (cCons true (cC (.int 9)) (cCons true (cUn fNeg (cC (.int 4))) cNil)))) (cCons true (cC (.int 0)) (cCons true (cC (.int 10)) (cCons true (cC (.int 5)) cNil))))) cNil))))))
  (cSeq
  (cAsg (gSet 1) (cBin fAdd true (cVar 1) (cLst true (cCons true (cC (.int 5)) (cCons true (cC (.int 5)) (cCons true (cC (.int 3)) cNil))))))
  (cSeq
  (cAsg (gSet 0) (cBin fAdd true (cVar 0) (cLst true (cCons true (cCallV Fhighest_held (cCons true (cTup true (cCons true (cC (.int 3)) (cCons true (cC (.int 3)) cNil))) (cCons true (cC (.int 0)) (cCons true (cC (.int 10)) (cCons true (cC (.int 5)) cNil))))) (cCons true (cCallV Flowest_held (cCons true (cTup true (cCons true (cC (.int 3)) (cCons true (cC (.int 3)) cNil))) (cCons true (cC (.int 0)) (cCons true (cC (.int 10)) (cCons true (cC (.int 5)) cNil))))) (cCons true (cCallV Fhighest_held (cCons true (cTup true (cCons true (cUn fNeg (cC (.int 9))) cNil)) (cCons true (cC (.int 2)) (cCons true (cC (.int 2)) (cCons true (cC (.int 2)) cNil))))) cNil))))))
  (cSeq
  (cAsg (gSet 1) (cBin fAdd true (cVar 1) (cLst true (cCons true (cC (.int 10)) (cCons true (cC (.int 10)) (cCons true (cC (.int 2)) cNil))))))
  (cSeq
  (cAsg (gSet 0) (cBin fAdd true (cVar 0) (cLst true (cCons true (cCallKV Fhighest_held [3, 2, 1, 0] 4 (cCons true (cUn fNeg (cC (.int 3))) (cCons true (cUn fNeg (cC (.int 1))) (cCons true (cUn fNeg (cC (.int 4))) (cCons true (cLst true (cCons true (cUn fNeg (cC (.int 5))) (cCons true (cC (.int 2)) cNil))) cNil))))) cNil))))
  (cSeq
  (cDrop (cApp true (cVar 0) (cCallKV Flowest_held [3, 2, 1, 0] 4 (cCons true (cUn fNeg (cC (.int 3))) (cCons true (cUn fNeg (cC (.int 1))) (cCons true (cUn fNeg (cC (.int 4))) (cCons true (cLst true (cCons true (cC (.int 2)) (cCons true (cUn fNeg (cC (.int 5))) cNil))) cNil)))))))
  (cSeq
  (cAsg (gSet 1) (cBin fAdd true (cVar 1) (cLst true (cCons true (cUn fNeg (cC (.int 2))) (cCons true (cUn fNeg (cC (.int 4))) cNil)))))
  (cSeq
  (cAsg (gSet 2) (cBin fMul true (cTup true (cCons true (cBin fPow true (cC (.int 10)) (cC (.int 30))) (cCons true (cUn fNeg (cBin fPow true (cC (.int 10)) (cC (.int 30)))) cNil))) (cC (.int 30))))
  (cSeq
  (cAsg (gSet 0) (cBin fAdd true (cVar 0) (cLst true (cCons true (cCallV Fhighest_held (cCons true (cVar 2) (cCons true (cC (.int 0)) (cCons true (cBin fPow true (cC (.int 10)) (cC (.int 30))) (cCons true (cC (.int 7)) cNil))))) (cCons true (cCallV Flowest_held (cCons true (cVar 2) (cCons true (cC (.int 0)) (cCons true (cBin fPow true (cC (.int 10)) (cC (.int 30))) (cCons true (cC (.int 7)) cNil))))) cNil)))))
  (cSeq
  (cDrop (cApp true (cVar 0) (cCallV Fhighest_held (cCons true (cVar 2) (cCons true (cUn fNeg (cBin fPow true (cC (.int 10)) (cC (.int 30)))) (cCons true (cBin fPow true (cC (.int 10)) (cC (.int 29))) (cCons true (cC (.int 0)) cNil)))))))
  (cSeq
  (cAsg (gSet 1) (cBin fAdd true (cVar 1) (cLst true (cCons true (cBin fPow true (cC (.int 10)) (cC (.int 30))) (cCons true (cC (.int 0)) (cCons true (cBin fPow true (cC (.int 10)) (cC (.int 29))) cNil))))))
  (cSeq
  (cAsg (gSet 0) (cBin fAdd true (cVar 0) (cLst true (cCons true (cCallV Flowest_held (cCons true (cBin fAdd true (cBin fMul true (cTup true (cCons true (cC (.int 1)) cNil)) (cC (.int 30))) (cBin fMul true (cTup true (cCons true (cUn fNeg (cC (.int 1))) cNil)) (cC (.int 30)))) (cCons true (cUn fNeg (cC (.int 40))) (cCons true (cC (.int 40)) (cCons true (cC (.int 0)) cNil))))) (cCons true (cCallV Fhighest_held (cCons true (cBin fAdd true (cBin fMul true (cTup true (cCons true (cC (.int 1)) cNil)) (cC (.int 30))) (cBin fMul true (cTup true (cCons true (cUn fNeg (cC (.int 1))) cNil)) (cC (.int 30)))) (cCons true (cUn fNeg (cC (.int 10))) (cCons true (cC (.int 40)) (cCons true (cC (.int 0)) cNil))))) cNil)))))
  (cSeq
  (cAsg (gSet 1) (cBin fAdd true (cVar 1) (cLst true (cCons true (cC (.int 0)) (cCons true (cC (.int 20)) cNil)))))
  (cSeq
  (cAsg (gSet 0) (cBin fAdd true (cVar 0) (cLst true (cCons true (cCallV Flowest_held (cCons true (cBin fAdd true (cBin fMul true (cTup true (cCons true (cC (.int 1)) cNil)) (cC (.int 30))) (cBin fMul true (cTup true (cCons true (cUn fNeg (cC (.int 1))) cNil)) (cC (.int 30)))) (cCons true (cUn fNeg (cC (.int 40))) (cCons true (cC (.int 11)) (cCons true (cC (.int 0)) cNil))))) (cCons true (cCallV Fhighest_held (cCons true (cBin fMul true (cTup true (cCons true (cC (.int 0)) cNil)) (cC (.int 60))) (cCons true (cC (.int 4)) (cCons true (cC (.int 6)) (cCons true (cC (.int 4)) cNil))))) cNil)))))
  (cRet (cCallV (F_law_same 40) (cCons true (cVar 0) (cCons true (cBin fAdd true (cVar 1) (cLst true (cCons true (cUn fNeg (cC (.int 19))) (cCons true (cC (.int 4)) cNil)))) cNil))))))))))))))))))))
def F_law_by_hand_right : Fn := runDef 0 3 (ioOf []) m_law_by_hand_right
theorem b_law_by_hand_right {P : Program} {w : World} {K : PySem.W.Frag} {mg : Str → Option Value} {base : Heap} {cl : Nat → Addr} (B : Blt mg) {f : Addr} {cdv : Value} {A : Around} {outer : List Env} {s : Shared} {H : Hp} {E : XK} (hr : Room 41 (A.deeper (envOfC "_law_by_hand_right" (defScope (top 14)) s.heap.objs.size f cdv))) (d_law_same : Dn P w K mg base cl "_law_same" 41 (F_law_same 40)) (dhighest_held : Dn P w K mg base cl "highest_held" 2 Fhighest_held) (dlowest_held : Dn P w K mg base cl "lowest_held" 2 Flowest_held) (khighest_held_start_cap_floor_adds : Dk P w K mg base cl "highest_held" ["start", "cap", "floor", "adds"] [3, 2, 1, 0] 2 Fhighest_held) (klowest_held_start_cap_floor_adds : Dk P w K mg base cl "lowest_held" ["start", "cap", "floor", "adds"] [3, 2, 1, 0] 2 Flowest_held) : SSs (BX P w K mg base N_law_by_hand_right "_law_by_hand_right" (defScope (top 14)) f cdv A outer s H E) cl (ioOf []) (defBody (top 14)) m_law_by_hand_right :=
  (sss_cons
  (ss_asg (q := true) (se_lst (qb := true) (qd := true) (sb_cons (qa := true) (qb := true) (se_callV (qb := true) (dhighest_held.fm hr (by decide)) rfl (sb_cons (qa := true) (qb := true) (se_tup (qb := true) (qd := true) (sb_cons (qa := true) (qb := true) se_int (sb_cons (qa := true) (qb := true) (dNeg (qa := true) se_int) sb_nil))) (sb_cons (qa := true) (qb := true) se_int (sb_cons (qa := true) (qb := true) se_int (sb_cons (qa := true) (qb := true) se_int sb_nil))))) (sb_cons (qa := true) (qb := true) (se_callV (qb := true) (dlowest_held.fm hr (by decide)) rfl (sb_cons (qa := true) (qb := true) (se_tup (qb := true) (qd := true) (sb_cons (qa := true) (qb := true) se_int (sb_cons (qa := true) (qb := true) (dNeg (qa := true) se_int) sb_nil))) (sb_cons (qa := true) (qb := true) se_int (sb_cons (qa := true) (qb := true) se_int (sb_cons (qa := true) (qb := true) se_int sb_nil))))) (sb_cons (qa := true) (qb := true) (se_callV (qb := true) (dhighest_held.fm hr (by decide)) rfl (sb_cons (qa := true) (qb := true) (se_tup (qb := true) (qd := true) (sb_cons (qa := true) (qb := true) (dNeg (qa := true) se_int) (sb_cons (qa := true) (qb := true) se_int (sb_cons (qa := true) (qb := true) (dNeg (qa := true) se_int) sb_nil)))) (sb_cons (qa := true) (qb := true) se_int (sb_cons (qa := true) (qb := true) se_int (sb_cons (qa := true) (qb := true) se_int sb_nil))))) sb_nil)))) (sg_name (i := 0) sc_law_by_hand_right.nd rfl (by first | exact .inl rfl | exact .inr rfl) rfl))
  (sss_cons
  (ss_asg (q := true) (se_lst (qb := true) (qd := true) (sb_cons (qa := true) (qb := true) se_int (sb_cons (qa := true) (qb := true) se_int (sb_cons (qa := true) (qb := true) se_int sb_nil)))) (sg_name (i := 1) sc_law_by_hand_right.nd rfl (by first | exact .inl rfl | exact .inr rfl) rfl))
  (sss_cons
  (ss_asg (q := true) (dAdd (qa := true) (qb := true) (dv 0) (se_lst (qb := true) (qd := true) (sb_cons (qa := true) (qb := true) (se_callV (qb := true) (dlowest_held.fm hr (by decide)) rfl (sb_cons (qa := true) (qb := true) (se_tup (qb := true) (qd := true) sb_nil) (sb_cons (qa := true) (qb := true) se_int (sb_cons (qa := true) (qb := true) se_int (sb_cons (qa := true) (qb := true) se_int sb_nil))))) (sb_cons (qa := true) (qb := true) (se_callV (qb := true) (dhighest_held.fm hr (by decide)) rfl (sb_cons (qa := true) (qb := true) (se_tup (qb := true) (qd := true) sb_nil) (sb_cons (qa := true) (qb := true) se_int (sb_cons (qa := true) (qb := true) se_int (sb_cons (qa := true) (qb := true) se_int sb_nil))))) (sb_cons (qa := true) (qb := true) (se_callV (qb := true) (dlowest_held.fm hr (by decide)) rfl (sb_cons (qa := true) (qb := true) (se_tup (qb := true) (qd := true) (sb_cons (qa := true) (qb := true) (dNeg (qa := true) se_int) (sb_cons (qa := true) (qb := true) se_int (sb_cons (qa := true) (qb := true) (dNeg (qa := true) se_int) sb_nil)))) (sb_cons (qa := true) (qb := true) se_int (sb_cons (qa := true) (qb := true) se_int (sb_cons (qa := true) (qb := true) se_int sb_nil))))) sb_nil))))) (sg_name (i := 0) sc_law_by_hand_right.nd rfl (by first | exact .inl rfl | exact .inr rfl) rfl))
  (sss_cons
  (ss_asg (q := true) (dAdd (qa := true) (qb := true) (dv 1) (se_lst (qb := true) (qd := true) (sb_cons (qa := true) (qb := true) se_int (sb_cons (qa := true) (qb := true) se_int (sb_cons (qa := true) (qb := true) se_int sb_nil))))) (sg_name (i := 1) sc_law_by_hand_right.nd rfl (by first | exact .inl rfl | exact .inr rfl) rfl))
  (sss_cons
  (ss_asg (q := true) (dAdd (qa := true) (qb := true) (dv 0) (se_lst (qb := true) (qd := true) (sb_cons (qa := true) (qb := true) (se_callV (qb := true) (dhighest_held.fm hr (by decide)) rfl (sb_cons (qa := true) (qb := true) (se_tup (qb := true) (qd := true) (sb_cons (qa := true) (qb := true) se_int (sb_cons (qa := true) (qb := true) se_int sb_nil))) (sb_cons (qa := true) (qb := true) se_int (sb_cons (qa := true) (qb := true) se_int (sb_cons (qa := true) (qb := true) se_int sb_nil))))) (sb_cons (qa := true) (qb := true) (se_callV (qb := true) (dlowest_held.fm hr (by decide)) rfl (sb_cons (qa := true) (qb := true) (se_tup (qb := true) (qd := true) (sb_cons (qa := true) (qb := true) se_int (sb_cons (qa := true) (qb := true) se_int sb_nil))) (sb_cons (qa := true) (qb := true) se_int (sb_cons (qa := true) (qb := true) se_int (sb_cons (qa := true) (qb := true) se_int sb_nil))))) (sb_cons (qa := true) (qb := true) (se_callV (qb := true) (dhighest_held.fm hr (by decide)) rfl (sb_cons (qa := true) (qb := true) (se_tup (qb := true) (qd := true) (sb_cons (qa := true) (qb := true) (dNeg (qa := true) se_int) sb_nil)) (sb_cons (qa := true) (qb := true) se_int (sb_cons (qa := true) (qb := true) se_int (sb_cons (qa := true) (qb := true) se_int sb_nil))))) sb_nil))))) (sg_name (i := 0) sc_law_by_hand_right.nd rfl (by first | exact .inl rfl | exact .inr rfl) rfl))
  (sss_cons
  (ss_asg (q := true) (dAdd (qa := true) (qb := true) (dv 1) (se_lst (qb := true) (qd := true) (sb_cons (qa := true) (qb := true) se_int (sb_cons (qa := true) (qb := true) se_int (sb_cons (qa := true) (qb := true) se_int sb_nil))))) (sg_name (i := 1) sc_law_by_hand_right.nd rfl (by first | exact .inl rfl | exact .inr rfl) rfl))
  (sss_cons
  (ss_asg (q := true) (dAdd (qa := true) (qb := true) (dv 0) (se_lst (qb := true) (qd := true) (sb_cons (qa := true) (qb := true) (se_callKV (qb := true) (khighest_held_start_cap_floor_adds.fm hr (by decide)) rfl (sk_cons (qa := true) (qb := true) (dNeg (qa := true) se_int) (sk_cons (qa := true) (qb := true) (dNeg (qa := true) se_int) (sk_cons (qa := true) (qb := true) (dNeg (qa := true) se_int) (sk_cons (qa := true) (qb := true) (se_lst (qb := true) (qd := true) (sb_cons (qa := true) (qb := true) (dNeg (qa := true) se_int) (sb_cons (qa := true) (qb := true) se_int sb_nil))) sk_nil))))) sb_nil))) (sg_name (i := 0) sc_law_by_hand_right.nd rfl (by first | exact .inl rfl | exact .inr rfl) rfl))
  (sss_cons
  (ss_expr (q := false) (se_append (qo := true) (qa := true) (dv 0) (se_callKV (qb := true) (klowest_held_start_cap_floor_adds.fm hr (by decide)) rfl (sk_cons (qa := true) (qb := true) (dNeg (qa := true) se_int) (sk_cons (qa := true) (qb := true) (dNeg (qa := true) se_int) (sk_cons (qa := true) (qb := true) (dNeg (qa := true) se_int) (sk_cons (qa := true) (qb := true) (se_lst (qb := true) (qd := true) (sb_cons (qa := true) (qb := true) se_int (sb_cons (qa := true) (qb := true) (dNeg (qa := true) se_int) sb_nil))) sk_nil)))))))
  (sss_cons
  (ss_asg (q := true) (dAdd (qa := true) (qb := true) (dv 1) (se_lst (qb := true) (qd := true) (sb_cons (qa := true) (qb := true) (dNeg (qa := true) se_int) (sb_cons (qa := true) (qb := true) (dNeg (qa := true) se_int) sb_nil)))) (sg_name (i := 1) sc_law_by_hand_right.nd rfl (by first | exact .inl rfl | exact .inr rfl) rfl))
  (sss_cons
  (ss_asg (q := true) (dMul (qa := true) (qb := true) (se_tup (qb := true) (qd := true) (sb_cons (qa := true) (qb := true) (dPow (qa := true) (qb := true) se_int se_int) (sb_cons (qa := true) (qb := true) (dNeg (qa := true) (dPow (qa := true) (qb := true) se_int se_int)) sb_nil))) se_int) (sg_name (i := 2) sc_law_by_hand_right.nd rfl (by first | exact .inl rfl | exact .inr rfl) rfl))
  (sss_cons
  (ss_asg (q := true) (dAdd (qa := true) (qb := true) (dv 0) (se_lst (qb := true) (qd := true) (sb_cons (qa := true) (qb := true) (se_callV (qb := true) (dhighest_held.fm hr (by decide)) rfl (sb_cons (qa := true) (qb := true) (dv 2) (sb_cons (qa := true) (qb := true) se_int (sb_cons (qa := true) (qb := true) (dPow (qa := true) (qb := true) se_int se_int) (sb_cons (qa := true) (qb := true) se_int sb_nil))))) (sb_cons (qa := true) (qb := true) (se_callV (qb := true) (dlowest_held.fm hr (by decide)) rfl (sb_cons (qa := true) (qb := true) (dv 2) (sb_cons (qa := true) (qb := true) se_int (sb_cons (qa := true) (qb := true) (dPow (qa := true) (qb := true) se_int se_int) (sb_cons (qa := true) (qb := true) se_int sb_nil))))) sb_nil)))) (sg_name (i := 0) sc_law_by_hand_right.nd rfl (by first | exact .inl rfl | exact .inr rfl) rfl))
  (sss_cons
  (ss_expr (q := false) (se_append (qo := true) (qa := true) (dv 0) (se_callV (qb := true) (dhighest_held.fm hr (by decide)) rfl (sb_cons (qa := true) (qb := true) (dv 2) (sb_cons (qa := true) (qb := true) (dNeg (qa := true) (dPow (qa := true) (qb := true) se_int se_int)) (sb_cons (qa := true) (qb := true) (dPow (qa := true) (qb := true) se_int se_int) (sb_cons (qa := true) (qb := true) se_int sb_nil)))))))
  (sss_cons
  (ss_asg (q := true) (dAdd (qa := true) (qb := true) (dv 1) (se_lst (qb := true) (qd := true) (sb_cons (qa := true) (qb := true) (dPow (qa := true) (qb := true) se_int se_int) (sb_cons (qa := true) (qb := true) se_int (sb_cons (qa := true) (qb := true) (dPow (qa := true) (qb := true) se_int se_int) sb_nil))))) (sg_name (i := 1) sc_law_by_hand_right.nd rfl (by first | exact .inl rfl | exact .inr rfl) rfl))
  (sss_cons
  (ss_asg (q := true) (dAdd (qa := true) (qb := true) (dv 0) (se_lst (qb := true) (qd := true) (sb_cons (qa := true) (qb := true) (se_callV (qb := true) (dlowest_held.fm hr (by decide)) rfl (sb_cons (qa := true) (qb := true) (dAdd (qa := true) (qb := true) (dMul (qa := true) (qb := true) (se_tup (qb := true) (qd := true) (sb_cons (qa := true) (qb := true) se_int sb_nil)) se_int) (dMul (qa := true) (qb := true) (se_tup (qb := true) (qd := true) (sb_cons (qa := true) (qb := true) (dNeg (qa := true) se_int) sb_nil)) se_int)) (sb_cons (qa := true) (qb := true) (dNeg (qa := true) se_int) (sb_cons (qa := true) (qb := true) se_int (sb_cons (qa := true) (qb := true) se_int sb_nil))))) (sb_cons (qa := true) (qb := true) (se_callV (qb := true) (dhighest_held.fm hr (by decide)) rfl (sb_cons (qa := true) (qb := true) (dAdd (qa := true) (qb := true) (dMul (qa := true) (qb := true) (se_tup (qb := true) (qd := true) (sb_cons (qa := true) (qb := true) se_int sb_nil)) se_int) (dMul (qa := true) (qb := true) (se_tup (qb := true) (qd := true) (sb_cons (qa := true) (qb := true) (dNeg (qa := true) se_int) sb_nil)) se_int)) (sb_cons (qa := true) (qb := true) (dNeg (qa := true) se_int) (sb_cons (qa := true) (qb := true) se_int (sb_cons (qa := true) (qb := true) se_int sb_nil))))) sb_nil)))) (sg_name (i := 0) sc_law_by_hand_right.nd rfl (by first | exact .inl rfl | exact .inr rfl) rfl))
  (sss_cons
  (ss_asg (q := true) (dAdd (qa := true) (qb := true) (dv 1) (se_lst (qb := true) (qd := true) (sb_cons (qa := true) (qb := true) se_int (sb_cons (qa := true) (qb := true) se_int sb_nil)))) (sg_name (i := 1) sc_law_by_hand_right.nd rfl (by first | exact .inl rfl | exact .inr rfl) rfl))
  (sss_cons
  (ss_asg (q := true) (dAdd (qa := true) (qb := true) (dv 0) (se_lst (qb := true) (qd := true) (sb_cons (qa := true) (qb := true) (se_callV (qb := true) (dlowest_held.fm hr (by decide)) rfl (sb_cons (qa := true) (qb := true) (dAdd (qa := true) (qb := true) (dMul (qa := true) (qb := true) (se_tup (qb := true) (qd := true) (sb_cons (qa := true) (qb := true) se_int sb_nil)) se_int) (dMul (qa := true) (qb := true) (se_tup (qb := true) (qd := true) (sb_cons (qa := true) (qb := true) (dNeg (qa := true) se_int) sb_nil)) se_int)) (sb_cons (qa := true) (qb := true) (dNeg (qa := true) se_int) (sb_cons (qa := true) (qb := true) se_int (sb_cons (qa := true) (qb := true) se_int sb_nil))))) (sb_cons (qa := true) (qb := true) (se_callV (qb := true) (dhighest_held.fm hr (by decide)) rfl (sb_cons (qa := true) (qb := true) (dMul (qa := true) (qb := true) (se_tup (qb := true) (qd := true) (sb_cons (qa := true) (qb := true) se_int sb_nil)) se_int) (sb_cons (qa := true) (qb := true) se_int (sb_cons (qa := true) (qb := true) se_int (sb_cons (qa := true) (qb := true) se_int sb_nil))))) sb_nil)))) (sg_name (i := 0) sc_law_by_hand_right.nd rfl (by first | exact .inl rfl | exact .inr rfl) rfl))
  (sss_one (ss_ret (q := true) (se_callV (qb := true) (d_law_same.fm hr (by decide)) rfl (sb_cons (qa := true) (qb := true) (dv 0) (sb_cons (qa := true) (qb := true) (dAdd (qa := true) (qb := true) (dv 1) (se_lst (qb := true) (qd := true) (sb_cons (qa := true) (qb := true) (dNeg (qa := true) se_int) (sb_cons (qa := true) (qb := true) se_int sb_nil)))) sb_nil)))))))))))))))))))))
theorem o_law_by_hand_right {P : Program} {w : World} {K : PySem.W.Frag} {mg : Str → Option Value} {base : Heap} {cl : Nat → Addr} (B : Blt mg) {f : Addr} {fd : FuncData} (FD : FnP K "_law_by_hand_right" (top 14) f fd) (d_law_same : Dn P w K mg base cl "_law_same" 41 (F_law_same 40)) (dhighest_held : Dn P w K mg base cl "highest_held" 2 Fhighest_held) (dlowest_held : Dn P w K mg base cl "lowest_held" 2 Flowest_held) (khighest_held_start_cap_floor_adds : Dk P w K mg base cl "highest_held" ["start", "cap", "floor", "adds"] [3, 2, 1, 0] 2 Fhighest_held) (klowest_held_start_cap_floor_adds : Dk P w K mg base cl "lowest_held" ["start", "cap", "floor", "adds"] [3, 2, 1, 0] 2 Flowest_held) : FnOk P w K mg base CX0 42 f fd [] (spM ⟨K, cl⟩ F_law_by_hand_right) :=
  fn_def (k := 41) FD sc_law_by_hand_right (ioOf_out (by decide)) (fun cdv A outer s H E hr => b_law_by_hand_right B hr d_law_same dhighest_held dlowest_held khighest_held_start_cap_floor_adds klowest_held_start_cap_floor_adds)
theorem d_law_by_hand_right {P : Program} {w : World} {K : PySem.W.Frag} {mg : Str → Option Value} {base : Heap} {cl : Nat → Addr} (B : Blt mg) {f : Addr} {fd : FuncData} (FD : FnP K "_law_by_hand_right" (top 14) f fd) (hm : mg "_law_by_hand_right" = some (.ref f)) (d_law_same : Dn P w K mg base cl "_law_same" 41 (F_law_same 40)) (dhighest_held : Dn P w K mg base cl "highest_held" 2 Fhighest_held) (dlowest_held : Dn P w K mg base cl "lowest_held" 2 Flowest_held) (khighest_held_start_cap_floor_adds : Dk P w K mg base cl "highest_held" ["start", "cap", "floor", "adds"] [3, 2, 1, 0] 2 Fhighest_held) (klowest_held_start_cap_floor_adds : Dk P w K mg base cl "lowest_held" ["start", "cap", "floor", "adds"] [3, 2, 1, 0] 2 Flowest_held) : Dn P w K mg base cl "_law_by_hand_right" 42 F_law_by_hand_right :=
  ⟨f, fd, [], o_law_by_hand_right B FD d_law_same dhighest_held dlowest_held khighest_held_start_cap_floor_adds klowest_held_start_cap_floor_adds, hm, FD.kp, FD.bindsN fun _ _ _ _ _ _ us hl => match us, hl with | [], _ => rfl⟩
abbrev N_law_cells : List Str := ["_law_script", "_law_top_so", "_law_cells_so", "_law_k", "_law_cell", "_law_at_so"]
theorem sc_law_cells : FnScope N_law_cells ["_law_script", "_law_top_so"] (defScope (top 8)) := ⟨rfl, rfl, rfl, by decide +kernel, rfl, by decide +kernel, by decide +kernel⟩
def m_law_cells : CS := (cSeq
  (cAsg (gSet 2) (cOrL (cCallB fList (cCons true (cSl fSl true (cVar 0) oNone (oSome (cVar 1))) cNil)) (cLst true (cCons true (cC (.int 0)) cNil))))
  (cSeq
  (cFor (iEnumM (cSl fSl true (cVar 0) (oSome (cVar 1)) (oSome (cC (.int 63))))) (gTupG (gsCons (gSet 3) (gsCons (gSet 4) gsNil))) (cSeq
  (cAsg (gSet 5) (cBin fMod true (cCallB fInt (cCons true (cVar 3) cNil)) (cVar 1)))
  (cAsg (gSub true (cVar 2) (cVar 5)) (cBin fAdd true (cBin fIdx true (cVar 2) (cVar 5)) (cBin fMul true (cVar 4) (cBin fAdd true (cVar 3) (cC (.int 2))))))))
  (cRet (cVar 2))))
def F_law_cells : Fn := runDef 2 6 (ioOf []) m_law_cells
theorem b_law_cells {P : Program} {w : World} {K : PySem.W.Frag} {mg : Str → Option Value} {base : Heap} {cl : Nat → Addr} (B : Blt mg) {f : Addr} {cdv : Value} {A : Around} {outer : List Env} {s : Shared} {H : Hp} {E : XK} (hr : Room 0 (A.deeper (envOfC "_law_cells" (defScope (top 8)) s.heap.objs.size f cdv)))  : SSs (BX P w K mg base N_law_cells "_law_cells" (defScope (top 8)) f cdv A outer s H E) cl (ioOf []) (defBody (top 8)) m_law_cells :=
  (sss_cons
  (ss_asg (q := true) (se_orL (qa := true) (qb := true) (dList (qb := true) rfl B.list (sb_cons (qa := true) (qb := true) (dSl (qa := true) (ql := true) (qh := true) (dv 0) so_none (so_some (qa := true) (dv 1))) sb_nil)) (se_one (qa := true) (se_lst (qb := true) (qd := true) (sb_cons (qa := true) (qb := true) se_int sb_nil)))) (sg_name (i := 2) sc_law_cells.nd rfl (by first | exact .inl rfl | exact .inr rfl) rfl))
  (sss_cons
  (ss_for PassesOwn.never rfl (si_enum (qa := true) rfl B.enumerate (dSl (qa := true) (ql := true) (qh := true) (dv 0) (so_some (qa := true) (dv 1)) (so_some (qa := true) se_int))) (sg_tup rfl (sgs_cons (sg_name (i := 3) sc_law_cells.nd rfl (by first | exact .inl rfl | exact .inr rfl) rfl) (sgs_cons (sg_name (i := 4) sc_law_cells.nd rfl (by first | exact .inl rfl | exact .inr rfl) rfl) sgs_nil)) (gsCons_len (gsCons_len gsNil_len))) (sss_cons
  (ss_asg (q := true) (dMod (qa := true) (qb := true) (dInt (qb := true) rfl B.int (sb_cons (qa := true) (qb := true) (dv 3) sb_nil)) (dv 1)) (sg_name (i := 5) sc_law_cells.nd rfl (by first | exact .inl rfl | exact .inr rfl) rfl))
  (sss_one (ss_asg (q := true) (dAdd (qa := true) (qb := true) (dIx (qa := true) (qb := true) (dv 2) (dv 5)) (dMul (qa := true) (qb := true) (dv 4) (dAdd (qa := true) (qb := true) (dv 3) se_int))) (sg_sub (qo := true) (qi := true) (dv 2) (dv 5))))))
  (sss_one (ss_ret (q := true) (dv 2)))))
theorem o_law_cells {P : Program} {w : World} {K : PySem.W.Frag} {mg : Str → Option Value} {base : Heap} {cl : Nat → Addr} (B : Blt mg) {f : Addr} {fd : FuncData} (FD : FnP K "_law_cells" (top 8) f fd)  : FnOk P w K mg base CX0 1 f fd ["_law_script", "_law_top_so"] (spM ⟨K, cl⟩ F_law_cells) :=
  fn_def (k := 0) FD sc_law_cells (ioOf_out (by decide)) (fun cdv A outer s H E hr => b_law_cells B hr )
theorem d_law_cells {P : Program} {w : World} {K : PySem.W.Frag} {mg : Str → Option Value} {base : Heap} {cl : Nat → Addr} (B : Blt mg) {f : Addr} {fd : FuncData} (FD : FnP K "_law_cells" (top 8) f fd) (hm : mg "_law_cells" = some (.ref f))  : Dn P w K mg base cl "_law_cells" 1 F_law_cells :=
  ⟨f, fd, ["_law_script", "_law_top_so"], o_law_cells B FD , hm, FD.kp, FD.bindsN fun _ _ _ _ _ _ us hl => match us, hl with | [_, _], _ => rfl⟩
abbrev N_law_held : List Str := ["_law_goods_so", "_law_low_so", "_law_high_so", "_law_near", "_law_own"]
theorem sc_law_held : FnScope N_law_held ["_law_goods_so", "_law_low_so", "_law_high_so", "_law_near"] (defScope (top 12)) := ⟨rfl, rfl, rfl, by decide +kernel, rfl, by decide +kernel, by decide +kernel⟩
def m_law_held : CS := (cSeq
  (cFor (iSeq (cVar 0)) (gSet 4) (cAsg (gSet 3) (cCallB fMin2 (cCons true (cVar 2) (cCons true (cCallB fMax2 (cCons true (cVar 1) (cCons true (cBin fAdd true (cVar 3) (cVar 4)) cNil))) cNil)))))
  (cRet (cVar 3)))
def F_law_held : Fn := runDef 4 5 (ioOf []) m_law_held
theorem b_law_held {P : Program} {w : World} {K : PySem.W.Frag} {mg : Str → Option Value} {base : Heap} {cl : Nat → Addr} (B : Blt mg) {f : Addr} {cdv : Value} {A : Around} {outer : List Env} {s : Shared} {H : Hp} {E : XK} (hr : Room 0 (A.deeper (envOfC "_law_held" (defScope (top 12)) s.heap.objs.size f cdv)))  : SSs (BX P w K mg base N_law_held "_law_held" (defScope (top 12)) f cdv A outer s H E) cl (ioOf []) (defBody (top 12)) m_law_held :=
  (sss_cons
  (ss_for PassesOwn.never rfl (si_seq (qa := true) (dv 0)) (sg_name (i := 4) sc_law_held.nd rfl (by first | exact .inl rfl | exact .inr rfl) rfl) (sss_one (ss_asg (q := true) (dMin2 (qb := true) rfl rfl B.min (sb_cons (qa := true) (qb := true) (dv 2) (sb_cons (qa := true) (qb := true) (dMax2 (qb := true) rfl rfl B.max (sb_cons (qa := true) (qb := true) (dv 1) (sb_cons (qa := true) (qb := true) (dAdd (qa := true) (qb := true) (dv 3) (dv 4)) sb_nil))) sb_nil))) (sg_name (i := 3) sc_law_held.nd rfl (by first | exact .inl rfl | exact .inr rfl) rfl))))
  (sss_one (ss_ret (q := true) (dv 3))))
theorem o_law_held {P : Program} {w : World} {K : PySem.W.Frag} {mg : Str → Option Value} {base : Heap} {cl : Nat → Addr} (B : Blt mg) {f : Addr} {fd : FuncData} (FD : FnP K "_law_held" (top 12) f fd)  : FnOk P w K mg base CX0 1 f fd ["_law_goods_so", "_law_low_so", "_law_high_so", "_law_near"] (spM ⟨K, cl⟩ F_law_held) :=
  fn_def (k := 0) FD sc_law_held (ioOf_out (by decide)) (fun cdv A outer s H E hr => b_law_held B hr )
theorem d_law_held {P : Program} {w : World} {K : PySem.W.Frag} {mg : Str → Option Value} {base : Heap} {cl : Nat → Addr} (B : Blt mg) {f : Addr} {fd : FuncData} (FD : FnP K "_law_held" (top 12) f fd) (hm : mg "_law_held" = some (.ref f))  : Dn P w K mg base cl "_law_held" 1 F_law_held :=
  ⟨f, fd, ["_law_goods_so", "_law_low_so", "_law_high_so", "_law_near"], o_law_held B FD , hm, FD.kp, FD.bindsN fun _ _ _ _ _ _ us hl => match us, hl with | [_, _, _, _], _ => rfl⟩
abbrev N_law_orders : List Str := ["_law_rest", "_law_found", "_law_k", "_law_own", "_law_far"]
theorem sc_law_orders : FnScope N_law_orders ["_law_rest"] (defScope (top 11)) := ⟨rfl, rfl, rfl, by decide +kernel, rfl, by decide +kernel, by decide +kernel⟩
def m_law_orders (Fme : Fn) : CS := (cSeq
  (cIfS (cTest (cBin fEq true (cVar 0) (cTup true cNil))) (cRet (cLst true (cCons true (cTup true cNil) cNil))) cNext)
  (cSeq
  (cAsg (gSet 1) (cLst true cNil))
  (cSeq
  (cFor (iEnumM (cVar 0)) (gTupG (gsCons (gSet 2) (gsCons (gSet 3) gsNil))) (cAsg (gSet 1) (cBin fAdd false (cVar 1) (cLc [4] (iSeq (cCallP true Fme (cCons true (cBin fAdd true (cSl fSl true (cVar 0) oNone (oSome (cVar 2))) (cSl fSl true (cVar 0) (oSome (cBin fAdd true (cVar 2) (cC (.int 1)))) oNone)) cNil))) (gSet 4) cYes (cBin fAdd true (cTup false (cCons true (cVar 3) cNil)) (cVar 4))))))
  (cRet (cVar 1)))))
def F_law_orders : Nat → Fn
  | 0 => errF
  | n + 1 => runDef 1 5 (ioOf []) (m_law_orders (F_law_orders n))
theorem b_law_orders {P : Program} {w : World} {K : PySem.W.Frag} {mg : Str → Option Value} {base : Heap} {cl : Nat → Addr} (B : Blt mg) {f : Addr} {cdv : Value} {A : Around} {outer : List Env} {s : Shared} {H : Hp} {E : XK} {n : Nat} {Fme : Fn} (hr : Room (n + 1) (A.deeper (envOfC "_law_orders" (defScope (top 11)) s.heap.objs.size f cdv))) (d_me : Dn P w K mg base cl "_law_orders" (n + 1) Fme)  : SSs (BX P w K mg base N_law_orders "_law_orders" (defScope (top 11)) f cdv A outer s H E) cl (ioOf []) (defBody (top 11)) (m_law_orders Fme) :=
  (sss_cons
  (ss_if (q := true) (tEq' (qa := true) (qb := true) hr.units (dv 0) (se_tup (qb := true) (qd := true) sb_nil)) (sss_one (ss_ret (q := true) (se_lst (qb := true) (qd := true) (sb_cons (qa := true) (qb := true) (se_tup (qb := true) (qd := true) sb_nil) sb_nil)))) sss_nil)
  (sss_cons
  (ss_asg (q := true) (se_lst (qb := true) (qd := true) sb_nil) (sg_name (i := 1) sc_law_orders.nd rfl (by first | exact .inl rfl | exact .inr rfl) rfl))
  (sss_cons
  (ss_for PassesOwn.never rfl (si_enum (qa := true) rfl B.enumerate (dv 0)) (sg_tup rfl (sgs_cons (sg_name (i := 2) sc_law_orders.nd rfl (by first | exact .inl rfl | exact .inr rfl) rfl) (sgs_cons (sg_name (i := 3) sc_law_orders.nd rfl (by first | exact .inl rfl | exact .inr rfl) rfl) sgs_nil)) (gsCons_len (gsCons_len gsNil_len))) (sss_one (ss_asg (q := false) (dAdd (qa := true) (qb := false) (dv 1) (se_lc (own := [("_law_far", 4)]) (qt := true) (qe := false) rfl sc_law_orders.nd (si_seq (qa := true) (se_callP (qb := true) (qd := true) (d_me.fm hr (by omega)) rfl (sb_cons (qa := true) (qb := true) (dAdd (qa := true) (qb := true) (dSl (qa := true) (ql := true) (qh := true) (dv 0) so_none (so_some (qa := true) (dv 2))) (dSl (qa := true) (ql := true) (qh := true) (dv 0) (so_some (qa := true) (dAdd (qa := true) (qb := true) (dv 2) se_int)) so_none)) sb_nil))) (blkOk_by (by kernel_rfl)) (fun s H A l fp => (sg_name (i := 4) sc_law_orders.nd rfl (by first | exact .inl rfl | exact .inr rfl) rfl)) (fun s H A l fp => sts_nil) (fun s H A l fp => (dAdd (qa := false) (qb := true) (se_tup (qb := true) (qd := false) (sb_cons (qa := true) (qb := true) (dv 3) sb_nil)) (dv 4))))) (sg_name (i := 1) sc_law_orders.nd rfl (by first | exact .inl rfl | exact .inr rfl) rfl))))
  (sss_one (ss_ret (q := true) (dv 1))))))
theorem d_law_orders {P : Program} {w : World} {K : PySem.W.Frag} {mg : Str → Option Value} {base : Heap} {cl : Nat → Addr} (B : Blt mg) {f : Addr} {fd : FuncData} (FD : FnP K "_law_orders" (top 11) f fd) (hm : mg "_law_orders" = some (.ref f))  : ∀ n : Nat, Dn P w K mg base cl "_law_orders" (n + 1) (F_law_orders n)
  | 0 => ⟨f, fd, ["_law_rest"], fn_zero (k := 0 + 0) FD sc_law_orders, hm, FD.kp, FD.bindsN fun _ _ _ _ _ _ us hl => match us, hl with | [_], _ => rfl⟩
  | n + 1 => ⟨f, fd, ["_law_rest"], (Nat.succ_add n 1).symm ▸ fn_def (k := n + 1) FD sc_law_orders (ioOf_out (by decide)) (fun cdv A outer s H E hr => b_law_orders B hr (d_law_orders B FD hm  n) ), hm, FD.kp, FD.bindsN fun _ _ _ _ _ _ us hl => match us, hl with | [_], _ => rfl⟩
abbrev N_law_ends : List Str := ["_law_goods_so", "_law_low_so", "_law_high_so", "_law_near", "_law_found", "_law_bits", "_law_k"]
theorem sc_law_ends : FnScope N_law_ends ["_law_goods_so", "_law_low_so", "_law_high_so", "_law_near"] (defScope (top 13)) := ⟨rfl, rfl, rfl, by decide +kernel, rfl, by decide +kernel, by decide +kernel⟩
def m_law_ends : CS := (cSeq
  (cAsg (gSet 4) (cLst true cNil))
  (cSeq
  (cFor (iSeq (cCallP true (F_law_orders 40) (cCons true (cRgTup (cCallB fLen (cCons true (cVar 0) cNil))) cNil))) (gSet 5) (cDrop (cApp false (cVar 4) (cCallP false F_law_held (cCons true (cLc [6] (iSeq (cVar 5)) (gSet 6) cYes (cBin fIdx true (cVar 0) (cVar 6))) (cCons true (cVar 1) (cCons true (cVar 2) (cCons true (cVar 3) cNil))))))))
  (cRet (cLst true (cCons true (cCallB fMax1 (cCons true (cVar 4) cNil)) (cCons true (cCallB fMin1 (cCons true (cVar 4) cNil)) cNil))))))
def F_law_ends : Fn := runDef 4 7 (ioOf []) m_law_ends
theorem b_law_ends {P : Program} {w : World} {K : PySem.W.Frag} {mg : Str → Option Value} {base : Heap} {cl : Nat → Addr} (B : Blt mg) {f : Addr} {cdv : Value} {A : Around} {outer : List Env} {s : Shared} {H : Hp} {E : XK} (hr : Room 41 (A.deeper (envOfC "_law_ends" (defScope (top 13)) s.heap.objs.size f cdv))) (d_law_held : Dn P w K mg base cl "_law_held" 1 F_law_held) (d_law_orders : Dn P w K mg base cl "_law_orders" 41 (F_law_orders 40)) : SSs (BX P w K mg base N_law_ends "_law_ends" (defScope (top 13)) f cdv A outer s H E) cl (ioOf []) (defBody (top 13)) m_law_ends :=
  (sss_cons
  (ss_asg (q := true) (se_lst (qb := true) (qd := true) sb_nil) (sg_name (i := 4) sc_law_ends.nd rfl (by first | exact .inl rfl | exact .inr rfl) rfl))
  (sss_cons
  (ss_for PassesOwn.never rfl (si_seq (qa := true) (se_callP (qb := true) (qd := true) (d_law_orders.fm hr (by decide)) rfl (sb_cons (qa := true) (qb := true) (se_tupRange (qa := true) rfl rfl B.tuple rfl B.range (dLen (qb := true) rfl B.len (sb_cons (qa := true) (qb := true) (dv 0) sb_nil))) sb_nil))) (sg_name (i := 5) sc_law_ends.nd rfl (by first | exact .inl rfl | exact .inr rfl) rfl) (sss_one (ss_expr (q := false) (se_append (qo := true) (qa := false) (dv 4) (se_callP (qb := false) (qd := false) (d_law_held.fm hr (by decide)) rfl (sb_cons (qa := false) (qb := true) (se_lc (own := [("_law_k", 6)]) (qt := true) (qe := true) rfl sc_law_ends.nd (si_seq (qa := true) (dv 5)) (blkOk_by (by kernel_rfl)) (fun s H A l fp => (sg_name (i := 6) sc_law_ends.nd rfl (by first | exact .inl rfl | exact .inr rfl) rfl)) (fun s H A l fp => sts_nil) (fun s H A l fp => (dIx (qa := true) (qb := true) (dv 0) (dv 6)))) (sb_cons (qa := true) (qb := true) (dv 1) (sb_cons (qa := true) (qb := true) (dv 2) (sb_cons (qa := true) (qb := true) (dv 3) sb_nil)))))))))
  (sss_one (ss_ret (q := true) (se_lst (qb := true) (qd := true) (sb_cons (qa := true) (qb := true) (dMax1 (qb := true) rfl rfl B.max (sb_cons (qa := true) (qb := true) (dv 4) sb_nil)) (sb_cons (qa := true) (qb := true) (dMin1 (qb := true) rfl rfl B.min (sb_cons (qa := true) (qb := true) (dv 4) sb_nil)) sb_nil)))))))
theorem o_law_ends {P : Program} {w : World} {K : PySem.W.Frag} {mg : Str → Option Value} {base : Heap} {cl : Nat → Addr} (B : Blt mg) {f : Addr} {fd : FuncData} (FD : FnP K "_law_ends" (top 13) f fd) (d_law_held : Dn P w K mg base cl "_law_held" 1 F_law_held) (d_law_orders : Dn P w K mg base cl "_law_orders" 41 (F_law_orders 40)) : FnOk P w K mg base CX0 42 f fd ["_law_goods_so", "_law_low_so", "_law_high_so", "_law_near"] (spM ⟨K, cl⟩ F_law_ends) :=
  fn_def (k := 41) FD sc_law_ends (ioOf_out (by decide)) (fun cdv A outer s H E hr => b_law_ends B hr d_law_held d_law_orders)
theorem d_law_ends {P : Program} {w : World} {K : PySem.W.Frag} {mg : Str → Option Value} {base : Heap} {cl : Nat → Addr} (B : Blt mg) {f : Addr} {fd : FuncData} (FD : FnP K "_law_ends" (top 13) f fd) (hm : mg "_law_ends" = some (.ref f)) (d_law_held : Dn P w K mg base cl "_law_held" 1 F_law_held) (d_law_orders : Dn P w K mg base cl "_law_orders" 41 (F_law_orders 40)) : Dn P w K mg base cl "_law_ends" 42 F_law_ends :=
  ⟨f, fd, ["_law_goods_so", "_law_low_so", "_law_high_so", "_law_near"], o_law_ends B FD d_law_held d_law_orders, hm, FD.kp, FD.bindsN fun _ _ _ _ _ _ us hl => match us, hl with | [_, _, _, _], _ => rfl⟩
abbrev N_law_take : List Str := ["_law_box_here", "_law_size_so", "_law_once", "_law_far", "_law_again", "_law_some"]
theorem sc_law_take : FnScope N_law_take ["_law_box_here", "_law_size_so"] (defScope (top 7)) := ⟨rfl, rfl, rfl, by decide +kernel, rfl, by decide +kernel, by decide +kernel⟩
def m_law_take : CS := (cSeq
  (cIfS (cTest (cBin fGt true (cBin fIdx true (cVar 0) (cC (.int 0))) (cC (.int 0)))) (cSeq
  (cAsg (gSet 5) (cBin fMod true (cCallB fInt (cCons true (cBin fIdx true (cVar 0) (cC (.int 0))) cNil)) (cVar 1)))
  (cSeq
  (cAsg (gSub true (cVar 0) (cC (.int 0))) (cBin fDiv true (cBin fIdx true (cVar 0) (cC (.int 0))) (cVar 1)))
  (cRet (cVar 5)))) cNext)
  (cSeq
  (cAsg (gSub true (cVar 0) (cC (.int 2))) (cBin fAdd true (cBin fIdx true (cVar 0) (cC (.int 2))) (cC (.int 1))))
  (cSeq
  (cAsg (gSet 2) (cBin fMod true (cCallB fInt (cCons true (cBin fMul true (cBin fAdd true (cBin fIdx true (cVar 0) (cC (.int 1))) (cBin fMul true (cC (.int 48271)) (cBin fIdx true (cVar 0) (cC (.int 2))))) (cBin fAdd true (cC (.int 39373)) (cBin fIdx true (cVar 0) (cC (.int 2))))) cNil)) (cC (.int 2147483647))))
  (cSeq
  (cAsg (gSet 3) (cBin fAdd true (cBin fMod true (cCallB fInt (cCons true (cVar 2) cNil)) (cC (.int 40009))) (cC (.int 7))))
  (cSeq
  (cAsg (gSet 4) (cBin fMod true (cCallB fInt (cCons true (cBin fMul true (cBin fAdd true (cBin fAdd true (cVar 2) (cBin fIdx true (cVar 0) (cC (.int 2)))) (cBin fDiv true (cBin fIdx true (cVar 0) (cC (.int 1))) (cC (.int 1000003)))) (cVar 3)) cNil)) (cC (.int 2147483629))))
  (cRet (cBin fMod true (cCallB fInt (cCons true (cBin fDiv true (cBin fMod true (cCallB fInt (cCons true (cBin fAdd true (cBin fMul true (cVar 4) (cC (.int 48271))) (cVar 2)) cNil)) (cC (.int 2147483587))) (cC (.int 64))) cNil)) (cVar 1))))))))
def F_law_take : Fn := runDef 2 6 (ioOf [0]) m_law_take
theorem b_law_take {P : Program} {w : World} {K : PySem.W.Frag} {mg : Str → Option Value} {base : Heap} {cl : Nat → Addr} (B : Blt mg) {f : Addr} {cdv : Value} {A : Around} {outer : List Env} {s : Shared} {H : Hp} {E : XK} (hr : Room 0 (A.deeper (envOfC "_law_take" (defScope (top 7)) s.heap.objs.size f cdv)))  : SSs (BX P w K mg base N_law_take "_law_take" (defScope (top 7)) f cdv A outer s H E) cl (ioOf [0]) (defBody (top 7)) m_law_take :=
  (sss_cons
  (ss_if (q := true) (tGt' (qa := true) (qb := true) (dIx (qa := true) (qb := true) (dv 0) se_int) se_int) (sss_cons
  (ss_asg (q := true) (dMod (qa := true) (qb := true) (dInt (qb := true) rfl B.int (sb_cons (qa := true) (qb := true) (dIx (qa := true) (qb := true) (dv 0) se_int) sb_nil)) (dv 1)) (sg_name (i := 5) sc_law_take.nd rfl (by first | exact .inl rfl | exact .inr rfl) rfl))
  (sss_cons
  (ss_asg (q := true) (dDiv (qa := true) (qb := true) (dIx (qa := true) (qb := true) (dv 0) se_int) (dv 1)) (sg_sub (qo := true) (qi := true) (dv 0) se_int))
  (sss_one (ss_ret (q := true) (dv 5))))) sss_nil)
  (sss_cons
  (ss_asg (q := true) (dAdd (qa := true) (qb := true) (dIx (qa := true) (qb := true) (dv 0) se_int) se_int) (sg_sub (qo := true) (qi := true) (dv 0) se_int))
  (sss_cons
  (ss_asg (q := true) (dMod (qa := true) (qb := true) (dInt (qb := true) rfl B.int (sb_cons (qa := true) (qb := true) (dMul (qa := true) (qb := true) (dAdd (qa := true) (qb := true) (dIx (qa := true) (qb := true) (dv 0) se_int) (dMul (qa := true) (qb := true) se_int (dIx (qa := true) (qb := true) (dv 0) se_int))) (dAdd (qa := true) (qb := true) se_int (dIx (qa := true) (qb := true) (dv 0) se_int))) sb_nil)) se_int) (sg_name (i := 2) sc_law_take.nd rfl (by first | exact .inl rfl | exact .inr rfl) rfl))
  (sss_cons
  (ss_asg (q := true) (dAdd (qa := true) (qb := true) (dMod (qa := true) (qb := true) (dInt (qb := true) rfl B.int (sb_cons (qa := true) (qb := true) (dv 2) sb_nil)) se_int) se_int) (sg_name (i := 3) sc_law_take.nd rfl (by first | exact .inl rfl | exact .inr rfl) rfl))
  (sss_cons
  (ss_asg (q := true) (dMod (qa := true) (qb := true) (dInt (qb := true) rfl B.int (sb_cons (qa := true) (qb := true) (dMul (qa := true) (qb := true) (dAdd (qa := true) (qb := true) (dAdd (qa := true) (qb := true) (dv 2) (dIx (qa := true) (qb := true) (dv 0) se_int)) (dDiv (qa := true) (qb := true) (dIx (qa := true) (qb := true) (dv 0) se_int) se_int)) (dv 3)) sb_nil)) se_int) (sg_name (i := 4) sc_law_take.nd rfl (by first | exact .inl rfl | exact .inr rfl) rfl))
  (sss_one (ss_ret (q := true) (dMod (qa := true) (qb := true) (dInt (qb := true) rfl B.int (sb_cons (qa := true) (qb := true) (dDiv (qa := true) (qb := true) (dMod (qa := true) (qb := true) (dInt (qb := true) rfl B.int (sb_cons (qa := true) (qb := true) (dAdd (qa := true) (qb := true) (dMul (qa := true) (qb := true) (dv 4) se_int) (dv 2)) sb_nil)) se_int) se_int) sb_nil)) (dv 1)))))))))
theorem o_law_take {P : Program} {w : World} {K : PySem.W.Frag} {mg : Str → Option Value} {base : Heap} {cl : Nat → Addr} (B : Blt mg) {f : Addr} {fd : FuncData} (FD : FnP K "_law_take" (top 7) f fd)  : FnOk P w K mg base CX0 1 f fd ["_law_box_here", "_law_size_so"] (spM ⟨K, cl⟩ F_law_take) :=
  fn_def (k := 0) FD sc_law_take (ioOf_out (by decide)) (fun cdv A outer s H E hr => b_law_take B hr )
theorem d_law_take {P : Program} {w : World} {K : PySem.W.Frag} {mg : Str → Option Value} {base : Heap} {cl : Nat → Addr} (B : Blt mg) {f : Addr} {fd : FuncData} (FD : FnP K "_law_take" (top 7) f fd) (hm : mg "_law_take" = some (.ref f))  : Dn P w K mg base cl "_law_take" 1 F_law_take :=
  ⟨f, fd, ["_law_box_here", "_law_size_so"], o_law_take B FD , hm, FD.kp, FD.bindsN fun _ _ _ _ _ _ us hl => match us, hl with | [_, _], _ => rfl⟩
abbrev N_law_of : List Str := ["_law_box_here", "_law_goods_so"]
theorem sc_law_of : FnScope N_law_of ["_law_box_here", "_law_goods_so"] (defScope (top 9)) := ⟨rfl, rfl, rfl, by decide +kernel, rfl, by decide +kernel, by decide +kernel⟩
def m_law_of : CS := (cRet (cBin fIdx false (cVar 1) (cCallIO F_law_take (ioOf [0]) (cCons true (cVar 0) (cCons true (cCallB fLen (cCons true (cVar 1) cNil)) cNil)))))
def F_law_of : Fn := runDef 2 2 (ioOf [0]) m_law_of
theorem b_law_of {P : Program} {w : World} {K : PySem.W.Frag} {mg : Str → Option Value} {base : Heap} {cl : Nat → Addr} (B : Blt mg) {f : Addr} {cdv : Value} {A : Around} {outer : List Env} {s : Shared} {H : Hp} {E : XK} (hr : Room 1 (A.deeper (envOfC "_law_of" (defScope (top 9)) s.heap.objs.size f cdv))) (d_law_take : Dn P w K mg base cl "_law_take" 1 F_law_take) : SSs (BX P w K mg base N_law_of "_law_of" (defScope (top 9)) f cdv A outer s H E) cl (ioOf [0]) (defBody (top 9)) m_law_of :=
  (sss_one (ss_ret (q := false) (dIx (qa := true) (qb := false) (dv 1) (se_callIO (qb := true) (io := (ioOf [0])) (d_law_take.fm hr (by decide)) rfl (sb_cons (qa := true) (qb := true) (dv 0) (sb_cons (qa := true) (qb := true) (dLen (qb := true) rfl B.len (sb_cons (qa := true) (qb := true) (dv 1) sb_nil)) sb_nil))))))
theorem o_law_of {P : Program} {w : World} {K : PySem.W.Frag} {mg : Str → Option Value} {base : Heap} {cl : Nat → Addr} (B : Blt mg) {f : Addr} {fd : FuncData} (FD : FnP K "_law_of" (top 9) f fd) (d_law_take : Dn P w K mg base cl "_law_take" 1 F_law_take) : FnOk P w K mg base CX0 2 f fd ["_law_box_here", "_law_goods_so"] (spM ⟨K, cl⟩ F_law_of) :=
  fn_def (k := 1) FD sc_law_of (ioOf_out (by decide)) (fun cdv A outer s H E hr => b_law_of B hr d_law_take)
theorem d_law_of {P : Program} {w : World} {K : PySem.W.Frag} {mg : Str → Option Value} {base : Heap} {cl : Nat → Addr} (B : Blt mg) {f : Addr} {fd : FuncData} (FD : FnP K "_law_of" (top 9) f fd) (hm : mg "_law_of" = some (.ref f)) (d_law_take : Dn P w K mg base cl "_law_take" 1 F_law_take) : Dn P w K mg base cl "_law_of" 2 F_law_of :=
  ⟨f, fd, ["_law_box_here", "_law_goods_so"], o_law_of B FD d_law_take, hm, FD.kp, FD.bindsN fun _ _ _ _ _ _ us hl => match us, hl with | [_, _], _ => rfl⟩
abbrev N_law_right : List Str := ["_law_box_here", "_law_turn", "_law_times_so", "_law_goods_so", "_law_low_so", "_law_high_so", "_law_near", "_law_due", "_law_got", "_law_again", "_law_lap"]
theorem sc_law_right : FnScope N_law_right ["_law_box_here"] (defScope (top 15)) := ⟨rfl, rfl, rfl, by decide +kernel, rfl, by decide +kernel, by decide +kernel⟩
def m_law_right : CS := (cSeq
  (cFor (iRange1 (cC (.int 6))) (gSet 1) (cSeq
  (cAsg (gSet 2) (cCallIO F_law_of (ioOf [0]) (cCons true (cVar 0) (cCons true (cLst true (cCons true (cC (.int 1)) (cCons true (cC (.int 1)) (cCons true (cBin fPow true (cC (.int 10)) (cC (.int 29))) cNil)))) cNil))))
  (cSeq
  (cAsg (gSet 3) (cCallB fTuple (cCons true (cLc [10] (iRange1 (cCallIO F_law_take (ioOf [0]) (cCons true (cVar 0) (cCons true (cC (.int 6)) cNil)))) (gSet 10) cYes (cBin fMul true (cBin fSub true (cCallIO F_law_take (ioOf [0]) (cCons true (cVar 0) (cCons true (cC (.int 17)) cNil))) (cC (.int 8))) (cVar 2))) cNil)))
  (cSeq
  (cAsg (gSet 4) (cBin fMul true (cUn fNeg (cCallIO F_law_take (ioOf [0]) (cCons true (cVar 0) (cCons true (cC (.int 7)) cNil)))) (cVar 2)))
  (cSeq
  (cAsg (gSet 5) (cBin fAdd false (cVar 4) (cBin fMul true (cCallIO F_law_take (ioOf [0]) (cCons true (cVar 0) (cCons true (cC (.int 11)) cNil))) (cVar 2))))
  (cFor (iSeq (cTup false (cCons false (cVar 4) (cCons false (cVar 5) (cCons true (cBin fAdd false (cVar 4) (cBin fMul true (cCallIO F_law_take (ioOf [0]) (cCons true (cVar 0) (cCons true (cBin fAdd true (cBin fDiv true (cBin fSub true (cVar 5) (cVar 4)) (cVar 2)) (cC (.int 1))) cNil))) (cVar 2))) cNil))))) (gSet 6) (cSeq
  (cAsg (gSet 7) (cCallP false F_law_ends (cCons true (cVar 3) (cCons true (cVar 4) (cCons true (cVar 5) (cCons true (cVar 6) cNil))))))
  (cSeq
  (cAsg (gSet 8) (cLst true (cCons true (cCallV Fhighest_held (cCons true (cVar 3) (cCons true (cVar 4) (cCons true (cVar 5) (cCons true (cVar 6) cNil))))) (cCons true (cCallV Flowest_held (cCons true (cVar 3) (cCons true (cVar 4) (cCons true (cVar 5) (cCons true (cVar 6) cNil))))) cNil))))
  (cSeq
  (cAsg (gSet 9) (cLst true (cCons true (cCallKV Fhighest_held [3, 2, 1, 0] 4 (cCons true (cVar 6) (cCons true (cVar 5) (cCons true (cVar 4) (cCons true (cCallB fList (cCons true (cVar 3) cNil)) cNil))))) cNil)))
  (cSeq
  (cDrop (cApp true (cVar 9) (cCallKV Flowest_held [3, 2, 1, 0] 4 (cCons true (cVar 6) (cCons true (cVar 5) (cCons true (cVar 4) (cCons true (cCallB fList (cCons true (cVar 3) cNil)) cNil)))))))
  (cIfS (cNotT (cTest (cCallV (F_law_same 40) (cCons false (cLst false (cCons true (cVar 8) (cCons true (cVar 9) cNil))) (cCons true (cLst false (cCons true (cVar 7) (cCons true (cVar 7) cNil))) cNil))))) (cRet (cC (.bl false))) cNext)))))))))))
  (cRet (cC (.bl true))))
def F_law_right : Fn := runDef 1 11 (ioOf [0]) m_law_right
theorem b_law_right {P : Program} {w : World} {K : PySem.W.Frag} {mg : Str → Option Value} {base : Heap} {cl : Nat → Addr} (B : Blt mg) {f : Addr} {cdv : Value} {A : Around} {outer : List Env} {s : Shared} {H : Hp} {E : XK} (hr : Room 42 (A.deeper (envOfC "_law_right" (defScope (top 15)) s.heap.objs.size f cdv))) (d_law_ends : Dn P w K mg base cl "_law_ends" 42 F_law_ends) (d_law_of : Dn P w K mg base cl "_law_of" 2 F_law_of) (d_law_same : Dn P w K mg base cl "_law_same" 41 (F_law_same 40)) (d_law_take : Dn P w K mg base cl "_law_take" 1 F_law_take) (dhighest_held : Dn P w K mg base cl "highest_held" 2 Fhighest_held) (dlowest_held : Dn P w K mg base cl "lowest_held" 2 Flowest_held) (khighest_held_start_cap_floor_adds : Dk P w K mg base cl "highest_held" ["start", "cap", "floor", "adds"] [3, 2, 1, 0] 2 Fhighest_held) (klowest_held_start_cap_floor_adds : Dk P w K mg base cl "lowest_held" ["start", "cap", "floor", "adds"] [3, 2, 1, 0] 2 Flowest_held) : SSs (BX P w K mg base N_law_right "_law_right" (defScope (top 15)) f cdv A outer s H E) cl (ioOf [0]) (defBody (top 15)) m_law_right :=
  (sss_cons
  (ss_for PassesOwn.never rfl (si_range1 (qa := true) rfl B.range se_int) (sg_name (i := 1) sc_law_right.nd rfl (by first | exact .inl rfl | exact .inr rfl) rfl) (sss_cons
  (ss_asg (q := false) (se_callIO (qb := true) (io := (ioOf [0])) (d_law_of.fm hr (by decide)) rfl (sb_cons (qa := true) (qb := true) (dv 0) (sb_cons (qa := true) (qb := true) (se_lst (qb := true) (qd := true) (sb_cons (qa := true) (qb := true) se_int (sb_cons (qa := true) (qb := true) se_int (sb_cons (qa := true) (qb := true) (dPow (qa := true) (qb := true) se_int se_int) sb_nil)))) sb_nil))) (sg_name (i := 2) sc_law_right.nd rfl (by first | exact .inl rfl | exact .inr rfl) rfl))
  (sss_cons
  (ss_asg (q := false) (dTuple (qb := false) rfl B.tuple (sb_cons (qa := false) (qb := true) (se_lc (own := [("_law_lap", 10)]) (qt := true) (qe := false) rfl sc_law_right.nd (si_range1 (qa := false) rfl B.range (se_callIO (qb := true) (io := (ioOf [0])) (d_law_take.fm hr (by decide)) rfl (sb_cons (qa := true) (qb := true) (dv 0) (sb_cons (qa := true) (qb := true) se_int sb_nil)))) (blkOk_by (by kernel_rfl)) (fun s H A l fp => (sg_name (i := 10) sc_law_right.nd rfl (by first | exact .inl rfl | exact .inr rfl) rfl)) (fun s H A l fp => sts_nil) (fun s H A l fp => (dMul (qa := false) (qb := true) (dSub (qa := false) (qb := true) (se_callIO (qb := true) (io := (ioOf [0])) (d_law_take.fm hr (by decide)).blk rfl (sb_cons (qa := true) (qb := true) (dv 0) (sb_cons (qa := true) (qb := true) se_int sb_nil))) se_int) (dv 2)))) sb_nil)) (sg_name (i := 3) sc_law_right.nd rfl (by first | exact .inl rfl | exact .inr rfl) rfl))
  (sss_cons
  (ss_asg (q := false) (dMul (qa := false) (qb := true) (dNeg (qa := false) (se_callIO (qb := true) (io := (ioOf [0])) (d_law_take.fm hr (by decide)) rfl (sb_cons (qa := true) (qb := true) (dv 0) (sb_cons (qa := true) (qb := true) se_int sb_nil)))) (dv 2)) (sg_name (i := 4) sc_law_right.nd rfl (by first | exact .inl rfl | exact .inr rfl) rfl))
  (sss_cons
  (ss_asg (q := false) (dAdd (qa := true) (qb := false) (dv 4) (dMul (qa := false) (qb := true) (se_callIO (qb := true) (io := (ioOf [0])) (d_law_take.fm hr (by decide)) rfl (sb_cons (qa := true) (qb := true) (dv 0) (sb_cons (qa := true) (qb := true) se_int sb_nil))) (dv 2))) (sg_name (i := 5) sc_law_right.nd rfl (by first | exact .inl rfl | exact .inr rfl) rfl))
  (sss_one (ss_for PassesOwn.never rfl (si_seq (qa := false) (se_tup (qb := false) (qd := false) (sb_cons (qa := true) (qb := false) (dv 4) (sb_cons (qa := true) (qb := false) (dv 5) (sb_cons (qa := false) (qb := true) (dAdd (qa := true) (qb := false) (dv 4) (dMul (qa := false) (qb := true) (se_callIO (qb := true) (io := (ioOf [0])) (d_law_take.fm hr (by decide)) rfl (sb_cons (qa := true) (qb := true) (dv 0) (sb_cons (qa := true) (qb := true) (dAdd (qa := true) (qb := true) (dDiv (qa := true) (qb := true) (dSub (qa := true) (qb := true) (dv 5) (dv 4)) (dv 2)) se_int) sb_nil))) (dv 2))) sb_nil))))) (sg_name (i := 6) sc_law_right.nd rfl (by first | exact .inl rfl | exact .inr rfl) rfl) (sss_cons
  (ss_asg (q := false) (se_callP (qb := true) (qd := false) (d_law_ends.fm hr (by decide)) rfl (sb_cons (qa := true) (qb := true) (dv 3) (sb_cons (qa := true) (qb := true) (dv 4) (sb_cons (qa := true) (qb := true) (dv 5) (sb_cons (qa := true) (qb := true) (dv 6) sb_nil))))) (sg_name (i := 7) sc_law_right.nd rfl (by first | exact .inl rfl | exact .inr rfl) rfl))
  (sss_cons
  (ss_asg (q := true) (se_lst (qb := true) (qd := true) (sb_cons (qa := true) (qb := true) (se_callV (qb := true) (dhighest_held.fm hr (by decide)) rfl (sb_cons (qa := true) (qb := true) (dv 3) (sb_cons (qa := true) (qb := true) (dv 4) (sb_cons (qa := true) (qb := true) (dv 5) (sb_cons (qa := true) (qb := true) (dv 6) sb_nil))))) (sb_cons (qa := true) (qb := true) (se_callV (qb := true) (dlowest_held.fm hr (by decide)) rfl (sb_cons (qa := true) (qb := true) (dv 3) (sb_cons (qa := true) (qb := true) (dv 4) (sb_cons (qa := true) (qb := true) (dv 5) (sb_cons (qa := true) (qb := true) (dv 6) sb_nil))))) sb_nil))) (sg_name (i := 8) sc_law_right.nd rfl (by first | exact .inl rfl | exact .inr rfl) rfl))
  (sss_cons
  (ss_asg (q := true) (se_lst (qb := true) (qd := true) (sb_cons (qa := true) (qb := true) (se_callKV (qb := true) (khighest_held_start_cap_floor_adds.fm hr (by decide)) rfl (sk_cons (qa := true) (qb := true) (dv 6) (sk_cons (qa := true) (qb := true) (dv 5) (sk_cons (qa := true) (qb := true) (dv 4) (sk_cons (qa := true) (qb := true) (dList (qb := true) rfl B.list (sb_cons (qa := true) (qb := true) (dv 3) sb_nil)) sk_nil))))) sb_nil)) (sg_name (i := 9) sc_law_right.nd rfl (by first | exact .inl rfl | exact .inr rfl) rfl))
  (sss_cons
  (ss_expr (q := false) (se_append (qo := true) (qa := true) (dv 9) (se_callKV (qb := true) (klowest_held_start_cap_floor_adds.fm hr (by decide)) rfl (sk_cons (qa := true) (qb := true) (dv 6) (sk_cons (qa := true) (qb := true) (dv 5) (sk_cons (qa := true) (qb := true) (dv 4) (sk_cons (qa := true) (qb := true) (dList (qb := true) rfl B.list (sb_cons (qa := true) (qb := true) (dv 3) sb_nil)) sk_nil)))))))
  (sss_one (ss_if (q := false) (st_not (qa := false) (st_val (qa := false) (se_callV (qb := false) (d_law_same.fm hr (by decide)) rfl (sb_cons (qa := false) (qb := false) (se_lst (qb := true) (qd := false) (sb_cons (qa := true) (qb := true) (dv 8) (sb_cons (qa := true) (qb := true) (dv 9) sb_nil))) (sb_cons (qa := false) (qb := true) (se_lst (qb := true) (qd := false) (sb_cons (qa := true) (qb := true) (dv 7) (sb_cons (qa := true) (qb := true) (dv 7) sb_nil))) sb_nil))))) (sss_one (ss_ret (q := true) se_bl)) sss_nil)))))))))))))
  (sss_one (ss_ret (q := true) se_bl)))
theorem o_law_right {P : Program} {w : World} {K : PySem.W.Frag} {mg : Str → Option Value} {base : Heap} {cl : Nat → Addr} (B : Blt mg) {f : Addr} {fd : FuncData} (FD : FnP K "_law_right" (top 15) f fd) (d_law_ends : Dn P w K mg base cl "_law_ends" 42 F_law_ends) (d_law_of : Dn P w K mg base cl "_law_of" 2 F_law_of) (d_law_same : Dn P w K mg base cl "_law_same" 41 (F_law_same 40)) (d_law_take : Dn P w K mg base cl "_law_take" 1 F_law_take) (dhighest_held : Dn P w K mg base cl "highest_held" 2 Fhighest_held) (dlowest_held : Dn P w K mg base cl "lowest_held" 2 Flowest_held) (khighest_held_start_cap_floor_adds : Dk P w K mg base cl "highest_held" ["start", "cap", "floor", "adds"] [3, 2, 1, 0] 2 Fhighest_held) (klowest_held_start_cap_floor_adds : Dk P w K mg base cl "lowest_held" ["start", "cap", "floor", "adds"] [3, 2, 1, 0] 2 Flowest_held) : FnOk P w K mg base CX0 43 f fd ["_law_box_here"] (spM ⟨K, cl⟩ F_law_right) :=
  fn_def (k := 42) FD sc_law_right (ioOf_out (by decide)) (fun cdv A outer s H E hr => b_law_right B hr d_law_ends d_law_of d_law_same d_law_take dhighest_held dlowest_held khighest_held_start_cap_floor_adds klowest_held_start_cap_floor_adds)
theorem d_law_right {P : Program} {w : World} {K : PySem.W.Frag} {mg : Str → Option Value} {base : Heap} {cl : Nat → Addr} (B : Blt mg) {f : Addr} {fd : FuncData} (FD : FnP K "_law_right" (top 15) f fd) (hm : mg "_law_right" = some (.ref f)) (d_law_ends : Dn P w K mg base cl "_law_ends" 42 F_law_ends) (d_law_of : Dn P w K mg base cl "_law_of" 2 F_law_of) (d_law_same : Dn P w K mg base cl "_law_same" 41 (F_law_same 40)) (d_law_take : Dn P w K mg base cl "_law_take" 1 F_law_take) (dhighest_held : Dn P w K mg base cl "highest_held" 2 Fhighest_held) (dlowest_held : Dn P w K mg base cl "lowest_held" 2 Flowest_held) (khighest_held_start_cap_floor_adds : Dk P w K mg base cl "highest_held" ["start", "cap", "floor", "adds"] [3, 2, 1, 0] 2 Fhighest_held) (klowest_held_start_cap_floor_adds : Dk P w K mg base cl "lowest_held" ["start", "cap", "floor", "adds"] [3, 2, 1, 0] 2 Flowest_held) : Dn P w K mg base cl "_law_right" 43 F_law_right :=
  ⟨f, fd, ["_law_box_here"], o_law_right B FD d_law_ends d_law_of d_law_same d_law_take dhighest_held dlowest_held khighest_held_start_cap_floor_adds klowest_held_start_cap_floor_adds, hm, FD.kp, FD.bindsN fun _ _ _ _ _ _ us hl => match us, hl with | [_], _ => rfl⟩
abbrev Nlaw : List Str := ["_law_script", "_law_cells_so", "_law_k"]
theorem sclaw : FnScope Nlaw ["_law_script"] (defScope (top 16)) := ⟨rfl, rfl, rfl, by decide +kernel, rfl, by decide +kernel, by decide +kernel⟩
def mlaw : CS := (cSeq
  (cIfS (cNotT (cTest (cCallP true F_law_by_hand_right cNil))) (cRet (cC (.bl false))) cNext)
  (cSeq
  (cAsg (gSet 1) (cCallP false F_law_cells (cCons true (cVar 0) (cCons true (cC (.int 3)) cNil))))
  (cRet (cCallB fAll (cCons true (cLc [2] (iRange1 (cCallB fLen (cCons true (cVar 1) cNil))) (gSet 2) cYes (cCallIO F_law_right (ioOf [0]) (cCons true (cCallP false F_law_box (cCons true (cVar 1) (cCons true (cVar 2) cNil))) cNil))) cNil)))))
def Flaw : Fn := runDef 1 3 (ioOf []) mlaw
theorem blaw {P : Program} {w : World} {K : PySem.W.Frag} {mg : Str → Option Value} {base : Heap} {cl : Nat → Addr} (B : Blt mg) {f : Addr} {cdv : Value} {A : Around} {outer : List Env} {s : Shared} {H : Hp} {E : XK} (hr : Room 43 (A.deeper (envOfC "law" (defScope (top 16)) s.heap.objs.size f cdv))) (d_law_box : Dn P w K mg base cl "_law_box" 1 F_law_box) (d_law_by_hand_right : Dn P w K mg base cl "_law_by_hand_right" 42 F_law_by_hand_right) (d_law_cells : Dn P w K mg base cl "_law_cells" 1 F_law_cells) (d_law_right : Dn P w K mg base cl "_law_right" 43 F_law_right) : SSs (BX P w K mg base Nlaw "law" (defScope (top 16)) f cdv A outer s H E) cl (ioOf []) (defBody (top 16)) mlaw :=
  (sss_cons
  (ss_if (q := true) (st_not (qa := true) (st_val (qa := true) (se_call0 (d_law_by_hand_right.fm hr (by decide)) rfl))) (sss_one (ss_ret (q := true) se_bl)) sss_nil)
  (sss_cons
  (ss_asg (q := false) (se_callP (qb := true) (qd := false) (d_law_cells.fm hr (by decide)) rfl (sb_cons (qa := true) (qb := true) (dv 0) (sb_cons (qa := true) (qb := true) se_int sb_nil))) (sg_name (i := 1) sclaw.nd rfl (by first | exact .inl rfl | exact .inr rfl) rfl))
  (sss_one (ss_ret (q := false) (dAll (qb := false) rfl rfl B.all (sb_cons (qa := false) (qb := true) (se_lc (own := [("_law_k", 2)]) (qt := true) (qe := false) rfl sclaw.nd (si_range1 (qa := true) rfl B.range (dLen (qb := true) rfl B.len (sb_cons (qa := true) (qb := true) (dv 1) sb_nil))) (blkOk_by (by kernel_rfl)) (fun s H A l fp => (sg_name (i := 2) sclaw.nd rfl (by first | exact .inl rfl | exact .inr rfl) rfl)) (fun s H A l fp => sts_nil) (fun s H A l fp => (se_callIO (qb := false) (io := (ioOf [0])) (d_law_right.fm hr (by decide)).blk rfl (sb_cons (qa := false) (qb := true) (se_callP (qb := true) (qd := false) (d_law_box.fm hr (by decide)).blk rfl (sb_cons (qa := true) (qb := true) (dv 1) (sb_cons (qa := true) (qb := true) (dv 2) sb_nil))) sb_nil)))) sb_nil))))))
theorem olaw {P : Program} {w : World} {K : PySem.W.Frag} {mg : Str → Option Value} {base : Heap} {cl : Nat → Addr} (B : Blt mg) {f : Addr} {fd : FuncData} (FD : FnP K "law" (top 16) f fd) (d_law_box : Dn P w K mg base cl "_law_box" 1 F_law_box) (d_law_by_hand_right : Dn P w K mg base cl "_law_by_hand_right" 42 F_law_by_hand_right) (d_law_cells : Dn P w K mg base cl "_law_cells" 1 F_law_cells) (d_law_right : Dn P w K mg base cl "_law_right" 43 F_law_right) : FnOk P w K mg base CX0 44 f fd ["_law_script"] (spM ⟨K, cl⟩ Flaw) :=
  fn_def (k := 43) FD sclaw (ioOf_out (by decide)) (fun cdv A outer s H E hr => blaw B hr d_law_box d_law_by_hand_right d_law_cells d_law_right)
end Gn
namespace Gn
open Mi PySem PySem.Spec PyProof.Rows L2
def D_law_box : He.DefD := ⟨("_law_box", none), "_law_box", "_law_box", defArgs (top 6), defBody (top 6), defScope (top 6), [], []⟩
def D_law_same : He.DefD := ⟨("_law_same", none), "_law_same", "_law_same", defArgs (top 10), defBody (top 10), defScope (top 10), [], []⟩
def Dgiven_in : He.DefD := ⟨("given_in", none), "given_in", "given_in", defArgs (top 1), defBody (top 1), defScope (top 1), [], []⟩
def Dtaken_in : He.DefD := ⟨("taken_in", none), "taken_in", "taken_in", defArgs (top 2), defBody (top 2), defScope (top 2), [], []⟩
def Dhighest_held : He.DefD := ⟨("highest_held", none), "highest_held", "highest_held", defArgs (top 3), defBody (top 3), defScope (top 3), [], []⟩
def Dlowest_held : He.DefD := ⟨("lowest_held", none), "lowest_held", "lowest_held", defArgs (top 4), defBody (top 4), defScope (top 4), [], []⟩
def D_law_by_hand_right : He.DefD := ⟨("_law_by_hand_right", none), "_law_by_hand_right", "_law_by_hand_right", defArgs (top 14), defBody (top 14), defScope (top 14), [], []⟩
def D_law_cells : He.DefD := ⟨("_law_cells", none), "_law_cells", "_law_cells", defArgs (top 8), defBody (top 8), defScope (top 8), [], []⟩
def D_law_held : He.DefD := ⟨("_law_held", none), "_law_held", "_law_held", defArgs (top 12), defBody (top 12), defScope (top 12), [], []⟩
def D_law_orders : He.DefD := ⟨("_law_orders", none), "_law_orders", "_law_orders", defArgs (top 11), defBody (top 11), defScope (top 11), [], []⟩
def D_law_ends : He.DefD := ⟨("_law_ends", none), "_law_ends", "_law_ends", defArgs (top 13), defBody (top 13), defScope (top 13), [], []⟩
def D_law_take : He.DefD := ⟨("_law_take", none), "_law_take", "_law_take", defArgs (top 7), defBody (top 7), defScope (top 7), [], []⟩
def D_law_of : He.DefD := ⟨("_law_of", none), "_law_of", "_law_of", defArgs (top 9), defBody (top 9), defScope (top 9), [], []⟩
def D_law_right : He.DefD := ⟨("_law_right", none), "_law_right", "_law_right", defArgs (top 15), defBody (top 15), defScope (top 15), [], []⟩
def Dlaw : He.DefD := ⟨("law", none), "law", "law", defArgs (top 16), defBody (top 16), defScope (top 16), [], []⟩
def fnl : List He.DefD := [D_law_box, D_law_same, Dgiven_in, Dtaken_in, Dhighest_held, Dlowest_held, D_law_by_hand_right, D_law_cells, D_law_held, D_law_orders, D_law_ends, D_law_take, D_law_of, D_law_right, Dlaw]
def fal : List He.Fa := [.glo "_law_box", .glo "_law_same", .glo "given_in", .glo "taken_in", .glo "highest_held", .glo "lowest_held", .glo "_law_by_hand_right", .glo "_law_cells", .glo "_law_held", .glo "_law_orders", .glo "_law_ends", .glo "_law_take", .glo "_law_of", .glo "_law_right", .glo "law", .free "abs", .free "all", .free "any", .free "bool", .free "enumerate", .free "int", .free "isinstance", .free "len", .free "list", .free "max", .free "min", .free "range", .free "reversed", .free "set", .free "sorted", .free "str", .free "sum", .free "tuple", .free "zip"]
abbrev Rr : PySem.W.OpenRow := PySem.W.OpenLaw.row PySem.Challenge.rw_boundedlevels_k45_held_additions
abbrev hk : PySem.W.Hook := He.hookD 4 fal fnl
def ob (s : PySem.W.SharedT) : He.AlD := He.obsDG 4 fal fnl (HandSHeadRun.getT s)
theorem ob_eq (s : PySem.W.SharedT) : ob s = hk.obs s.abs := He.obsDG_eq (HandSHeadRun.getT_eq s)
theorem hrun (w : World) : HandSHeadRun.RunEq Rr (PySem.W.view Rr.prog [16]) hk ob 1220 ["given_in", "taken_in", "highest_held", "lowest_held", "_law_box", "_law_take", "_law_cells", "_law_of", "_law_same", "_law_orders", "_law_held", "_law_ends", "_law_by_hand_right", "_law_right"] w := by
  intro os
  kernel_rfl
theorem facts {P : Program} {w : World} {K : PySem.W.Frag} {h : Heap} {mg : Str → Option Value} {f : Addr} {cl : Nat → Addr} (X : K.In h) (G : h.Ns mainGlobals mg) (hfa : mg ("law" : Str) = some (.ref f)) (c : He.SaysD fal fnl K) :
    ∃ fd : FuncData, (∀ (s : Shared) (v : Value), BindsTo s fd ⟨[v], []⟩ [("_law_script", v)]) ∧ ∀ base : Heap, K.In base → base.Ns mainGlobals mg → FnOk P w K mg base CX0 44 f fd ["_law_script"] (spM ⟨K, cl⟩ Flaw) := by
  obtain ⟨fd__law_box, F_law_box_⟩ := c.def_ 0 (d := D_law_box) rfl
  obtain ⟨fd__law_same, F_law_same_⟩ := c.def_ 1 (d := D_law_same) rfl
  obtain ⟨fd_given_in, Fgiven_in_⟩ := c.def_ 2 (d := Dgiven_in) rfl
  obtain ⟨fd_taken_in, Ftaken_in_⟩ := c.def_ 3 (d := Dtaken_in) rfl
  obtain ⟨fd_highest_held, Fhighest_held_⟩ := c.def_ 4 (d := Dhighest_held) rfl
  obtain ⟨fd_lowest_held, Flowest_held_⟩ := c.def_ 5 (d := Dlowest_held) rfl
  obtain ⟨fd__law_by_hand_right, F_law_by_hand_right_⟩ := c.def_ 6 (d := D_law_by_hand_right) rfl
  obtain ⟨fd__law_cells, F_law_cells_⟩ := c.def_ 7 (d := D_law_cells) rfl
  obtain ⟨fd__law_held, F_law_held_⟩ := c.def_ 8 (d := D_law_held) rfl
  obtain ⟨fd__law_orders, F_law_orders_⟩ := c.def_ 9 (d := D_law_orders) rfl
  obtain ⟨fd__law_ends, F_law_ends_⟩ := c.def_ 10 (d := D_law_ends) rfl
  obtain ⟨fd__law_take, F_law_take_⟩ := c.def_ 11 (d := D_law_take) rfl
  obtain ⟨fd__law_of, F_law_of_⟩ := c.def_ 12 (d := D_law_of) rfl
  obtain ⟨fd__law_right, F_law_right_⟩ := c.def_ 13 (d := D_law_right) rfl
  obtain ⟨fd_law, Flaw_⟩ := c.def_ 14 (d := Dlaw) rfl
  have e := hfa.symm.trans (He.glo_ok X G (c.fact 14 (f := .glo "law") rfl))
  cases e
  have b := FunD.bindsA (ps := ["_law_script"]) Flaw_ fun _ _ _ _ _ _ us hl => match us, hl with | [_], _ => rfl
  have B : Blt mg := ⟨He.free_ok X G (c.fact 22 (f := .free "len") rfl), He.free_ok X G (c.fact 15 (f := .free "abs") rfl), He.free_ok X G (c.fact 24 (f := .free "max") rfl), He.free_ok X G (c.fact 25 (f := .free "min") rfl), He.free_ok X G (c.fact 20 (f := .free "int") rfl), He.free_ok X G (c.fact 30 (f := .free "str") rfl), He.free_ok X G (c.fact 18 (f := .free "bool") rfl), He.free_ok X G (c.fact 31 (f := .free "sum") rfl), He.free_ok X G (c.fact 16 (f := .free "all") rfl), He.free_ok X G (c.fact 17 (f := .free "any") rfl), He.free_ok X G (c.fact 32 (f := .free "tuple") rfl), He.free_ok X G (c.fact 23 (f := .free "list") rfl), He.free_ok X G (c.fact 21 (f := .free "isinstance") rfl), He.free_ok X G (c.fact 26 (f := .free "range") rfl), He.free_ok X G (c.fact 19 (f := .free "enumerate") rfl), He.free_ok X G (c.fact 33 (f := .free "zip") rfl), He.free_ok X G (c.fact 29 (f := .free "sorted") rfl), He.free_ok X G (c.fact 27 (f := .free "reversed") rfl), He.free_ok X G (c.fact 28 (f := .free "set") rfl)⟩
  have g_law_box := He.glo_ok X G (c.fact 0 (f := .glo "_law_box") rfl)
  have g_law_same := He.glo_ok X G (c.fact 1 (f := .glo "_law_same") rfl)
  have ggiven_in := He.glo_ok X G (c.fact 2 (f := .glo "given_in") rfl)
  have gtaken_in := He.glo_ok X G (c.fact 3 (f := .glo "taken_in") rfl)
  have ghighest_held := He.glo_ok X G (c.fact 4 (f := .glo "highest_held") rfl)
  have glowest_held := He.glo_ok X G (c.fact 5 (f := .glo "lowest_held") rfl)
  have g_law_by_hand_right := He.glo_ok X G (c.fact 6 (f := .glo "_law_by_hand_right") rfl)
  have g_law_cells := He.glo_ok X G (c.fact 7 (f := .glo "_law_cells") rfl)
  have g_law_held := He.glo_ok X G (c.fact 8 (f := .glo "_law_held") rfl)
  have g_law_orders := He.glo_ok X G (c.fact 9 (f := .glo "_law_orders") rfl)
  have g_law_ends := He.glo_ok X G (c.fact 10 (f := .glo "_law_ends") rfl)
  have g_law_take := He.glo_ok X G (c.fact 11 (f := .glo "_law_take") rfl)
  have g_law_of := He.glo_ok X G (c.fact 12 (f := .glo "_law_of") rfl)
  have g_law_right := He.glo_ok X G (c.fact 13 (f := .glo "_law_right") rfl)
  refine ⟨fd_law, fun s v => b s [v] rfl, fun base _ _ => ?_⟩
  have d_law_box := d_law_box (P := P) (w := w) (base := base) (cl := cl) B F_law_box_ g_law_box 
  have d_law_same := d_law_same (P := P) (w := w) (base := base) (cl := cl) B F_law_same_ g_law_same  40
  have dgiven_in := dgiven_in (P := P) (w := w) (base := base) (cl := cl) B Fgiven_in_ ggiven_in 
  have dtaken_in := dtaken_in (P := P) (w := w) (base := base) (cl := cl) B Ftaken_in_ gtaken_in 
  have dhighest_held := dhighest_held (P := P) (w := w) (base := base) (cl := cl) B Fhighest_held_ ghighest_held dgiven_in dtaken_in
  have khighest_held_start_cap_floor_adds := khighest_held_start_cap_floor_adds (P := P) (w := w) (base := base) (cl := cl) B Fhighest_held_ ghighest_held dgiven_in dtaken_in
  have dlowest_held := dlowest_held (P := P) (w := w) (base := base) (cl := cl) B Flowest_held_ glowest_held dgiven_in dtaken_in
  have klowest_held_start_cap_floor_adds := klowest_held_start_cap_floor_adds (P := P) (w := w) (base := base) (cl := cl) B Flowest_held_ glowest_held dgiven_in dtaken_in
  have d_law_by_hand_right := d_law_by_hand_right (P := P) (w := w) (base := base) (cl := cl) B F_law_by_hand_right_ g_law_by_hand_right d_law_same dhighest_held dlowest_held khighest_held_start_cap_floor_adds klowest_held_start_cap_floor_adds
  have d_law_cells := d_law_cells (P := P) (w := w) (base := base) (cl := cl) B F_law_cells_ g_law_cells 
  have d_law_held := d_law_held (P := P) (w := w) (base := base) (cl := cl) B F_law_held_ g_law_held 
  have d_law_orders := d_law_orders (P := P) (w := w) (base := base) (cl := cl) B F_law_orders_ g_law_orders  40
  have d_law_ends := d_law_ends (P := P) (w := w) (base := base) (cl := cl) B F_law_ends_ g_law_ends d_law_held d_law_orders
  have d_law_take := d_law_take (P := P) (w := w) (base := base) (cl := cl) B F_law_take_ g_law_take 
  have d_law_of := d_law_of (P := P) (w := w) (base := base) (cl := cl) B F_law_of_ g_law_of d_law_take
  have d_law_right := d_law_right (P := P) (w := w) (base := base) (cl := cl) B F_law_right_ g_law_right d_law_ends d_law_of d_law_same d_law_take dhighest_held dlowest_held khighest_held_start_cap_floor_adds klowest_held_start_cap_floor_adds
  exact olaw B Flaw_ d_law_box d_law_by_hand_right d_law_cells d_law_right
theorem law_holds (hF : ∀ ns : List Int, ns.length ≤ 63 → ∃ bk, Flaw [.fz (.scr (ns.map D.int))] = .ok (.fz (.bl true), bk)) : PySem.Challenge.rw_boundedlevels_k45_held_additions.Holds := by
  w_on; o_law
  refine HandSHeadRun.head_any (r := PySem.W.OpenLaw.row PySem.Challenge.rw_boundedlevels_k45_held_additions) (q := PySem.W.view (PySem.W.OpenLaw.row PySem.Challenge.rw_boundedlevels_k45_held_additions).prog [16]) (H := Gn.hk) (ob := Gn.ob) (M := 1220) (loose := ["given_in", "taken_in", "highest_held", "lowest_held", "_law_box", "_law_take", "_law_cells", "_law_of", "_law_same", "_law_orders", "_law_held", "_law_ends", "_law_by_hand_right", "_law_right"]) (d := HandSHeadRun.topDef (PySem.W.OpenLaw.row PySem.Challenge.rw_boundedlevels_k45_held_additions).prog 16) (kwd := []) Gn.ob_eq
    (by kernel_rfl) (fun s => by kernel_rfl) Gn.hrun (by kernel_rfl) (by kernel_rfl) (by kernel_rfl) (by rfl) (by first | assumption | decide +kernel) (by decide +kernel) ⟨rfl, rfl, rfl, rfl, rfl, by decide +kernel⟩ ?hw ?hc
  case hw => w_witness2
  case hc =>
    refine L2.walk_ofE (l := PySem.Challenge.rw_boundedlevels_k45_held_additions) (n := 63) (k := 44) (x := "_law_script") (CX := L2.CX0) rfl (by decide) (by kernel_rfl) ⟨rfl, by decide, by decide⟩ ?F (fun _ _ _ _ z => z)
    intro w mg fa h Y G hmg0
    obtain ⟨K, KX, c⟩ := Y
    have hmg : mg ("law" : PySem.Str) = some (.ref fa) := by
      have e : (HandSHeadRun.topDef (PySem.W.OpenLaw.row PySem.Challenge.rw_boundedlevels_k45_held_additions).prog 16).name = ("law" : PySem.Str) := by kernel_rfl
      rw [← e]
      exact hmg0
    obtain ⟨fd, hb, hF2⟩ := Gn.facts (P := (PySem.Challenge.rw_boundedlevels_k45_held_additions).prog) (w := w) (cl := fun _ => 0) KX G hmg c
    exact ⟨K, fd, _, KX, hb, fun H a ns hl _ hS => law_sp hS (hF ns hl), hF2⟩
end Gn
namespace Gn
/-! plain: held additions in any order -/
def hl (lo hi : Int) : List Int → Int → Int
  | [], s => s
  | x :: xs, s => hl lo hi xs (if (if s + x > lo then s + x else lo) < hi then (if s + x > lo then s + x else lo) else hi)
def gI : List Int → Int
  | [] => 0
  | x :: xs => (if 0 < x then x else 0) + gI xs
def tI' : List Int → Int
  | [] => 0
  | x :: xs => (if x < 0 then -x else 0) + tI' xs
def topH (lo hi : Int) (xs : List Int) (s : Int) : Int := if (if s - tI' xs > lo then s - tI' xs else lo) + gI xs < hi then (if s - tI' xs > lo then s - tI' xs else lo) + gI xs else hi
def botH (lo hi : Int) (xs : List Int) (s : Int) : Int := if (if s + gI xs < hi then s + gI xs else hi) - tI' xs > lo then (if s + gI xs < hi then s + gI xs else hi) - tI' xs else lo
theorem gI_nn : ∀ xs, 0 ≤ gI xs
  | [] => Int.le_refl 0
  | x :: xs => by have := gI_nn xs; unfold gI; split <;> omega
theorem tI_nn : ∀ xs, 0 ≤ tI' xs
  | [] => Int.le_refl 0
  | x :: xs => by have := tI_nn xs; unfold tI'; split <;> omega
theorem hl_le {lo hi : Int} : ∀ (xs : List Int) (s : Int), lo ≤ s → s ≤ hi → hl lo hi xs s ≤ topH lo hi xs s
  | [], s, h1, h2 => by unfold hl topH gI tI'; split <;> split <;> omega
  | x :: xs, s, h1, h2 => by
    have ih := hl_le (lo := lo) (hi := hi) xs (if (if s + x > lo then s + x else lo) < hi then (if s + x > lo then s + x else lo) else hi) (by repeat' split <;> omega) (by repeat' split <;> omega)
    have a := gI_nn xs
    have b := tI_nn xs
    refine Int.le_trans ih ?_
    unfold topH
    rw [gI, tI']
    generalize gI xs = G at *
    generalize tI' xs = T at *
    clear ih
    repeat' split
    all_goals omega
theorem hl_ge {lo hi : Int} : ∀ (xs : List Int) (s : Int), lo ≤ s → s ≤ hi → botH lo hi xs s ≤ hl lo hi xs s
  | [], s, h1, h2 => by unfold hl botH gI tI'; split <;> split <;> omega
  | x :: xs, s, h1, h2 => by
    have ih := hl_ge (lo := lo) (hi := hi) xs (if (if s + x > lo then s + x else lo) < hi then (if s + x > lo then s + x else lo) else hi) (by repeat' split <;> omega) (by repeat' split <;> omega)
    have a := gI_nn xs
    have b := tI_nn xs
    refine Int.le_trans ?_ ih
    unfold botH
    rw [gI, tI']
    generalize gI xs = G at *
    generalize tI' xs = T at *
    clear ih
    repeat' split
    all_goals omega
theorem hl_app {lo hi : Int} : ∀ (xs ys : List Int) (s : Int), hl lo hi (xs ++ ys) s = hl lo hi ys (hl lo hi xs s)
  | [], ys, s => rfl
  | x :: xs, ys, s => by
    show hl lo hi (xs ++ ys) _ = _
    rw [hl_app xs ys]; rfl
theorem hl_neg {lo hi : Int} : ∀ (xs : List Int) (s : Int), lo ≤ s → s ≤ hi → (∀ x ∈ xs, x < 0) → hl lo hi xs s = (if s - tI' xs > lo then s - tI' xs else lo)
  | [], s, h1, h2, _ => by unfold hl tI'; split <;> omega
  | x :: xs, s, h1, h2, h => by
    have hx := h x (by simp)
    have ih := hl_neg (lo := lo) (hi := hi) xs (if (if s + x > lo then s + x else lo) < hi then (if s + x > lo then s + x else lo) else hi) (by repeat' split <;> omega) (by repeat' split <;> omega) (fun y hy => h y (by simp [hy]))
    show hl lo hi xs _ = _
    rw [ih, tI']
    have b := tI_nn xs
    generalize tI' xs = T at *
    clear ih h
    repeat' split
    all_goals omega
theorem hl_pos {lo hi : Int} : ∀ (xs : List Int) (s : Int), lo ≤ s → s ≤ hi → (∀ x ∈ xs, ¬ x < 0) → hl lo hi xs s = (if s + gI xs < hi then s + gI xs else hi)
  | [], s, h1, h2, _ => by unfold hl gI; split <;> omega
  | x :: xs, s, h1, h2, h => by
    have hx := h x (by simp)
    have ih := hl_pos (lo := lo) (hi := hi) xs (if (if s + x > lo then s + x else lo) < hi then (if s + x > lo then s + x else lo) else hi) (by repeat' split <;> omega) (by repeat' split <;> omega) (fun y hy => h y (by simp [hy]))
    show hl lo hi xs _ = _
    rw [ih, gI]
    have b := gI_nn xs
    generalize gI xs = T at *
    clear ih h
    repeat' split
    all_goals omega
theorem gI_perm {xs ys : List Int} (h : xs.Perm ys) : gI xs = gI ys := by
  induction h with
  | nil => rfl
  | cons x _ ih => rw [gI, gI, ih]
  | swap x y l => rw [gI, gI, gI, gI]; omega
  | trans _ _ a b => exact a.trans b
theorem tI_perm {xs ys : List Int} (h : xs.Perm ys) : tI' xs = tI' ys := by
  induction h with
  | nil => rfl
  | cons x _ ih => rw [tI', tI', ih]
  | swap x y l => rw [tI', tI', tI', tI']; omega
  | trans _ _ a b => exact a.trans b
theorem gI_app : ∀ xs ys, gI (xs ++ ys) = gI xs + gI ys
  | [], ys => by simp [gI]
  | x :: xs, ys => by
    show (if 0 < x then x else 0) + gI (xs ++ ys) = _
    rw [gI_app xs ys, gI]; omega
theorem tI_app : ∀ xs ys, tI' (xs ++ ys) = tI' xs + tI' ys
  | [], ys => by simp [tI']
  | x :: xs, ys => by
    show (if x < 0 then -x else 0) + tI' (xs ++ ys) = _
    rw [tI_app xs ys, tI']; omega
theorem gI_neg : ∀ xs, (∀ x ∈ xs, x < 0) → gI xs = 0
  | [], _ => rfl
  | x :: xs, h => by rw [gI, gI_neg xs fun y hy => h y (by simp [hy])]; have := h x (by simp); split <;> omega
theorem tI_pos : ∀ xs, (∀ x ∈ xs, ¬ x < 0) → tI' xs = 0
  | [], _ => rfl
  | x :: xs, h => by rw [tI', tI_pos xs fun y hy => h y (by simp [hy])]; have := h x (by simp); split <;> omega
theorem hl_top {lo hi : Int} {ns ps xs : List Int} {s : Int} (h1 : lo ≤ s) (h2 : s ≤ hi) (hn : ∀ x ∈ ns, x < 0) (hp : ∀ x ∈ ps, ¬ x < 0) (pm : (ns ++ ps).Perm xs) : hl lo hi (ns ++ ps) s = topH lo hi xs s := by
  rw [hl_app, hl_neg ns s h1 h2 hn]
  have b := tI_nn ns
  rw [hl_pos ps _ (by split <;> omega) (by split <;> omega) hp]
  unfold topH
  rw [← gI_perm pm, ← tI_perm pm, gI_app, tI_app, gI_neg ns hn, tI_pos ps hp]
  simp only [Int.zero_add, Int.add_zero]
theorem hl_bot {lo hi : Int} {ns ps xs : List Int} {s : Int} (h1 : lo ≤ s) (h2 : s ≤ hi) (hn : ∀ x ∈ ns, x < 0) (hp : ∀ x ∈ ps, ¬ x < 0) (pm : (ps ++ ns).Perm xs) : hl lo hi (ps ++ ns) s = botH lo hi xs s := by
  rw [hl_app, hl_pos ps s h1 h2 hp]
  have b := gI_nn ps
  rw [hl_neg ns _ (by split <;> omega) (by split <;> omega) hn]
  unfold botH
  rw [← gI_perm pm, ← tI_perm pm, gI_app, tI_app, gI_neg ns hn, tI_pos ps hp]
  simp only [Int.zero_add, Int.add_zero]
theorem topH_perm {lo hi : Int} {xs ys : List Int} {s : Int} (h : xs.Perm ys) : topH lo hi xs s = topH lo hi ys s := by unfold topH; rw [gI_perm h, tI_perm h]
theorem botH_perm {lo hi : Int} {xs ys : List Int} {s : Int} (h : xs.Perm ys) : botH lo hi xs s = botH lo hi ys s := by unfold botH; rw [gI_perm h, tI_perm h]
end Gn
namespace Gn
open Mi PySem PySem.Spec PyProof.Rows L2
structure Bx where
  a : Int
  b : Int
  c : Int
abbrev bx (β : Bx) : W := .lst [.fz (.int β.a), .fz (.int β.b), .fz (.int β.c)]
def Gd (m : Nat) (β : Bx) : Prop := 0 ≤ β.c ∧ β.c + (m : Int) < 2 ^ 60
theorem Gd.le {m n : Nat} {β : Bx} (h : Gd n β) (hm : m ≤ n) : Gd m β := ⟨h.1, by have := h.2; omega⟩
theorem take_ok {m : Nat} {β : Bx} {n : Int} (g : Gd (m + 1) β) (h0 : 0 < n) (h1 : n < 2 ^ 64) : ∃ (r : Int) (β' : Bx), 0 ≤ r ∧ r < n ∧ Gd m β' ∧ F_law_take [bx β, .fz (.int n)] = .ok (.fz (.int r), [bx β', .fz (.int n)]) := by
  obtain ⟨a, b, c⟩ := β
  obtain ⟨g1, g2⟩ := g
  simp only at g1 g2
  by_cases ha : 0 < a
  · refine ⟨a % n, ⟨a / n, b, c⟩, Int.emod_nonneg _ (by omega), Int.emod_lt_of_pos _ h0, ⟨g1, by simp only; omega⟩, ?_⟩
    simp only [F_law_take, m_law_take, Mi.v_bin6, Mi.v_bin5, Mi.v_bin4, Mi.v_bin3, Mi.v_bin2, Mi.v_bin1, Mi.v_bin, Mi.v_un3, Mi.v_un2, Mi.v_un1, Mi.v_un, Mi.v_test2, Mi.v_test1, Mi.v_test, Mi.v_cons3, Mi.v_cons2, Mi.v_cons1, Mi.v_cons, Mi.v_star4, Mi.v_star3, Mi.v_star2, Mi.v_star1, Mi.v_star, Mi.v_tup4, Mi.v_tup3, Mi.v_tup2, Mi.v_tup1, Mi.v_tup, Mi.v_lst4, Mi.v_lst3, Mi.v_lst2, Mi.v_lst1, Mi.v_lst, Mi.v_callB3, Mi.v_callB2, Mi.v_callB1, Mi.v_callB, Mi.v_andT1, Mi.v_andT, Mi.v_orT1, Mi.v_orT, Mi.v_notT1, Mi.v_notT, Mi.v_and2, Mi.v_and1, Mi.v_and, Mi.v_or2, Mi.v_or1, Mi.v_or, Mi.v_not2, Mi.v_not1, Mi.v_not, Mi.v_if1, Mi.v_if, Mi.v_orL1, Mi.v_orL, Mi.v_seq1, Mi.v_seq, Mi.v_ifS1, Mi.v_ifS, Mi.v_ret2, Mi.v_ret1, Mi.v_ret, Mi.v_drop1, Mi.v_drop, Mi.v_asg3, Mi.v_asg2, Mi.v_asg1, Mi.v_asg, Mi.v_gset1, Mi.v_gset, Mi.v_gsub5, Mi.v_gsub4, Mi.v_gsub3, Mi.v_gsub2, Mi.v_gsub1, Mi.v_gsub, Mi.v_gsc1, Mi.v_gsc, Mi.v_gsn1, Mi.v_gsn, Mi.v_for1, Mi.v_for, Mi.v_forc2, Mi.v_forc1, Mi.v_forc, Mi.v_lcc2, Mi.v_lcc1, Mi.v_lcc, Mi.v_lcT3, Mi.v_lcT2, Mi.v_lcT1, Mi.v_lcT, Mi.v_lc4, Mi.v_lc3, Mi.v_lc2, Mi.v_lc1, Mi.v_lc, Mi.v_def4, Mi.v_def3, Mi.v_def2, Mi.v_def1, Mi.v_def, Mi.v_callV4, Mi.v_callV3, Mi.v_callV2, Mi.v_callV1, Mi.v_callV, Mi.v_callP4, Mi.v_callP3, Mi.v_callP2, Mi.v_callP1, Mi.v_callP, Mi.v_callKV5, Mi.v_callKV4, Mi.v_callKV3, Mi.v_callKV2, Mi.v_callKV1, Mi.v_callKV, Mi.v_callKP5, Mi.v_callKP4, Mi.v_callKP3, Mi.v_callKP2, Mi.v_callKP1, Mi.v_callKP, Mi.v_callIO5, Mi.v_callIO4, Mi.v_callIO3, Mi.v_callIO2, Mi.v_callIO1, Mi.v_callIO, Mi.v_app7, Mi.v_app6, Mi.v_app5, Mi.v_app4, Mi.v_app3, Mi.v_app2, Mi.v_app1, Mi.v_app, Mi.v_sl6, Mi.v_sl5, Mi.v_sl4, Mi.v_sl3, Mi.v_sl2, Mi.v_sl1, Mi.v_sl, Mi.v_oS2, Mi.v_oS1, Mi.v_oS, Mi.v_iseq3, Mi.v_iseq2, Mi.v_iseq1, Mi.v_iseq, Mi.v_ienum3, Mi.v_ienum2, Mi.v_ienum1, Mi.v_ienum, Mi.v_irg3, Mi.v_irg2, Mi.v_irg1, Mi.v_irg, Mi.v_rgTup3, Mi.v_rgTup2, Mi.v_rgTup1, Mi.v_rgTup, Mi.v_argsc2, Mi.v_argsc1, Mi.v_argsc, Mi.v_putc1, Mi.v_putc, Mi.v_takesc2, Mi.v_takesc1, Mi.v_takesc, Mi.v_contsc2, Mi.v_contsc1, Mi.v_contsc, Mi.v_backsI2, Mi.v_backsI1, Mi.v_backsI, Mi.v_ok, Mi.v_c, Mi.v_nil, Mi.v_next, Mi.v_yes, Mi.v_oN, Mi.v_gtup, Mi.v_var, Mi.v_for0, Mi.v_lc0, Mi.v_args0, Mi.v_put0, Mi.v_takes0, Mi.v_conts0, Mi.v_backs0, Mi.w_add, Mi.w_sub, Mi.w_neg, Mi.w_lt, Mi.w_le, Mi.w_gt, Mi.w_ge, Mi.w_intI, Mi.w_intB, Mi.w_abs, Mi.w_max, Mi.w_min, Mi.w_ix0, Mi.w_ix1, Mi.w_ix2, Mi.w_i0, Mi.w_i1, Mi.w_i2, Mi.pend, Mi.cont, Mi.take, Mi.frz, Mi.frzs, Mi.getP, Mi.setP, Mi.Res.of, Mi.boolOf, Mi.isPl, Mi.mutS, Mi.mutA, Mi.mutP, Mi.intOf, Mi.move, Mi.retOf, Mi.backs1, Mi.put1, Mi.fzT, Mi.ioOf, Mi.chk, Mi.early, Mi.shut, Mi.isTmp, Mi.flatB, Mi.scal, List.map_cons, List.map_nil, List.cons_append, List.nil_append, List.append_nil, List.replicate_succ, List.replicate_zero, List.replicate, List.length_cons, List.length_nil, List.getElem?_cons_zero, List.getElem?_cons_succ, List.set_cons_zero, List.set_cons_succ, List.all_cons, List.all_nil, List.contains_cons, List.contains_nil, List.elem_cons, List.elem_nil, List.isEmpty_nil, List.isEmpty_cons, Nat.reduceAdd, Nat.reduceSub, Nat.reduceBEq, Nat.reduceLT, Nat.reduceLeDiff, Nat.reduceEqDiff, decide_true, decide_false, Bool.and_true, Bool.true_and, Bool.or_true, Bool.true_or, Bool.or_false, Bool.false_or, Bool.and_false, Bool.false_and, Bool.not_true, Bool.not_false, Bool.false_eq_true, reduceIte, ite_true, ite_false, beq_self_eq_true, Nat.zero_add, reduceCtorEq, and_self, true_and, and_true, ge_iff_le, gt_iff_lt, Nat.succ_eq_add_one, Nat.add_one_sub_one, Nat.zero_lt_succ, Nat.lt_add_left_iff_pos, Mi.wipeE, Mi.restE, Mi.pick, List.filterMap_cons, List.filterMap_nil, ha, w_mod h0, w_div h0 h1]
  · have e1 : ∀ x : Int, fMul (.fz (.int 48271)) (.fz (.int x)) = .ok (.fz (.int (48271 * x))) := fun x => w_mulL (by decide)
    have e2 : ∀ x : Int, fMul (.fz (.int x)) (.fz (.int (39373 + (c + 1)))) = .ok (.fz (.int (x * (39373 + (c + 1))))) := fun x => w_mulR (by omega)
    have e3 : ∀ x y : Int, fMul (.fz (.int x)) (.fz (.int (y % 40009 + 7))) = .ok (.fz (.int (x * (y % 40009 + 7)))) := fun x y => w_mulR (by omega)
    have e4 : ∀ x : Int, fMul (.fz (.int x)) (.fz (.int 48271)) = .ok (.fz (.int (x * 48271))) := fun x => w_mulR (by decide)
    refine ⟨(((((b + 48271 * (c + 1)) * (39373 + (c + 1))) % 2147483647 + (c + 1) + b / 1000003) * ((((b + 48271 * (c + 1)) * (39373 + (c + 1))) % 2147483647) % 40009 + 7) % 2147483629) * 48271 + ((b + 48271 * (c + 1)) * (39373 + (c + 1))) % 2147483647) % 2147483587 / 64 % n, ⟨a, b, c + 1⟩, Int.emod_nonneg _ (by omega), Int.emod_lt_of_pos _ h0, ⟨by simp only; omega, by simp only; omega⟩, ?_⟩
    have m1 : ∀ x : Int, fMod (.fz (.int x)) (.fz (.int 2147483647)) = .ok (.fz (.int (x % 2147483647))) := fun x => w_mod (by decide)
    have m2 : ∀ x : Int, fMod (.fz (.int x)) (.fz (.int 40009)) = .ok (.fz (.int (x % 40009))) := fun x => w_mod (by decide)
    have m3 : ∀ x : Int, fMod (.fz (.int x)) (.fz (.int 2147483629)) = .ok (.fz (.int (x % 2147483629))) := fun x => w_mod (by decide)
    have m4 : ∀ x : Int, fMod (.fz (.int x)) (.fz (.int 2147483587)) = .ok (.fz (.int (x % 2147483587))) := fun x => w_mod (by decide)
    have d1 : ∀ x : Int, fDiv (.fz (.int x)) (.fz (.int 1000003)) = .ok (.fz (.int (x / 1000003))) := fun x => w_div (by decide) (by decide)
    have d2 : ∀ x : Int, fDiv (.fz (.int x)) (.fz (.int 64)) = .ok (.fz (.int (x / 64))) := fun x => w_div (by decide) (by decide)
    simp only [F_law_take, m_law_take, Mi.v_bin6, Mi.v_bin5, Mi.v_bin4, Mi.v_bin3, Mi.v_bin2, Mi.v_bin1, Mi.v_bin, Mi.v_un3, Mi.v_un2, Mi.v_un1, Mi.v_un, Mi.v_test2, Mi.v_test1, Mi.v_test, Mi.v_cons3, Mi.v_cons2, Mi.v_cons1, Mi.v_cons, Mi.v_star4, Mi.v_star3, Mi.v_star2, Mi.v_star1, Mi.v_star, Mi.v_tup4, Mi.v_tup3, Mi.v_tup2, Mi.v_tup1, Mi.v_tup, Mi.v_lst4, Mi.v_lst3, Mi.v_lst2, Mi.v_lst1, Mi.v_lst, Mi.v_callB3, Mi.v_callB2, Mi.v_callB1, Mi.v_callB, Mi.v_andT1, Mi.v_andT, Mi.v_orT1, Mi.v_orT, Mi.v_notT1, Mi.v_notT, Mi.v_and2, Mi.v_and1, Mi.v_and, Mi.v_or2, Mi.v_or1, Mi.v_or, Mi.v_not2, Mi.v_not1, Mi.v_not, Mi.v_if1, Mi.v_if, Mi.v_orL1, Mi.v_orL, Mi.v_seq1, Mi.v_seq, Mi.v_ifS1, Mi.v_ifS, Mi.v_ret2, Mi.v_ret1, Mi.v_ret, Mi.v_drop1, Mi.v_drop, Mi.v_asg3, Mi.v_asg2, Mi.v_asg1, Mi.v_asg, Mi.v_gset1, Mi.v_gset, Mi.v_gsub5, Mi.v_gsub4, Mi.v_gsub3, Mi.v_gsub2, Mi.v_gsub1, Mi.v_gsub, Mi.v_gsc1, Mi.v_gsc, Mi.v_gsn1, Mi.v_gsn, Mi.v_for1, Mi.v_for, Mi.v_forc2, Mi.v_forc1, Mi.v_forc, Mi.v_lcc2, Mi.v_lcc1, Mi.v_lcc, Mi.v_lcT3, Mi.v_lcT2, Mi.v_lcT1, Mi.v_lcT, Mi.v_lc4, Mi.v_lc3, Mi.v_lc2, Mi.v_lc1, Mi.v_lc, Mi.v_def4, Mi.v_def3, Mi.v_def2, Mi.v_def1, Mi.v_def, Mi.v_callV4, Mi.v_callV3, Mi.v_callV2, Mi.v_callV1, Mi.v_callV, Mi.v_callP4, Mi.v_callP3, Mi.v_callP2, Mi.v_callP1, Mi.v_callP, Mi.v_callKV5, Mi.v_callKV4, Mi.v_callKV3, Mi.v_callKV2, Mi.v_callKV1, Mi.v_callKV, Mi.v_callKP5, Mi.v_callKP4, Mi.v_callKP3, Mi.v_callKP2, Mi.v_callKP1, Mi.v_callKP, Mi.v_callIO5, Mi.v_callIO4, Mi.v_callIO3, Mi.v_callIO2, Mi.v_callIO1, Mi.v_callIO, Mi.v_app7, Mi.v_app6, Mi.v_app5, Mi.v_app4, Mi.v_app3, Mi.v_app2, Mi.v_app1, Mi.v_app, Mi.v_sl6, Mi.v_sl5, Mi.v_sl4, Mi.v_sl3, Mi.v_sl2, Mi.v_sl1, Mi.v_sl, Mi.v_oS2, Mi.v_oS1, Mi.v_oS, Mi.v_iseq3, Mi.v_iseq2, Mi.v_iseq1, Mi.v_iseq, Mi.v_ienum3, Mi.v_ienum2, Mi.v_ienum1, Mi.v_ienum, Mi.v_irg3, Mi.v_irg2, Mi.v_irg1, Mi.v_irg, Mi.v_rgTup3, Mi.v_rgTup2, Mi.v_rgTup1, Mi.v_rgTup, Mi.v_argsc2, Mi.v_argsc1, Mi.v_argsc, Mi.v_putc1, Mi.v_putc, Mi.v_takesc2, Mi.v_takesc1, Mi.v_takesc, Mi.v_contsc2, Mi.v_contsc1, Mi.v_contsc, Mi.v_backsI2, Mi.v_backsI1, Mi.v_backsI, Mi.v_ok, Mi.v_c, Mi.v_nil, Mi.v_next, Mi.v_yes, Mi.v_oN, Mi.v_gtup, Mi.v_var, Mi.v_for0, Mi.v_lc0, Mi.v_args0, Mi.v_put0, Mi.v_takes0, Mi.v_conts0, Mi.v_backs0, Mi.w_add, Mi.w_sub, Mi.w_neg, Mi.w_lt, Mi.w_le, Mi.w_gt, Mi.w_ge, Mi.w_intI, Mi.w_intB, Mi.w_abs, Mi.w_max, Mi.w_min, Mi.w_ix0, Mi.w_ix1, Mi.w_ix2, Mi.w_i0, Mi.w_i1, Mi.w_i2, Mi.pend, Mi.cont, Mi.take, Mi.frz, Mi.frzs, Mi.getP, Mi.setP, Mi.Res.of, Mi.boolOf, Mi.isPl, Mi.mutS, Mi.mutA, Mi.mutP, Mi.intOf, Mi.move, Mi.retOf, Mi.backs1, Mi.put1, Mi.fzT, Mi.ioOf, Mi.chk, Mi.early, Mi.shut, Mi.isTmp, Mi.flatB, Mi.scal, List.map_cons, List.map_nil, List.cons_append, List.nil_append, List.append_nil, List.replicate_succ, List.replicate_zero, List.replicate, List.length_cons, List.length_nil, List.getElem?_cons_zero, List.getElem?_cons_succ, List.set_cons_zero, List.set_cons_succ, List.all_cons, List.all_nil, List.contains_cons, List.contains_nil, List.elem_cons, List.elem_nil, List.isEmpty_nil, List.isEmpty_cons, Nat.reduceAdd, Nat.reduceSub, Nat.reduceBEq, Nat.reduceLT, Nat.reduceLeDiff, Nat.reduceEqDiff, decide_true, decide_false, Bool.and_true, Bool.true_and, Bool.or_true, Bool.true_or, Bool.or_false, Bool.false_or, Bool.and_false, Bool.false_and, Bool.not_true, Bool.not_false, Bool.false_eq_true, reduceIte, ite_true, ite_false, beq_self_eq_true, Nat.zero_add, reduceCtorEq, and_self, true_and, and_true, ge_iff_le, gt_iff_lt, Nat.succ_eq_add_one, Nat.add_one_sub_one, Nat.zero_lt_succ, Nat.lt_add_left_iff_pos, Mi.wipeE, Mi.restE, Mi.pick, List.filterMap_cons, List.filterMap_nil, ha, w_mod h0, e1, e2, e3, e4, m1, m2, m3, m4, d1, d2]
end Gn
namespace Gn
open Mi PySem PySem.Spec PyProof.Rows L2
abbrev cw (cs : List Int) : W := .lst (cs.map fun n => W.fz (.int n))
theorem unfz_cw : ∀ cs : List Int, unfz (cs.map fun n => W.fz (.int n)) = some (cs.map D.int)
  | [] => rfl
  | n :: cs => by
    show (match unfz (cs.map fun n => W.fz (.int n)) with | some ds => some (D.int n :: ds) | none => none) = _
    rw [unfz_cw cs]; rfl
theorem frzs_cw : ∀ cs : List Int, frzs (cs.map fun n => W.fz (.int n)) = cs.map D.int
  | [] => rfl
  | n :: cs => by
    show D.int n :: frzs (cs.map fun n => W.fz (.int n)) = _
    rw [frzs_cw cs]; rfl
theorem ixN_pos {n : Nat} {k : Int} (h0 : 0 ≤ k) (h1 : k < n) : ixN n k = some k.toNat := by unfold ixN; rw [if_pos h0, if_pos h1]
theorem ixcw {cs : List Int} {k v : Int} {j : Nat} (hk : ixN cs.length k = some j) (hv : cs[j]? = some v) : fIdx (cw cs) (.fz (.int k)) = .ok (.fz (.int v)) :=
  w_ix (ds := cs.map D.int) (unfz_cw cs) (by rw [List.length_map]; exact hk) (by rw [List.getElem?_map, hv]; rfl)
theorem ixfl {cs : List Int} {k v : Int} {j : Nat} (hk : ixN cs.length k = some j) (hv : cs[j]? = some v) : fIdx (.fz (.lst (cs.map D.int))) (.fz (.int k)) = .ok (.fz (.int v)) :=
  w_ix (ds := cs.map D.int) rfl (by rw [List.length_map]; exact hk) (by rw [List.getElem?_map, hv]; rfl)
theorem box_ok {cs : List Int} {k : Int} (h0 : 0 ≤ k) (h1 : k < cs.length) : ∃ β : Bx, β.c = 0 ∧ F_law_box [.fz (.lst (cs.map D.int)), .fz (.int k)] = .ok (bx β, [.fz (.lst (cs.map D.int)), .fz (.int k)]) := by
  obtain ⟨v, hv⟩ : ∃ v, cs[k.toNat]? = some v := ⟨cs[k.toNat]'(by omega), List.getElem?_eq_getElem _⟩
  have i1 := ixfl (ixN_pos h0 h1) hv
  have l1 : fLen [.fz (.lst (cs.map D.int))] = .ok (.fz (.int cs.length)) := by show Res.ok (W.fz (.int (cs.map D.int).length)) = _; rw [List.length_map]
  have p1 : fPow (.fz (.int 10)) (.fz (.int 18)) = .ok (.fz (.int 1000000000000000000)) := by kernel_rfl
  have m1 : ∀ x : Int, ∀ b : Bool, fMul (.fz (.int x)) (.fz (.int (if b then 1 else 0))) = .ok (.fz (.int (x * (if b then 1 else 0)))) := fun x b => w_mulR (by cases b <;> decide)
  have m2 : ∀ x : Int, fMod (.fz (.int x)) (.fz (.int 2305843009213693951)) = .ok (.fz (.int (x % 2305843009213693951))) := fun x => w_mod (by decide)
  have m3 : fMul (.fz (.int 39373)) (.fz (.int k)) = .ok (.fz (.int (39373 * k))) := w_mulL (by decide)
  refine ⟨⟨(if v < 0 then -v else v) * (if decide (1000000000000000000 ≤ (if v < 0 then -v else v)) then 1 else 0), v % 2305843009213693951 + 39373 * k + 62345, 0⟩, rfl, ?_⟩
  simp only [F_law_box, m_law_box, Mi.v_bin6, Mi.v_bin5, Mi.v_bin4, Mi.v_bin3, Mi.v_bin2, Mi.v_bin1, Mi.v_bin, Mi.v_un3, Mi.v_un2, Mi.v_un1, Mi.v_un, Mi.v_test2, Mi.v_test1, Mi.v_test, Mi.v_cons3, Mi.v_cons2, Mi.v_cons1, Mi.v_cons, Mi.v_star4, Mi.v_star3, Mi.v_star2, Mi.v_star1, Mi.v_star, Mi.v_tup4, Mi.v_tup3, Mi.v_tup2, Mi.v_tup1, Mi.v_tup, Mi.v_lst4, Mi.v_lst3, Mi.v_lst2, Mi.v_lst1, Mi.v_lst, Mi.v_callB3, Mi.v_callB2, Mi.v_callB1, Mi.v_callB, Mi.v_andT1, Mi.v_andT, Mi.v_orT1, Mi.v_orT, Mi.v_notT1, Mi.v_notT, Mi.v_and2, Mi.v_and1, Mi.v_and, Mi.v_or2, Mi.v_or1, Mi.v_or, Mi.v_not2, Mi.v_not1, Mi.v_not, Mi.v_if1, Mi.v_if, Mi.v_orL1, Mi.v_orL, Mi.v_seq1, Mi.v_seq, Mi.v_ifS1, Mi.v_ifS, Mi.v_ret2, Mi.v_ret1, Mi.v_ret, Mi.v_drop1, Mi.v_drop, Mi.v_asg3, Mi.v_asg2, Mi.v_asg1, Mi.v_asg, Mi.v_gset1, Mi.v_gset, Mi.v_gsub5, Mi.v_gsub4, Mi.v_gsub3, Mi.v_gsub2, Mi.v_gsub1, Mi.v_gsub, Mi.v_gsc1, Mi.v_gsc, Mi.v_gsn1, Mi.v_gsn, Mi.v_for1, Mi.v_for, Mi.v_forc2, Mi.v_forc1, Mi.v_forc, Mi.v_lcc2, Mi.v_lcc1, Mi.v_lcc, Mi.v_lcT3, Mi.v_lcT2, Mi.v_lcT1, Mi.v_lcT, Mi.v_lc4, Mi.v_lc3, Mi.v_lc2, Mi.v_lc1, Mi.v_lc, Mi.v_def4, Mi.v_def3, Mi.v_def2, Mi.v_def1, Mi.v_def, Mi.v_callV4, Mi.v_callV3, Mi.v_callV2, Mi.v_callV1, Mi.v_callV, Mi.v_callP4, Mi.v_callP3, Mi.v_callP2, Mi.v_callP1, Mi.v_callP, Mi.v_callKV5, Mi.v_callKV4, Mi.v_callKV3, Mi.v_callKV2, Mi.v_callKV1, Mi.v_callKV, Mi.v_callKP5, Mi.v_callKP4, Mi.v_callKP3, Mi.v_callKP2, Mi.v_callKP1, Mi.v_callKP, Mi.v_callIO5, Mi.v_callIO4, Mi.v_callIO3, Mi.v_callIO2, Mi.v_callIO1, Mi.v_callIO, Mi.v_app7, Mi.v_app6, Mi.v_app5, Mi.v_app4, Mi.v_app3, Mi.v_app2, Mi.v_app1, Mi.v_app, Mi.v_sl6, Mi.v_sl5, Mi.v_sl4, Mi.v_sl3, Mi.v_sl2, Mi.v_sl1, Mi.v_sl, Mi.v_oS2, Mi.v_oS1, Mi.v_oS, Mi.v_iseq3, Mi.v_iseq2, Mi.v_iseq1, Mi.v_iseq, Mi.v_ienum3, Mi.v_ienum2, Mi.v_ienum1, Mi.v_ienum, Mi.v_irg3, Mi.v_irg2, Mi.v_irg1, Mi.v_irg, Mi.v_rgTup3, Mi.v_rgTup2, Mi.v_rgTup1, Mi.v_rgTup, Mi.v_argsc2, Mi.v_argsc1, Mi.v_argsc, Mi.v_putc1, Mi.v_putc, Mi.v_takesc2, Mi.v_takesc1, Mi.v_takesc, Mi.v_contsc2, Mi.v_contsc1, Mi.v_contsc, Mi.v_backsI2, Mi.v_backsI1, Mi.v_backsI, Mi.v_ok, Mi.v_c, Mi.v_nil, Mi.v_next, Mi.v_yes, Mi.v_oN, Mi.v_gtup, Mi.v_var, Mi.v_for0, Mi.v_lc0, Mi.v_args0, Mi.v_put0, Mi.v_takes0, Mi.v_conts0, Mi.v_backs0, Mi.w_add, Mi.w_sub, Mi.w_neg, Mi.w_lt, Mi.w_le, Mi.w_gt, Mi.w_ge, Mi.w_intI, Mi.w_intB, Mi.w_abs, Mi.w_max, Mi.w_min, Mi.w_ix0, Mi.w_ix1, Mi.w_ix2, Mi.w_i0, Mi.w_i1, Mi.w_i2, Mi.pend, Mi.cont, Mi.take, Mi.frz, Mi.frzs, Mi.getP, Mi.setP, Mi.Res.of, Mi.boolOf, Mi.isPl, Mi.mutS, Mi.mutA, Mi.mutP, Mi.intOf, Mi.move, Mi.retOf, Mi.backs1, Mi.put1, Mi.fzT, Mi.ioOf, Mi.chk, Mi.early, Mi.shut, Mi.isTmp, Mi.flatB, Mi.scal, List.map_cons, List.map_nil, List.cons_append, List.nil_append, List.append_nil, List.replicate_succ, List.replicate_zero, List.replicate, List.length_cons, List.length_nil, List.getElem?_cons_zero, List.getElem?_cons_succ, List.set_cons_zero, List.set_cons_succ, List.all_cons, List.all_nil, List.contains_cons, List.contains_nil, List.elem_cons, List.elem_nil, List.isEmpty_nil, List.isEmpty_cons, Nat.reduceAdd, Nat.reduceSub, Nat.reduceBEq, Nat.reduceLT, Nat.reduceLeDiff, Nat.reduceEqDiff, decide_true, decide_false, Bool.and_true, Bool.true_and, Bool.or_true, Bool.true_or, Bool.or_false, Bool.false_or, Bool.and_false, Bool.false_and, Bool.not_true, Bool.not_false, Bool.false_eq_true, reduceIte, ite_true, ite_false, beq_self_eq_true, Nat.zero_add, reduceCtorEq, and_self, true_and, and_true, ge_iff_le, gt_iff_lt, Nat.succ_eq_add_one, Nat.add_one_sub_one, Nat.zero_lt_succ, Nat.lt_add_left_iff_pos, Mi.wipeE, Mi.restE, Mi.pick, List.filterMap_cons, List.filterMap_nil, l1, h1, i1, p1, m1, m2, m3]
theorem cw_set (cs : List Int) (j : Nat) (v : Int) : cw (cs.set j v) = .lst ((cs.map fun n => W.fz (.int n)).set j (.fz (.int v))) := by unfold cw; rw [List.map_set]
/-! ### the cells -/
def cut (ns : List Int) (lo hi : Option Int) : List Int := (ns.drop (HT.sIx ns.length 0 lo)).take (HT.sIx ns.length ns.length hi - HT.sIx ns.length 0 lo)
theorem cut_eq (ns : List Int) (lo hi : Option Int)   : Mi.cutD (ns.map D.int) lo hi = (cut ns lo hi).map D.int := by
  unfold Mi.cutD cut
  rw [List.length_map, List.map_take, List.map_drop]
theorem enum_map : ∀ (i : Nat) (vs : List Int), enumD i (vs.map D.int) = vs.mapIdx fun j v => D.tup [.int ((i + j : Nat)), .int v] := fun i vs => by
  induction vs generalizing i with
  | nil => rfl
  | cons v vs ih =>
    rw [List.mapIdx_cons, List.map_cons]
    show D.tup [.int (i : Nat), .int v] :: enumD (i + 1) (vs.map D.int) = _
    rw [ih]
    simp [Nat.add_comm, Nat.add_left_comm]
abbrev stp : CS := cSeq (cAsg (gSet 5) (cBin fMod true (cCallB fInt (cCons true (cVar 3) cNil)) (cVar 1)))
  (cAsg (Mi.gSub true (cVar 2) (cVar 5)) (cBin fAdd true (cBin fIdx true (cVar 2) (cVar 5)) (cBin fMul true (cVar 4) (cBin fAdd true (cVar 3) (cC (.int 2))))))
abbrev tgt : CG := gTupG (gsCons (gSet 3) (gsCons (gSet 4) gsNil))
theorem loop_ok {s : W} {t : Nat} (ht : 0 < t) (ht2 : t < 1000) : ∀ (vs : List Int) (i : Nat) (cs : List Int) (o3 o4 o5 : Option W), i + vs.length < 1000 → cs.length = t → ∃ cs' o3' o4' o5', cs'.length = t ∧
    forL tgt stp (enumD i (vs.map D.int)) [some s, some (.fz (.int t)), some (cw cs), o3, o4, o5] = .ok (.nx, [some s, some (.fz (.int t)), some (cw cs'), o3', o4', o5'])
  | [], i, cs, o3, o4, o5, _, hc => ⟨cs, o3, o4, o5, hc, rfl⟩
  | v :: vs, i, cs, o3, o4, o5, hi, hc => by
    have hi' : i + 1 + vs.length < 1000 := by simp only [List.length_cons] at hi; omega
    have tp : (0 : Int) < (t : Int) := by omega
    have k0 : 0 ≤ ((i : Nat) : Int) % (t : Int) := Int.emod_nonneg _ (by omega)
    have k1 : ((i : Nat) : Int) % (t : Int) < cs.length := by rw [hc]; exact Int.emod_lt_of_pos _ tp
    have hj := ixN_pos k0 k1
    obtain ⟨x, hx⟩ : ∃ x, cs[(((i : Nat) : Int) % (t : Int)).toNat]? = some x := ⟨cs[(((i : Nat) : Int) % (t : Int)).toNat]'(by omega), List.getElem?_eq_getElem _⟩
    have i1 := ixcw hj hx
    have m1 : fMul (.fz (.int v)) (.fz (.int ((i : Nat) + 2))) = .ok (.fz (.int (v * ((i : Nat) + 2)))) := w_mulR (by simp only [List.length_cons] at hi; omega)
    have md : fMod (.fz (.int ((i : Nat) : Int))) (.fz (.int (t : Int))) = .ok (.fz (.int (((i : Nat) : Int) % (t : Int)))) := w_mod tp
    obtain ⟨cs', o3', o4', o5', hl, e⟩ := loop_ok (s := s) ht ht2 vs (i + 1) (cs.set (((i : Nat) : Int) % (t : Int)).toNat (x + v * ((i : Nat) + 2))) (some (.fz (.int (i : Nat)))) (some (.fz (.int v))) (some (.fz (.int (((i : Nat) : Int) % (t : Int))))) hi' (by rw [List.length_set]; exact hc)
    refine ⟨cs', o3', o4', o5', hl, ?_⟩
    rw [← e]
    have hen : enumD i (List.map D.int (v :: vs)) = .tup [.int (i : Nat), .int v] :: enumD (i + 1) (vs.map D.int) := rfl
    rw [hen]
    simp only [Mi.v_bin6, Mi.v_bin5, Mi.v_bin4, Mi.v_bin3, Mi.v_bin2, Mi.v_bin1, Mi.v_bin, Mi.v_un3, Mi.v_un2, Mi.v_un1, Mi.v_un, Mi.v_test2, Mi.v_test1, Mi.v_test, Mi.v_cons3, Mi.v_cons2, Mi.v_cons1, Mi.v_cons, Mi.v_star4, Mi.v_star3, Mi.v_star2, Mi.v_star1, Mi.v_star, Mi.v_tup4, Mi.v_tup3, Mi.v_tup2, Mi.v_tup1, Mi.v_tup, Mi.v_lst4, Mi.v_lst3, Mi.v_lst2, Mi.v_lst1, Mi.v_lst, Mi.v_callB3, Mi.v_callB2, Mi.v_callB1, Mi.v_callB, Mi.v_andT1, Mi.v_andT, Mi.v_orT1, Mi.v_orT, Mi.v_notT1, Mi.v_notT, Mi.v_and2, Mi.v_and1, Mi.v_and, Mi.v_or2, Mi.v_or1, Mi.v_or, Mi.v_not2, Mi.v_not1, Mi.v_not, Mi.v_if1, Mi.v_if, Mi.v_orL1, Mi.v_orL, Mi.v_seq1, Mi.v_seq, Mi.v_ifS1, Mi.v_ifS, Mi.v_ret2, Mi.v_ret1, Mi.v_ret, Mi.v_drop1, Mi.v_drop, Mi.v_asg3, Mi.v_asg2, Mi.v_asg1, Mi.v_asg, Mi.v_gset1, Mi.v_gset, Mi.v_gsub5, Mi.v_gsub4, Mi.v_gsub3, Mi.v_gsub2, Mi.v_gsub1, Mi.v_gsub, Mi.v_gsc1, Mi.v_gsc, Mi.v_gsn1, Mi.v_gsn, Mi.v_for1, Mi.v_for, Mi.v_forc2, Mi.v_forc1, Mi.v_forc, Mi.v_lcc2, Mi.v_lcc1, Mi.v_lcc, Mi.v_lcT3, Mi.v_lcT2, Mi.v_lcT1, Mi.v_lcT, Mi.v_lc4, Mi.v_lc3, Mi.v_lc2, Mi.v_lc1, Mi.v_lc, Mi.v_def4, Mi.v_def3, Mi.v_def2, Mi.v_def1, Mi.v_def, Mi.v_callV4, Mi.v_callV3, Mi.v_callV2, Mi.v_callV1, Mi.v_callV, Mi.v_callP4, Mi.v_callP3, Mi.v_callP2, Mi.v_callP1, Mi.v_callP, Mi.v_callKV5, Mi.v_callKV4, Mi.v_callKV3, Mi.v_callKV2, Mi.v_callKV1, Mi.v_callKV, Mi.v_callKP5, Mi.v_callKP4, Mi.v_callKP3, Mi.v_callKP2, Mi.v_callKP1, Mi.v_callKP, Mi.v_callIO5, Mi.v_callIO4, Mi.v_callIO3, Mi.v_callIO2, Mi.v_callIO1, Mi.v_callIO, Mi.v_app7, Mi.v_app6, Mi.v_app5, Mi.v_app4, Mi.v_app3, Mi.v_app2, Mi.v_app1, Mi.v_app, Mi.v_sl6, Mi.v_sl5, Mi.v_sl4, Mi.v_sl3, Mi.v_sl2, Mi.v_sl1, Mi.v_sl, Mi.v_oS2, Mi.v_oS1, Mi.v_oS, Mi.v_iseq3, Mi.v_iseq2, Mi.v_iseq1, Mi.v_iseq, Mi.v_ienum3, Mi.v_ienum2, Mi.v_ienum1, Mi.v_ienum, Mi.v_irg3, Mi.v_irg2, Mi.v_irg1, Mi.v_irg, Mi.v_rgTup3, Mi.v_rgTup2, Mi.v_rgTup1, Mi.v_rgTup, Mi.v_argsc2, Mi.v_argsc1, Mi.v_argsc, Mi.v_putc1, Mi.v_putc, Mi.v_takesc2, Mi.v_takesc1, Mi.v_takesc, Mi.v_contsc2, Mi.v_contsc1, Mi.v_contsc, Mi.v_backsI2, Mi.v_backsI1, Mi.v_backsI, Mi.v_ok, Mi.v_c, Mi.v_nil, Mi.v_next, Mi.v_yes, Mi.v_oN, Mi.v_gtup, Mi.v_var, Mi.v_for0, Mi.v_lc0, Mi.v_args0, Mi.v_put0, Mi.v_takes0, Mi.v_conts0, Mi.v_backs0, Mi.w_add, Mi.w_sub, Mi.w_neg, Mi.w_lt, Mi.w_le, Mi.w_gt, Mi.w_ge, Mi.w_intI, Mi.w_intB, Mi.w_abs, Mi.w_max, Mi.w_min, Mi.w_ix0, Mi.w_ix1, Mi.w_ix2, Mi.w_i0, Mi.w_i1, Mi.w_i2, Mi.pend, Mi.cont, Mi.take, Mi.frz, Mi.frzs, Mi.getP, Mi.setP, Mi.Res.of, Mi.boolOf, Mi.isPl, Mi.mutS, Mi.mutA, Mi.mutP, Mi.intOf, Mi.move, Mi.retOf, Mi.backs1, Mi.put1, Mi.fzT, Mi.ioOf, Mi.chk, Mi.early, Mi.shut, Mi.isTmp, Mi.flatB, Mi.scal, List.map_cons, List.map_nil, List.cons_append, List.nil_append, List.append_nil, List.replicate_succ, List.replicate_zero, List.replicate, List.length_cons, List.length_nil, List.getElem?_cons_zero, List.getElem?_cons_succ, List.set_cons_zero, List.set_cons_succ, List.all_cons, List.all_nil, List.contains_cons, List.contains_nil, List.elem_cons, List.elem_nil, List.isEmpty_nil, List.isEmpty_cons, Nat.reduceAdd, Nat.reduceSub, Nat.reduceBEq, Nat.reduceLT, Nat.reduceLeDiff, Nat.reduceEqDiff, decide_true, decide_false, Bool.and_true, Bool.true_and, Bool.or_true, Bool.true_or, Bool.or_false, Bool.false_or, Bool.and_false, Bool.false_and, Bool.not_true, Bool.not_false, Bool.false_eq_true, reduceIte, ite_true, ite_false, beq_self_eq_true, Nat.zero_add, reduceCtorEq, and_self, true_and, and_true, ge_iff_le, gt_iff_lt, Nat.succ_eq_add_one, Nat.add_one_sub_one, Nat.zero_lt_succ, Nat.lt_add_left_iff_pos, Mi.wipeE, Mi.restE, Mi.pick, List.filterMap_cons, List.filterMap_nil, md, i1, m1, List.length_map, hj]
    rw [cw_set]
theorem sl_scr (ns : List Int) (lo hi : Option Int) : fSl (.fz (.scr (ns.map D.int))) lo hi = .ok (cw (cut ns lo hi)) := by
  show Res.ok (W.lst ((Mi.cutD (ns.map D.int) lo hi).map W.fz)) = _
  rw [cut_eq, List.map_map]; rfl
theorem lst_cw (cs : List Int) : fList [cw cs] = .ok (cw cs) := by
  show (match unfz (cs.map fun n => W.fz (.int n)) with | some ds => Res.ok (W.lst (ds.map W.fz)) | none => .err) = _
  rw [unfz_cw]; show Res.ok (W.lst ((cs.map D.int).map W.fz)) = _; rw [List.map_map]; rfl
theorem lst_fl0 : fList [.fz (.lst [])] = .ok (.lst []) := rfl
theorem lst_fl1 (c : Int) (cs : List Int) : fList [.fz (.lst (D.int c :: cs.map D.int))] = .ok (cw (c :: cs)) := by
  show Res.ok (W.lst ((D.int c :: cs.map D.int).map W.fz)) = _
  rw [List.map_cons, List.map_map]; rfl
theorem src_cw (cs : List Int) : srcV (cw cs) = some (cs.map D.int) := by show some (frzs _) = _; rw [frzs_cw]
theorem src0 : srcV (.lst []) = some [] := rfl
theorem cut_lo (ns : List Int) (t : Nat) : (cut ns none (some (t : Int))).length = min t ns.length := by
  unfold cut; rw [HT.sIx_none, HT.sIx_nat]; simp
theorem cut_hi (ns : List Int) (t : Nat) (h : ns.length < t) : cut ns (some (t : Int)) (some 63) = [] := by
  unfold cut; rw [HT.sIx_nat]
  rw [List.drop_of_length_le (by omega), List.take_nil]
theorem cut_hi2 (ns : List Int) (t : Nat) (h : ns.length ≤ 63) : (cut ns (some (t : Int)) (some 63)).length ≤ 63 := by
  unfold cut; simp only [List.length_take, List.length_drop]; omega
theorem cells_ok {ns : List Int} {t : Nat} (ht : 0 < t) (ht2 : t < 63) (hn : ns.length ≤ 63) : ∃ cs : List Int, 0 < cs.length ∧ cs.length ≤ t ∧ F_law_cells [.fz (.scr (ns.map D.int)), .fz (.int t)] = .ok (cw cs, [.fz (.scr (ns.map D.int)), .fz (.int t)]) := by
  have hl := cut_lo ns t
  have hh := cut_hi2 ns t hn
  have ki : ∀ k : Int, (match W.fz (.int k) with | .fz (.int k) => Res.ok k | _ => .err) = .ok k := fun _ => rfl
  by_cases h : ns.length < t
  · have h2 := cut_hi ns t h
    cases hc : cut ns none (some (t : Int)) with
    | nil =>
      refine ⟨[0], by decide, by simp only [List.length_cons, List.length_nil]; omega, ?_⟩
      have l0 : cw [] = .lst [] := rfl
      simp only [F_law_cells, m_law_cells, Mi.v_bin6, Mi.v_bin5, Mi.v_bin4, Mi.v_bin3, Mi.v_bin2, Mi.v_bin1, Mi.v_bin, Mi.v_un3, Mi.v_un2, Mi.v_un1, Mi.v_un, Mi.v_test2, Mi.v_test1, Mi.v_test, Mi.v_cons3, Mi.v_cons2, Mi.v_cons1, Mi.v_cons, Mi.v_star4, Mi.v_star3, Mi.v_star2, Mi.v_star1, Mi.v_star, Mi.v_tup4, Mi.v_tup3, Mi.v_tup2, Mi.v_tup1, Mi.v_tup, Mi.v_lst4, Mi.v_lst3, Mi.v_lst2, Mi.v_lst1, Mi.v_lst, Mi.v_callB3, Mi.v_callB2, Mi.v_callB1, Mi.v_callB, Mi.v_andT1, Mi.v_andT, Mi.v_orT1, Mi.v_orT, Mi.v_notT1, Mi.v_notT, Mi.v_and2, Mi.v_and1, Mi.v_and, Mi.v_or2, Mi.v_or1, Mi.v_or, Mi.v_not2, Mi.v_not1, Mi.v_not, Mi.v_if1, Mi.v_if, Mi.v_orL1, Mi.v_orL, Mi.v_seq1, Mi.v_seq, Mi.v_ifS1, Mi.v_ifS, Mi.v_ret2, Mi.v_ret1, Mi.v_ret, Mi.v_drop1, Mi.v_drop, Mi.v_asg3, Mi.v_asg2, Mi.v_asg1, Mi.v_asg, Mi.v_gset1, Mi.v_gset, Mi.v_gsub5, Mi.v_gsub4, Mi.v_gsub3, Mi.v_gsub2, Mi.v_gsub1, Mi.v_gsub, Mi.v_gsc1, Mi.v_gsc, Mi.v_gsn1, Mi.v_gsn, Mi.v_for1, Mi.v_for, Mi.v_forc2, Mi.v_forc1, Mi.v_forc, Mi.v_lcc2, Mi.v_lcc1, Mi.v_lcc, Mi.v_lcT3, Mi.v_lcT2, Mi.v_lcT1, Mi.v_lcT, Mi.v_lc4, Mi.v_lc3, Mi.v_lc2, Mi.v_lc1, Mi.v_lc, Mi.v_def4, Mi.v_def3, Mi.v_def2, Mi.v_def1, Mi.v_def, Mi.v_callV4, Mi.v_callV3, Mi.v_callV2, Mi.v_callV1, Mi.v_callV, Mi.v_callP4, Mi.v_callP3, Mi.v_callP2, Mi.v_callP1, Mi.v_callP, Mi.v_callKV5, Mi.v_callKV4, Mi.v_callKV3, Mi.v_callKV2, Mi.v_callKV1, Mi.v_callKV, Mi.v_callKP5, Mi.v_callKP4, Mi.v_callKP3, Mi.v_callKP2, Mi.v_callKP1, Mi.v_callKP, Mi.v_callIO5, Mi.v_callIO4, Mi.v_callIO3, Mi.v_callIO2, Mi.v_callIO1, Mi.v_callIO, Mi.v_app7, Mi.v_app6, Mi.v_app5, Mi.v_app4, Mi.v_app3, Mi.v_app2, Mi.v_app1, Mi.v_app, Mi.v_sl6, Mi.v_sl5, Mi.v_sl4, Mi.v_sl3, Mi.v_sl2, Mi.v_sl1, Mi.v_sl, Mi.v_oS2, Mi.v_oS1, Mi.v_oS, Mi.v_iseq3, Mi.v_iseq2, Mi.v_iseq1, Mi.v_iseq, Mi.v_ienum3, Mi.v_ienum2, Mi.v_ienum1, Mi.v_ienum, Mi.v_irg3, Mi.v_irg2, Mi.v_irg1, Mi.v_irg, Mi.v_rgTup3, Mi.v_rgTup2, Mi.v_rgTup1, Mi.v_rgTup, Mi.v_argsc2, Mi.v_argsc1, Mi.v_argsc, Mi.v_putc1, Mi.v_putc, Mi.v_takesc2, Mi.v_takesc1, Mi.v_takesc, Mi.v_contsc2, Mi.v_contsc1, Mi.v_contsc, Mi.v_backsI2, Mi.v_backsI1, Mi.v_backsI, Mi.v_ok, Mi.v_c, Mi.v_nil, Mi.v_next, Mi.v_yes, Mi.v_oN, Mi.v_gtup, Mi.v_var, Mi.v_for0, Mi.v_lc0, Mi.v_args0, Mi.v_put0, Mi.v_takes0, Mi.v_conts0, Mi.v_backs0, Mi.w_add, Mi.w_sub, Mi.w_neg, Mi.w_lt, Mi.w_le, Mi.w_gt, Mi.w_ge, Mi.w_intI, Mi.w_intB, Mi.w_abs, Mi.w_max, Mi.w_min, Mi.w_ix0, Mi.w_ix1, Mi.w_ix2, Mi.w_i0, Mi.w_i1, Mi.w_i2, Mi.pend, Mi.cont, Mi.take, Mi.frz, Mi.frzs, Mi.getP, Mi.setP, Mi.Res.of, Mi.boolOf, Mi.isPl, Mi.mutS, Mi.mutA, Mi.mutP, Mi.intOf, Mi.move, Mi.retOf, Mi.backs1, Mi.put1, Mi.fzT, Mi.ioOf, Mi.chk, Mi.early, Mi.shut, Mi.isTmp, Mi.flatB, Mi.scal, List.map_cons, List.map_nil, List.cons_append, List.nil_append, List.append_nil, List.replicate_succ, List.replicate_zero, List.replicate, List.length_cons, List.length_nil, List.getElem?_cons_zero, List.getElem?_cons_succ, List.set_cons_zero, List.set_cons_succ, List.all_cons, List.all_nil, List.contains_cons, List.contains_nil, List.elem_cons, List.elem_nil, List.isEmpty_nil, List.isEmpty_cons, Nat.reduceAdd, Nat.reduceSub, Nat.reduceBEq, Nat.reduceLT, Nat.reduceLeDiff, Nat.reduceEqDiff, decide_true, decide_false, Bool.and_true, Bool.true_and, Bool.or_true, Bool.true_or, Bool.or_false, Bool.false_or, Bool.and_false, Bool.false_and, Bool.not_true, Bool.not_false, Bool.false_eq_true, reduceIte, ite_true, ite_false, beq_self_eq_true, Nat.zero_add, reduceCtorEq, and_self, true_and, and_true, ge_iff_le, gt_iff_lt, Nat.succ_eq_add_one, Nat.add_one_sub_one, Nat.zero_lt_succ, Nat.lt_add_left_iff_pos, Mi.wipeE, Mi.restE, Mi.pick, List.filterMap_cons, List.filterMap_nil, sl_scr, frzs_cw, lst_fl0, lst_fl1, src0, hc, h2, src_cw, l0, enumD]
      rfl
    | cons c cs =>
      rw [hc] at hl
      refine ⟨c :: cs, by simp, by rw [hl]; omega, ?_⟩
      simp only [F_law_cells, m_law_cells, Mi.v_bin6, Mi.v_bin5, Mi.v_bin4, Mi.v_bin3, Mi.v_bin2, Mi.v_bin1, Mi.v_bin, Mi.v_un3, Mi.v_un2, Mi.v_un1, Mi.v_un, Mi.v_test2, Mi.v_test1, Mi.v_test, Mi.v_cons3, Mi.v_cons2, Mi.v_cons1, Mi.v_cons, Mi.v_star4, Mi.v_star3, Mi.v_star2, Mi.v_star1, Mi.v_star, Mi.v_tup4, Mi.v_tup3, Mi.v_tup2, Mi.v_tup1, Mi.v_tup, Mi.v_lst4, Mi.v_lst3, Mi.v_lst2, Mi.v_lst1, Mi.v_lst, Mi.v_callB3, Mi.v_callB2, Mi.v_callB1, Mi.v_callB, Mi.v_andT1, Mi.v_andT, Mi.v_orT1, Mi.v_orT, Mi.v_notT1, Mi.v_notT, Mi.v_and2, Mi.v_and1, Mi.v_and, Mi.v_or2, Mi.v_or1, Mi.v_or, Mi.v_not2, Mi.v_not1, Mi.v_not, Mi.v_if1, Mi.v_if, Mi.v_orL1, Mi.v_orL, Mi.v_seq1, Mi.v_seq, Mi.v_ifS1, Mi.v_ifS, Mi.v_ret2, Mi.v_ret1, Mi.v_ret, Mi.v_drop1, Mi.v_drop, Mi.v_asg3, Mi.v_asg2, Mi.v_asg1, Mi.v_asg, Mi.v_gset1, Mi.v_gset, Mi.v_gsub5, Mi.v_gsub4, Mi.v_gsub3, Mi.v_gsub2, Mi.v_gsub1, Mi.v_gsub, Mi.v_gsc1, Mi.v_gsc, Mi.v_gsn1, Mi.v_gsn, Mi.v_for1, Mi.v_for, Mi.v_forc2, Mi.v_forc1, Mi.v_forc, Mi.v_lcc2, Mi.v_lcc1, Mi.v_lcc, Mi.v_lcT3, Mi.v_lcT2, Mi.v_lcT1, Mi.v_lcT, Mi.v_lc4, Mi.v_lc3, Mi.v_lc2, Mi.v_lc1, Mi.v_lc, Mi.v_def4, Mi.v_def3, Mi.v_def2, Mi.v_def1, Mi.v_def, Mi.v_callV4, Mi.v_callV3, Mi.v_callV2, Mi.v_callV1, Mi.v_callV, Mi.v_callP4, Mi.v_callP3, Mi.v_callP2, Mi.v_callP1, Mi.v_callP, Mi.v_callKV5, Mi.v_callKV4, Mi.v_callKV3, Mi.v_callKV2, Mi.v_callKV1, Mi.v_callKV, Mi.v_callKP5, Mi.v_callKP4, Mi.v_callKP3, Mi.v_callKP2, Mi.v_callKP1, Mi.v_callKP, Mi.v_callIO5, Mi.v_callIO4, Mi.v_callIO3, Mi.v_callIO2, Mi.v_callIO1, Mi.v_callIO, Mi.v_app7, Mi.v_app6, Mi.v_app5, Mi.v_app4, Mi.v_app3, Mi.v_app2, Mi.v_app1, Mi.v_app, Mi.v_sl6, Mi.v_sl5, Mi.v_sl4, Mi.v_sl3, Mi.v_sl2, Mi.v_sl1, Mi.v_sl, Mi.v_oS2, Mi.v_oS1, Mi.v_oS, Mi.v_iseq3, Mi.v_iseq2, Mi.v_iseq1, Mi.v_iseq, Mi.v_ienum3, Mi.v_ienum2, Mi.v_ienum1, Mi.v_ienum, Mi.v_irg3, Mi.v_irg2, Mi.v_irg1, Mi.v_irg, Mi.v_rgTup3, Mi.v_rgTup2, Mi.v_rgTup1, Mi.v_rgTup, Mi.v_argsc2, Mi.v_argsc1, Mi.v_argsc, Mi.v_putc1, Mi.v_putc, Mi.v_takesc2, Mi.v_takesc1, Mi.v_takesc, Mi.v_contsc2, Mi.v_contsc1, Mi.v_contsc, Mi.v_backsI2, Mi.v_backsI1, Mi.v_backsI, Mi.v_ok, Mi.v_c, Mi.v_nil, Mi.v_next, Mi.v_yes, Mi.v_oN, Mi.v_gtup, Mi.v_var, Mi.v_for0, Mi.v_lc0, Mi.v_args0, Mi.v_put0, Mi.v_takes0, Mi.v_conts0, Mi.v_backs0, Mi.w_add, Mi.w_sub, Mi.w_neg, Mi.w_lt, Mi.w_le, Mi.w_gt, Mi.w_ge, Mi.w_intI, Mi.w_intB, Mi.w_abs, Mi.w_max, Mi.w_min, Mi.w_ix0, Mi.w_ix1, Mi.w_ix2, Mi.w_i0, Mi.w_i1, Mi.w_i2, Mi.pend, Mi.cont, Mi.take, Mi.frz, Mi.frzs, Mi.getP, Mi.setP, Mi.Res.of, Mi.boolOf, Mi.isPl, Mi.mutS, Mi.mutA, Mi.mutP, Mi.intOf, Mi.move, Mi.retOf, Mi.backs1, Mi.put1, Mi.fzT, Mi.ioOf, Mi.chk, Mi.early, Mi.shut, Mi.isTmp, Mi.flatB, Mi.scal, List.map_cons, List.map_nil, List.cons_append, List.nil_append, List.append_nil, List.replicate_succ, List.replicate_zero, List.replicate, List.length_cons, List.length_nil, List.getElem?_cons_zero, List.getElem?_cons_succ, List.set_cons_zero, List.set_cons_succ, List.all_cons, List.all_nil, List.contains_cons, List.contains_nil, List.elem_cons, List.elem_nil, List.isEmpty_nil, List.isEmpty_cons, Nat.reduceAdd, Nat.reduceSub, Nat.reduceBEq, Nat.reduceLT, Nat.reduceLeDiff, Nat.reduceEqDiff, decide_true, decide_false, Bool.and_true, Bool.true_and, Bool.or_true, Bool.true_or, Bool.or_false, Bool.false_or, Bool.and_false, Bool.false_and, Bool.not_true, Bool.not_false, Bool.false_eq_true, reduceIte, ite_true, ite_false, beq_self_eq_true, Nat.zero_add, reduceCtorEq, and_self, true_and, and_true, ge_iff_le, gt_iff_lt, Nat.succ_eq_add_one, Nat.add_one_sub_one, Nat.zero_lt_succ, Nat.lt_add_left_iff_pos, Mi.wipeE, Mi.restE, Mi.pick, List.filterMap_cons, List.filterMap_nil, sl_scr, frzs_cw, lst_fl0, lst_fl1, src0, hc, h2, src_cw, enumD]
      rfl
  · obtain ⟨c, cs, hc⟩ : ∃ c cs, cut ns none (some (t : Int)) = c :: cs := by
      cases hc : cut ns none (some (t : Int)) with
      | nil => rw [hc] at hl; simp only [List.length_nil] at hl; omega
      | cons c cs => exact ⟨c, cs, rfl⟩
    rw [hc] at hl
    obtain ⟨cs', o3', o4', o5', q1, q2⟩ := loop_ok (s := .fz (.scr (ns.map D.int))) ht (by omega) (cut ns (some (t : Int)) (some 63)) 0 (c :: cs) none none none (by omega) (by rw [hl]; omega)
    refine ⟨cs', by omega, by omega, ?_⟩
    have q3 : forL tgt stp (enumD 0 ((cut ns (some (t : Int)) (some 63)).map D.int)) [some (.fz (.scr (ns.map D.int))), some (.fz (.int t)), some (.lst (W.fz (.int c) :: cs.map fun n => W.fz (.int n))), none, none, none] = _ := q2
    have q4 : forL (gTupG (gsCons (gSet 3) (gsCons (gSet 4) gsNil))) (cSeq (cAsg (gSet 5) (cBin fMod true (cCallB fInt (cCons true (cVar 3) cNil)) (cVar 1)))
      (cAsg (Mi.gSub true (cVar 2) (cVar 5)) (cBin fAdd true (cBin fIdx true (cVar 2) (cVar 5)) (cBin fMul true (cVar 4) (cBin fAdd true (cVar 3) (cC (.int 2))))))) (enumD 0 ((cut ns (some (t : Int)) (some 63)).map D.int)) [some (.fz (.scr (ns.map D.int))), some (.fz (.int t)), some (.lst (W.fz (.int c) :: cs.map fun n => W.fz (.int n))), none, none, none] = _ := q2
    simp only [F_law_cells, m_law_cells, Mi.v_bin6, Mi.v_bin5, Mi.v_bin4, Mi.v_bin3, Mi.v_bin2, Mi.v_bin1, Mi.v_bin, Mi.v_un3, Mi.v_un2, Mi.v_un1, Mi.v_un, Mi.v_test2, Mi.v_test1, Mi.v_test, Mi.v_cons3, Mi.v_cons2, Mi.v_cons1, Mi.v_cons, Mi.v_star4, Mi.v_star3, Mi.v_star2, Mi.v_star1, Mi.v_star, Mi.v_tup4, Mi.v_tup3, Mi.v_tup2, Mi.v_tup1, Mi.v_tup, Mi.v_lst4, Mi.v_lst3, Mi.v_lst2, Mi.v_lst1, Mi.v_lst, Mi.v_callB3, Mi.v_callB2, Mi.v_callB1, Mi.v_callB, Mi.v_andT1, Mi.v_andT, Mi.v_orT1, Mi.v_orT, Mi.v_notT1, Mi.v_notT, Mi.v_and2, Mi.v_and1, Mi.v_and, Mi.v_or2, Mi.v_or1, Mi.v_or, Mi.v_not2, Mi.v_not1, Mi.v_not, Mi.v_if1, Mi.v_if, Mi.v_orL1, Mi.v_orL, Mi.v_seq1, Mi.v_seq, Mi.v_ifS1, Mi.v_ifS, Mi.v_ret2, Mi.v_ret1, Mi.v_ret, Mi.v_drop1, Mi.v_drop, Mi.v_asg3, Mi.v_asg2, Mi.v_asg1, Mi.v_asg, Mi.v_gset1, Mi.v_gset, Mi.v_gsub5, Mi.v_gsub4, Mi.v_gsub3, Mi.v_gsub2, Mi.v_gsub1, Mi.v_gsub, Mi.v_gsc1, Mi.v_gsc, Mi.v_gsn1, Mi.v_gsn, Mi.v_for1, Mi.v_for, Mi.v_forc2, Mi.v_forc1, Mi.v_forc, Mi.v_lcc2, Mi.v_lcc1, Mi.v_lcc, Mi.v_lcT3, Mi.v_lcT2, Mi.v_lcT1, Mi.v_lcT, Mi.v_lc4, Mi.v_lc3, Mi.v_lc2, Mi.v_lc1, Mi.v_lc, Mi.v_def4, Mi.v_def3, Mi.v_def2, Mi.v_def1, Mi.v_def, Mi.v_callV4, Mi.v_callV3, Mi.v_callV2, Mi.v_callV1, Mi.v_callV, Mi.v_callP4, Mi.v_callP3, Mi.v_callP2, Mi.v_callP1, Mi.v_callP, Mi.v_callKV5, Mi.v_callKV4, Mi.v_callKV3, Mi.v_callKV2, Mi.v_callKV1, Mi.v_callKV, Mi.v_callKP5, Mi.v_callKP4, Mi.v_callKP3, Mi.v_callKP2, Mi.v_callKP1, Mi.v_callKP, Mi.v_callIO5, Mi.v_callIO4, Mi.v_callIO3, Mi.v_callIO2, Mi.v_callIO1, Mi.v_callIO, Mi.v_app7, Mi.v_app6, Mi.v_app5, Mi.v_app4, Mi.v_app3, Mi.v_app2, Mi.v_app1, Mi.v_app, Mi.v_sl6, Mi.v_sl5, Mi.v_sl4, Mi.v_sl3, Mi.v_sl2, Mi.v_sl1, Mi.v_sl, Mi.v_oS2, Mi.v_oS1, Mi.v_oS, Mi.v_iseq3, Mi.v_iseq2, Mi.v_iseq1, Mi.v_iseq, Mi.v_ienum3, Mi.v_ienum2, Mi.v_ienum1, Mi.v_ienum, Mi.v_irg3, Mi.v_irg2, Mi.v_irg1, Mi.v_irg, Mi.v_rgTup3, Mi.v_rgTup2, Mi.v_rgTup1, Mi.v_rgTup, Mi.v_argsc2, Mi.v_argsc1, Mi.v_argsc, Mi.v_putc1, Mi.v_putc, Mi.v_takesc2, Mi.v_takesc1, Mi.v_takesc, Mi.v_contsc2, Mi.v_contsc1, Mi.v_contsc, Mi.v_backsI2, Mi.v_backsI1, Mi.v_backsI, Mi.v_ok, Mi.v_c, Mi.v_nil, Mi.v_next, Mi.v_yes, Mi.v_oN, Mi.v_gtup, Mi.v_var, Mi.v_for0, Mi.v_lc0, Mi.v_args0, Mi.v_put0, Mi.v_takes0, Mi.v_conts0, Mi.v_backs0, Mi.w_add, Mi.w_sub, Mi.w_neg, Mi.w_lt, Mi.w_le, Mi.w_gt, Mi.w_ge, Mi.w_intI, Mi.w_intB, Mi.w_abs, Mi.w_max, Mi.w_min, Mi.w_ix0, Mi.w_ix1, Mi.w_ix2, Mi.w_i0, Mi.w_i1, Mi.w_i2, Mi.pend, Mi.cont, Mi.take, Mi.frz, Mi.frzs, Mi.getP, Mi.setP, Mi.Res.of, Mi.boolOf, Mi.isPl, Mi.mutS, Mi.mutA, Mi.mutP, Mi.intOf, Mi.move, Mi.retOf, Mi.backs1, Mi.put1, Mi.fzT, Mi.ioOf, Mi.chk, Mi.early, Mi.shut, Mi.isTmp, Mi.flatB, Mi.scal, List.map_cons, List.map_nil, List.cons_append, List.nil_append, List.append_nil, List.replicate_succ, List.replicate_zero, List.replicate, List.length_cons, List.length_nil, List.getElem?_cons_zero, List.getElem?_cons_succ, List.set_cons_zero, List.set_cons_succ, List.all_cons, List.all_nil, List.contains_cons, List.contains_nil, List.elem_cons, List.elem_nil, List.isEmpty_nil, List.isEmpty_cons, Nat.reduceAdd, Nat.reduceSub, Nat.reduceBEq, Nat.reduceLT, Nat.reduceLeDiff, Nat.reduceEqDiff, decide_true, decide_false, Bool.and_true, Bool.true_and, Bool.or_true, Bool.true_or, Bool.or_false, Bool.false_or, Bool.and_false, Bool.false_and, Bool.not_true, Bool.not_false, Bool.false_eq_true, reduceIte, ite_true, ite_false, beq_self_eq_true, Nat.zero_add, reduceCtorEq, and_self, true_and, and_true, ge_iff_le, gt_iff_lt, Nat.succ_eq_add_one, Nat.add_one_sub_one, Nat.zero_lt_succ, Nat.lt_add_left_iff_pos, Mi.wipeE, Mi.restE, Mi.pick, List.filterMap_cons, List.filterMap_nil, sl_scr, frzs_cw, lst_fl0, lst_fl1, src0, hc, src_cw, q4]
end Gn
namespace Gn
open Mi PySem PySem.Spec PyProof.Rows L2
def Rk : Prop := ∀ β : Bx, β.c = 0 → ∃ β' : Bx, F_law_right [bx β] = .ok (.fz (.bl true), [bx β'])
abbrev elt : CE := cCallIO F_law_right (ioOf [0]) (cCons true (cCallP false F_law_box (cCons true (cVar 1) (cCons true (cVar 2) cNil))) cNil)
theorem elt_loop (R : Rk) {s : W} {cs : List Int} : ∀ (l : List Nat) (w1 : W), (w1 = cw cs ∨ w1 = .fz (.lst (cs.map D.int))) → (∀ i ∈ l, i < cs.length) → ∃ w1' : W,
    lcL [2] (gSet 2) cYes elt (l.map fun i => D.int (0 + (i : Nat))) [some s, some w1, none] = .ok (l.map fun _ => W.fz (.bl true), [some s, some w1', none])
  | [], w1, h, _ => ⟨w1, rfl⟩
  | i :: l, w1, h, hl => by
    obtain ⟨β, b0, be⟩ := box_ok (cs := cs) (k := 0 + (i : Nat)) (by omega) (by have := hl i (by simp); omega)
    obtain ⟨β', re⟩ := R β b0
    obtain ⟨w1', e⟩ := elt_loop R (s := s) l (.fz (.lst (cs.map D.int))) (.inr rfl) (fun j hj => hl j (by simp [hj]))
    refine ⟨w1', ?_⟩
    have hb : F_law_box [.fz (.lst (cs.map D.int)), .fz (.int (0 + (i : Nat)))] = .ok (bx β, [.fz (.lst (cs.map D.int)), .fz (.int (0 + (i : Nat)))]) := be
    rcases h with h | h
    · subst h
      simp only [List.map_cons (f := fun i : Nat => D.int (0 + (i : Nat))), Mi.v_bin6, Mi.v_bin5, Mi.v_bin4, Mi.v_bin3, Mi.v_bin2, Mi.v_bin1, Mi.v_bin, Mi.v_un3, Mi.v_un2, Mi.v_un1, Mi.v_un, Mi.v_test2, Mi.v_test1, Mi.v_test, Mi.v_cons3, Mi.v_cons2, Mi.v_cons1, Mi.v_cons, Mi.v_star4, Mi.v_star3, Mi.v_star2, Mi.v_star1, Mi.v_star, Mi.v_tup4, Mi.v_tup3, Mi.v_tup2, Mi.v_tup1, Mi.v_tup, Mi.v_lst4, Mi.v_lst3, Mi.v_lst2, Mi.v_lst1, Mi.v_lst, Mi.v_callB3, Mi.v_callB2, Mi.v_callB1, Mi.v_callB, Mi.v_andT1, Mi.v_andT, Mi.v_orT1, Mi.v_orT, Mi.v_notT1, Mi.v_notT, Mi.v_and2, Mi.v_and1, Mi.v_and, Mi.v_or2, Mi.v_or1, Mi.v_or, Mi.v_not2, Mi.v_not1, Mi.v_not, Mi.v_if1, Mi.v_if, Mi.v_orL1, Mi.v_orL, Mi.v_seq1, Mi.v_seq, Mi.v_ifS1, Mi.v_ifS, Mi.v_ret2, Mi.v_ret1, Mi.v_ret, Mi.v_drop1, Mi.v_drop, Mi.v_asg3, Mi.v_asg2, Mi.v_asg1, Mi.v_asg, Mi.v_gset1, Mi.v_gset, Mi.v_gsub5, Mi.v_gsub4, Mi.v_gsub3, Mi.v_gsub2, Mi.v_gsub1, Mi.v_gsub, Mi.v_gsc1, Mi.v_gsc, Mi.v_gsn1, Mi.v_gsn, Mi.v_for1, Mi.v_for, Mi.v_forc2, Mi.v_forc1, Mi.v_forc, Mi.v_lcc2, Mi.v_lcc1, Mi.v_lcc, Mi.v_lcT3, Mi.v_lcT2, Mi.v_lcT1, Mi.v_lcT, Mi.v_lc4, Mi.v_lc3, Mi.v_lc2, Mi.v_lc1, Mi.v_lc, Mi.v_def4, Mi.v_def3, Mi.v_def2, Mi.v_def1, Mi.v_def, Mi.v_callV4, Mi.v_callV3, Mi.v_callV2, Mi.v_callV1, Mi.v_callV, Mi.v_callP4, Mi.v_callP3, Mi.v_callP2, Mi.v_callP1, Mi.v_callP, Mi.v_callKV5, Mi.v_callKV4, Mi.v_callKV3, Mi.v_callKV2, Mi.v_callKV1, Mi.v_callKV, Mi.v_callKP5, Mi.v_callKP4, Mi.v_callKP3, Mi.v_callKP2, Mi.v_callKP1, Mi.v_callKP, Mi.v_callIO5, Mi.v_callIO4, Mi.v_callIO3, Mi.v_callIO2, Mi.v_callIO1, Mi.v_callIO, Mi.v_app7, Mi.v_app6, Mi.v_app5, Mi.v_app4, Mi.v_app3, Mi.v_app2, Mi.v_app1, Mi.v_app, Mi.v_sl6, Mi.v_sl5, Mi.v_sl4, Mi.v_sl3, Mi.v_sl2, Mi.v_sl1, Mi.v_sl, Mi.v_oS2, Mi.v_oS1, Mi.v_oS, Mi.v_iseq3, Mi.v_iseq2, Mi.v_iseq1, Mi.v_iseq, Mi.v_ienum3, Mi.v_ienum2, Mi.v_ienum1, Mi.v_ienum, Mi.v_irg3, Mi.v_irg2, Mi.v_irg1, Mi.v_irg, Mi.v_rgTup3, Mi.v_rgTup2, Mi.v_rgTup1, Mi.v_rgTup, Mi.v_argsc2, Mi.v_argsc1, Mi.v_argsc, Mi.v_putc1, Mi.v_putc, Mi.v_takesc2, Mi.v_takesc1, Mi.v_takesc, Mi.v_contsc2, Mi.v_contsc1, Mi.v_contsc, Mi.v_backsI2, Mi.v_backsI1, Mi.v_backsI, Mi.v_ok, Mi.v_c, Mi.v_nil, Mi.v_next, Mi.v_yes, Mi.v_oN, Mi.v_gtup, Mi.v_var, Mi.v_for0, Mi.v_lc0, Mi.v_args0, Mi.v_put0, Mi.v_takes0, Mi.v_conts0, Mi.v_backs0, Mi.w_add, Mi.w_sub, Mi.w_neg, Mi.w_lt, Mi.w_le, Mi.w_gt, Mi.w_ge, Mi.w_intI, Mi.w_intB, Mi.w_abs, Mi.w_max, Mi.w_min, Mi.w_ix0, Mi.w_ix1, Mi.w_ix2, Mi.w_i0, Mi.w_i1, Mi.w_i2, Mi.pend, Mi.cont, Mi.take, Mi.frz, Mi.frzs, Mi.getP, Mi.setP, Mi.Res.of, Mi.boolOf, Mi.isPl, Mi.mutS, Mi.mutA, Mi.mutP, Mi.intOf, Mi.move, Mi.retOf, Mi.backs1, Mi.put1, Mi.fzT, Mi.ioOf, Mi.chk, Mi.early, Mi.shut, Mi.isTmp, Mi.flatB, Mi.scal, List.map_cons, List.map_nil, List.cons_append, List.nil_append, List.append_nil, List.replicate_succ, List.replicate_zero, List.replicate, List.length_cons, List.length_nil, List.getElem?_cons_zero, List.getElem?_cons_succ, List.set_cons_zero, List.set_cons_succ, List.all_cons, List.all_nil, List.contains_cons, List.contains_nil, List.elem_cons, List.elem_nil, List.isEmpty_nil, List.isEmpty_cons, Nat.reduceAdd, Nat.reduceSub, Nat.reduceBEq, Nat.reduceLT, Nat.reduceLeDiff, Nat.reduceEqDiff, decide_true, decide_false, Bool.and_true, Bool.true_and, Bool.or_true, Bool.true_or, Bool.or_false, Bool.false_or, Bool.and_false, Bool.false_and, Bool.not_true, Bool.not_false, Bool.false_eq_true, reduceIte, ite_true, ite_false, beq_self_eq_true, Nat.zero_add, reduceCtorEq, and_self, true_and, and_true, ge_iff_le, gt_iff_lt, Nat.succ_eq_add_one, Nat.add_one_sub_one, Nat.zero_lt_succ, Nat.lt_add_left_iff_pos, Mi.wipeE, Mi.restE, Mi.pick, List.filterMap_cons, List.filterMap_nil, frzs_cw, hb, re, e]
    · subst h
      simp only [List.map_cons (f := fun i : Nat => D.int (0 + (i : Nat))), Mi.v_bin6, Mi.v_bin5, Mi.v_bin4, Mi.v_bin3, Mi.v_bin2, Mi.v_bin1, Mi.v_bin, Mi.v_un3, Mi.v_un2, Mi.v_un1, Mi.v_un, Mi.v_test2, Mi.v_test1, Mi.v_test, Mi.v_cons3, Mi.v_cons2, Mi.v_cons1, Mi.v_cons, Mi.v_star4, Mi.v_star3, Mi.v_star2, Mi.v_star1, Mi.v_star, Mi.v_tup4, Mi.v_tup3, Mi.v_tup2, Mi.v_tup1, Mi.v_tup, Mi.v_lst4, Mi.v_lst3, Mi.v_lst2, Mi.v_lst1, Mi.v_lst, Mi.v_callB3, Mi.v_callB2, Mi.v_callB1, Mi.v_callB, Mi.v_andT1, Mi.v_andT, Mi.v_orT1, Mi.v_orT, Mi.v_notT1, Mi.v_notT, Mi.v_and2, Mi.v_and1, Mi.v_and, Mi.v_or2, Mi.v_or1, Mi.v_or, Mi.v_not2, Mi.v_not1, Mi.v_not, Mi.v_if1, Mi.v_if, Mi.v_orL1, Mi.v_orL, Mi.v_seq1, Mi.v_seq, Mi.v_ifS1, Mi.v_ifS, Mi.v_ret2, Mi.v_ret1, Mi.v_ret, Mi.v_drop1, Mi.v_drop, Mi.v_asg3, Mi.v_asg2, Mi.v_asg1, Mi.v_asg, Mi.v_gset1, Mi.v_gset, Mi.v_gsub5, Mi.v_gsub4, Mi.v_gsub3, Mi.v_gsub2, Mi.v_gsub1, Mi.v_gsub, Mi.v_gsc1, Mi.v_gsc, Mi.v_gsn1, Mi.v_gsn, Mi.v_for1, Mi.v_for, Mi.v_forc2, Mi.v_forc1, Mi.v_forc, Mi.v_lcc2, Mi.v_lcc1, Mi.v_lcc, Mi.v_lcT3, Mi.v_lcT2, Mi.v_lcT1, Mi.v_lcT, Mi.v_lc4, Mi.v_lc3, Mi.v_lc2, Mi.v_lc1, Mi.v_lc, Mi.v_def4, Mi.v_def3, Mi.v_def2, Mi.v_def1, Mi.v_def, Mi.v_callV4, Mi.v_callV3, Mi.v_callV2, Mi.v_callV1, Mi.v_callV, Mi.v_callP4, Mi.v_callP3, Mi.v_callP2, Mi.v_callP1, Mi.v_callP, Mi.v_callKV5, Mi.v_callKV4, Mi.v_callKV3, Mi.v_callKV2, Mi.v_callKV1, Mi.v_callKV, Mi.v_callKP5, Mi.v_callKP4, Mi.v_callKP3, Mi.v_callKP2, Mi.v_callKP1, Mi.v_callKP, Mi.v_callIO5, Mi.v_callIO4, Mi.v_callIO3, Mi.v_callIO2, Mi.v_callIO1, Mi.v_callIO, Mi.v_app7, Mi.v_app6, Mi.v_app5, Mi.v_app4, Mi.v_app3, Mi.v_app2, Mi.v_app1, Mi.v_app, Mi.v_sl6, Mi.v_sl5, Mi.v_sl4, Mi.v_sl3, Mi.v_sl2, Mi.v_sl1, Mi.v_sl, Mi.v_oS2, Mi.v_oS1, Mi.v_oS, Mi.v_iseq3, Mi.v_iseq2, Mi.v_iseq1, Mi.v_iseq, Mi.v_ienum3, Mi.v_ienum2, Mi.v_ienum1, Mi.v_ienum, Mi.v_irg3, Mi.v_irg2, Mi.v_irg1, Mi.v_irg, Mi.v_rgTup3, Mi.v_rgTup2, Mi.v_rgTup1, Mi.v_rgTup, Mi.v_argsc2, Mi.v_argsc1, Mi.v_argsc, Mi.v_putc1, Mi.v_putc, Mi.v_takesc2, Mi.v_takesc1, Mi.v_takesc, Mi.v_contsc2, Mi.v_contsc1, Mi.v_contsc, Mi.v_backsI2, Mi.v_backsI1, Mi.v_backsI, Mi.v_ok, Mi.v_c, Mi.v_nil, Mi.v_next, Mi.v_yes, Mi.v_oN, Mi.v_gtup, Mi.v_var, Mi.v_for0, Mi.v_lc0, Mi.v_args0, Mi.v_put0, Mi.v_takes0, Mi.v_conts0, Mi.v_backs0, Mi.w_add, Mi.w_sub, Mi.w_neg, Mi.w_lt, Mi.w_le, Mi.w_gt, Mi.w_ge, Mi.w_intI, Mi.w_intB, Mi.w_abs, Mi.w_max, Mi.w_min, Mi.w_ix0, Mi.w_ix1, Mi.w_ix2, Mi.w_i0, Mi.w_i1, Mi.w_i2, Mi.pend, Mi.cont, Mi.take, Mi.frz, Mi.frzs, Mi.getP, Mi.setP, Mi.Res.of, Mi.boolOf, Mi.isPl, Mi.mutS, Mi.mutA, Mi.mutP, Mi.intOf, Mi.move, Mi.retOf, Mi.backs1, Mi.put1, Mi.fzT, Mi.ioOf, Mi.chk, Mi.early, Mi.shut, Mi.isTmp, Mi.flatB, Mi.scal, List.map_cons, List.map_nil, List.cons_append, List.nil_append, List.append_nil, List.replicate_succ, List.replicate_zero, List.replicate, List.length_cons, List.length_nil, List.getElem?_cons_zero, List.getElem?_cons_succ, List.set_cons_zero, List.set_cons_succ, List.all_cons, List.all_nil, List.contains_cons, List.contains_nil, List.elem_cons, List.elem_nil, List.isEmpty_nil, List.isEmpty_cons, Nat.reduceAdd, Nat.reduceSub, Nat.reduceBEq, Nat.reduceLT, Nat.reduceLeDiff, Nat.reduceEqDiff, decide_true, decide_false, Bool.and_true, Bool.true_and, Bool.or_true, Bool.true_or, Bool.or_false, Bool.false_or, Bool.and_false, Bool.false_and, Bool.not_true, Bool.not_false, Bool.false_eq_true, reduceIte, ite_true, ite_false, beq_self_eq_true, Nat.zero_add, reduceCtorEq, and_self, true_and, and_true, ge_iff_le, gt_iff_lt, Nat.succ_eq_add_one, Nat.add_one_sub_one, Nat.zero_lt_succ, Nat.lt_add_left_iff_pos, Mi.wipeE, Mi.restE, Mi.pick, List.filterMap_cons, List.filterMap_nil, frzs_cw, hb, re, e]
theorem frzs_bl : ∀ l : List Nat, frzs (l.map fun _ => W.fz (.bl true)) = l.map fun _ => D.bl true
  | [] => rfl
  | i :: l => by show D.bl true :: frzs (l.map fun _ => W.fz (.bl true)) = _; rw [frzs_bl l]; rfl
theorem blsD_bl : ∀ l : List Nat, blsD (l.map fun _ => D.bl true) = some (l.map fun _ => true)
  | [] => rfl
  | i :: l => by show (match blsD (l.map fun _ => D.bl true) with | some ns => some (true :: ns) | none => none) = _; rw [blsD_bl l]; rfl
theorem all_bl (l : List Nat) : fAll [.fz (.lst (l.map fun _ => D.bl true))] = .ok (.fz (.bl true)) := by
  show (match blsD (l.map fun _ => D.bl true) with | some ns => Res.ok (W.fz (.bl (ns.all id))) | none => .err) = _
  rw [blsD_bl]
  have : ((l.map fun _ => true).all id) = true := by rw [List.all_eq_true]; intro x hx; obtain ⟨_, _, e⟩ := List.mem_map.mp hx; rw [← e]; rfl
  show Res.ok (W.fz (.bl ((l.map fun _ => true).all id))) = _
  rw [this]
theorem cT : chk true = .ok () := rfl
theorem len_cw (cs : List Int) : fLen [cw cs] = .ok (.fz (.int cs.length)) := by
    show (match unfz (cs.map fun n => W.fz (.int n)) with | some ds => Res.ok (W.fz (.int ds.length)) | none => .err) = _
    rw [unfz_cw]; show Res.ok (W.fz (.int (cs.map D.int).length)) = _; rw [List.length_map]
theorem rng_ok {s : W} {cs : List Int} (h : cs.length < 100) : iRange1 (cCallB fLen (cCons true (cVar 1) cNil)) [some s, some (cw cs), none] = .ok (rangeD 0 ((cs.length : Int)).toNat, [some s, some (cw cs), none]) := by
  have cb : decide (-(2 ^ 62) ≤ ((cs.length : Nat) : Int) ∧ ((cs.length : Nat) : Int) < 2 ^ 62) = true := decide_eq_true (by omega)
  have c0 : cCallB fLen (cCons true (cVar 1) cNil) [some s, some (cw cs), none] = .ok (.tmp (.fz (.int cs.length)), [some s, some (cw cs), none]) := by
    simp only [Mi.v_bin6, Mi.v_bin5, Mi.v_bin4, Mi.v_bin3, Mi.v_bin2, Mi.v_bin1, Mi.v_bin, Mi.v_un3, Mi.v_un2, Mi.v_un1, Mi.v_un, Mi.v_test2, Mi.v_test1, Mi.v_test, Mi.v_cons3, Mi.v_cons2, Mi.v_cons1, Mi.v_cons, Mi.v_star4, Mi.v_star3, Mi.v_star2, Mi.v_star1, Mi.v_star, Mi.v_tup4, Mi.v_tup3, Mi.v_tup2, Mi.v_tup1, Mi.v_tup, Mi.v_lst4, Mi.v_lst3, Mi.v_lst2, Mi.v_lst1, Mi.v_lst, Mi.v_callB3, Mi.v_callB2, Mi.v_callB1, Mi.v_callB, Mi.v_andT1, Mi.v_andT, Mi.v_orT1, Mi.v_orT, Mi.v_notT1, Mi.v_notT, Mi.v_and2, Mi.v_and1, Mi.v_and, Mi.v_or2, Mi.v_or1, Mi.v_or, Mi.v_not2, Mi.v_not1, Mi.v_not, Mi.v_if1, Mi.v_if, Mi.v_orL1, Mi.v_orL, Mi.v_seq1, Mi.v_seq, Mi.v_ifS1, Mi.v_ifS, Mi.v_ret2, Mi.v_ret1, Mi.v_ret, Mi.v_drop1, Mi.v_drop, Mi.v_asg3, Mi.v_asg2, Mi.v_asg1, Mi.v_asg, Mi.v_gset1, Mi.v_gset, Mi.v_gsub5, Mi.v_gsub4, Mi.v_gsub3, Mi.v_gsub2, Mi.v_gsub1, Mi.v_gsub, Mi.v_gsc1, Mi.v_gsc, Mi.v_gsn1, Mi.v_gsn, Mi.v_for1, Mi.v_for, Mi.v_forc2, Mi.v_forc1, Mi.v_forc, Mi.v_lcc2, Mi.v_lcc1, Mi.v_lcc, Mi.v_lcT3, Mi.v_lcT2, Mi.v_lcT1, Mi.v_lcT, Mi.v_lc4, Mi.v_lc3, Mi.v_lc2, Mi.v_lc1, Mi.v_lc, Mi.v_def4, Mi.v_def3, Mi.v_def2, Mi.v_def1, Mi.v_def, Mi.v_callV4, Mi.v_callV3, Mi.v_callV2, Mi.v_callV1, Mi.v_callV, Mi.v_callP4, Mi.v_callP3, Mi.v_callP2, Mi.v_callP1, Mi.v_callP, Mi.v_callKV5, Mi.v_callKV4, Mi.v_callKV3, Mi.v_callKV2, Mi.v_callKV1, Mi.v_callKV, Mi.v_callKP5, Mi.v_callKP4, Mi.v_callKP3, Mi.v_callKP2, Mi.v_callKP1, Mi.v_callKP, Mi.v_callIO5, Mi.v_callIO4, Mi.v_callIO3, Mi.v_callIO2, Mi.v_callIO1, Mi.v_callIO, Mi.v_app7, Mi.v_app6, Mi.v_app5, Mi.v_app4, Mi.v_app3, Mi.v_app2, Mi.v_app1, Mi.v_app, Mi.v_sl6, Mi.v_sl5, Mi.v_sl4, Mi.v_sl3, Mi.v_sl2, Mi.v_sl1, Mi.v_sl, Mi.v_oS2, Mi.v_oS1, Mi.v_oS, Mi.v_iseq3, Mi.v_iseq2, Mi.v_iseq1, Mi.v_iseq, Mi.v_ienum3, Mi.v_ienum2, Mi.v_ienum1, Mi.v_ienum, Mi.v_irg3, Mi.v_irg2, Mi.v_irg1, Mi.v_irg, Mi.v_rgTup3, Mi.v_rgTup2, Mi.v_rgTup1, Mi.v_rgTup, Mi.v_argsc2, Mi.v_argsc1, Mi.v_argsc, Mi.v_putc1, Mi.v_putc, Mi.v_takesc2, Mi.v_takesc1, Mi.v_takesc, Mi.v_contsc2, Mi.v_contsc1, Mi.v_contsc, Mi.v_backsI2, Mi.v_backsI1, Mi.v_backsI, Mi.v_ok, Mi.v_c, Mi.v_nil, Mi.v_next, Mi.v_yes, Mi.v_oN, Mi.v_gtup, Mi.v_var, Mi.v_for0, Mi.v_lc0, Mi.v_args0, Mi.v_put0, Mi.v_takes0, Mi.v_conts0, Mi.v_backs0, Mi.w_add, Mi.w_sub, Mi.w_neg, Mi.w_lt, Mi.w_le, Mi.w_gt, Mi.w_ge, Mi.w_intI, Mi.w_intB, Mi.w_abs, Mi.w_max, Mi.w_min, Mi.w_ix0, Mi.w_ix1, Mi.w_ix2, Mi.w_i0, Mi.w_i1, Mi.w_i2, Mi.pend, Mi.cont, Mi.take, Mi.frz, Mi.frzs, Mi.getP, Mi.setP, Mi.Res.of, Mi.boolOf, Mi.isPl, Mi.mutS, Mi.mutA, Mi.mutP, Mi.intOf, Mi.move, Mi.retOf, Mi.backs1, Mi.put1, Mi.fzT, Mi.ioOf, Mi.chk, Mi.early, Mi.shut, Mi.isTmp, Mi.flatB, Mi.scal, List.map_cons, List.map_nil, List.cons_append, List.nil_append, List.append_nil, List.replicate_succ, List.replicate_zero, List.replicate, List.length_cons, List.length_nil, List.getElem?_cons_zero, List.getElem?_cons_succ, List.set_cons_zero, List.set_cons_succ, List.all_cons, List.all_nil, List.contains_cons, List.contains_nil, List.elem_cons, List.elem_nil, List.isEmpty_nil, List.isEmpty_cons, Nat.reduceAdd, Nat.reduceSub, Nat.reduceBEq, Nat.reduceLT, Nat.reduceLeDiff, Nat.reduceEqDiff, decide_true, decide_false, Bool.and_true, Bool.true_and, Bool.or_true, Bool.true_or, Bool.or_false, Bool.false_or, Bool.and_false, Bool.false_and, Bool.not_true, Bool.not_false, Bool.false_eq_true, reduceIte, ite_true, ite_false, beq_self_eq_true, Nat.zero_add, reduceCtorEq, and_self, true_and, and_true, ge_iff_le, gt_iff_lt, Nat.succ_eq_add_one, Nat.add_one_sub_one, Nat.zero_lt_succ, Nat.lt_add_left_iff_pos, Mi.wipeE, Mi.restE, Mi.pick, List.filterMap_cons, List.filterMap_nil, len_cw]
  have c1 : intOf (.tmp (.fz (.int cs.length))) = .ok (cs.length : Int) := rfl
  rw [Mi.v_irg, c0, Mi.v_ok, Mi.v_irg1, c1, Mi.v_ok, Mi.v_irg2, cb, cT, Mi.v_ok, Mi.v_irg3]
theorem rng_len {n : Nat} (h : n < 100) : decide ((rangeD 0 ((n : Int)).toNat).length ≤ 16777216) = true := by
  have rg : rangeD 0 ((n : Int)).toNat = (List.range n).map fun i => D.int (0 + (i : Nat)) := by rw [Int.toNat_natCast]; rfl
  rw [rg, List.length_map, List.length_range]; exact decide_eq_true (by omega)
theorem law_lc (R : Rk) {s : W} {cs : List Int} (h : cs.length < 100) : ∃ w1' : W, cLc [2] (iRange1 (cCallB fLen (cCons true (cVar 1) cNil))) (gSet 2) cYes elt [some s, some (cw cs), none] = .ok (.tmp (.lst ((List.range cs.length).map fun _ => W.fz (.bl true))), [some s, some w1', none]) := by
  obtain ⟨w1', e⟩ := elt_loop R (s := s) (List.range cs.length) (cw cs) (.inl rfl) (fun i hi => List.mem_range.mp hi)
  have rg : rangeD 0 ((cs.length : Int)).toNat = (List.range cs.length).map fun i => D.int (0 + (i : Nat)) := by rw [Int.toNat_natCast]; rfl
  have c0 : chk (([2] : List Nat).all fun v => decide (v < ([some s, some (cw cs), none] : En).length)) = .ok () := rfl
  have cw0 : wipeE [some s, some (cw cs), none] [2] = [some s, some (cw cs), none] := rfl
  have re : restE [some s, some (cw cs), none] [2] [some s, some w1', none] = [some s, some w1', none] := rfl
  refine ⟨w1', ?_⟩
  rw [Mi.v_lc, rng_ok h, Mi.v_ok, Mi.v_lc1, c0, Mi.v_ok, Mi.v_lc2, rng_len h, cT, Mi.v_ok, Mi.v_lc3, cw0, rg, e, Mi.v_ok, Mi.v_lc4, re]
theorem law_all (hand : F_law_by_hand_right [] = .ok (.fz (.bl true), [])) (R : Rk) (ns : List Int) (hn : ns.length ≤ 63) : ∃ bk, Flaw [.fz (.scr (ns.map D.int))] = .ok (.fz (.bl true), bk) := by
  obtain ⟨cs, c0, c1, ce⟩ := cells_ok (ns := ns) (t := 3) (by decide) (by decide) hn
  have ce' : F_law_cells [.fz (.scr (ns.map D.int)), .fz (.int 3)] = .ok (cw cs, [.fz (.scr (ns.map D.int)), .fz (.int 3)]) := ce
  obtain ⟨w1', ci⟩ := law_lc R (s := .fz (.scr (ns.map D.int))) (cs := cs) (by omega)
  have c2 : cIfS (cNotT (cTest (cCallP true F_law_by_hand_right cNil))) (cRet (cC (.bl false))) cNext [some (.fz (.scr (ns.map D.int))), none, none] = .ok (.nx, [some (.fz (.scr (ns.map D.int))), none, none]) := by
    simp only [Mi.v_bin6, Mi.v_bin5, Mi.v_bin4, Mi.v_bin3, Mi.v_bin2, Mi.v_bin1, Mi.v_bin, Mi.v_un3, Mi.v_un2, Mi.v_un1, Mi.v_un, Mi.v_test2, Mi.v_test1, Mi.v_test, Mi.v_cons3, Mi.v_cons2, Mi.v_cons1, Mi.v_cons, Mi.v_star4, Mi.v_star3, Mi.v_star2, Mi.v_star1, Mi.v_star, Mi.v_tup4, Mi.v_tup3, Mi.v_tup2, Mi.v_tup1, Mi.v_tup, Mi.v_lst4, Mi.v_lst3, Mi.v_lst2, Mi.v_lst1, Mi.v_lst, Mi.v_callB3, Mi.v_callB2, Mi.v_callB1, Mi.v_callB, Mi.v_andT1, Mi.v_andT, Mi.v_orT1, Mi.v_orT, Mi.v_notT1, Mi.v_notT, Mi.v_and2, Mi.v_and1, Mi.v_and, Mi.v_or2, Mi.v_or1, Mi.v_or, Mi.v_not2, Mi.v_not1, Mi.v_not, Mi.v_if1, Mi.v_if, Mi.v_orL1, Mi.v_orL, Mi.v_seq1, Mi.v_seq, Mi.v_ifS1, Mi.v_ifS, Mi.v_ret2, Mi.v_ret1, Mi.v_ret, Mi.v_drop1, Mi.v_drop, Mi.v_asg3, Mi.v_asg2, Mi.v_asg1, Mi.v_asg, Mi.v_gset1, Mi.v_gset, Mi.v_gsub5, Mi.v_gsub4, Mi.v_gsub3, Mi.v_gsub2, Mi.v_gsub1, Mi.v_gsub, Mi.v_gsc1, Mi.v_gsc, Mi.v_gsn1, Mi.v_gsn, Mi.v_for1, Mi.v_for, Mi.v_forc2, Mi.v_forc1, Mi.v_forc, Mi.v_lcc2, Mi.v_lcc1, Mi.v_lcc, Mi.v_lcT3, Mi.v_lcT2, Mi.v_lcT1, Mi.v_lcT, Mi.v_lc4, Mi.v_lc3, Mi.v_lc2, Mi.v_lc1, Mi.v_lc, Mi.v_def4, Mi.v_def3, Mi.v_def2, Mi.v_def1, Mi.v_def, Mi.v_callV4, Mi.v_callV3, Mi.v_callV2, Mi.v_callV1, Mi.v_callV, Mi.v_callP4, Mi.v_callP3, Mi.v_callP2, Mi.v_callP1, Mi.v_callP, Mi.v_callKV5, Mi.v_callKV4, Mi.v_callKV3, Mi.v_callKV2, Mi.v_callKV1, Mi.v_callKV, Mi.v_callKP5, Mi.v_callKP4, Mi.v_callKP3, Mi.v_callKP2, Mi.v_callKP1, Mi.v_callKP, Mi.v_callIO5, Mi.v_callIO4, Mi.v_callIO3, Mi.v_callIO2, Mi.v_callIO1, Mi.v_callIO, Mi.v_app7, Mi.v_app6, Mi.v_app5, Mi.v_app4, Mi.v_app3, Mi.v_app2, Mi.v_app1, Mi.v_app, Mi.v_sl6, Mi.v_sl5, Mi.v_sl4, Mi.v_sl3, Mi.v_sl2, Mi.v_sl1, Mi.v_sl, Mi.v_oS2, Mi.v_oS1, Mi.v_oS, Mi.v_iseq3, Mi.v_iseq2, Mi.v_iseq1, Mi.v_iseq, Mi.v_ienum3, Mi.v_ienum2, Mi.v_ienum1, Mi.v_ienum, Mi.v_irg3, Mi.v_irg2, Mi.v_irg1, Mi.v_irg, Mi.v_rgTup3, Mi.v_rgTup2, Mi.v_rgTup1, Mi.v_rgTup, Mi.v_argsc2, Mi.v_argsc1, Mi.v_argsc, Mi.v_putc1, Mi.v_putc, Mi.v_takesc2, Mi.v_takesc1, Mi.v_takesc, Mi.v_contsc2, Mi.v_contsc1, Mi.v_contsc, Mi.v_backsI2, Mi.v_backsI1, Mi.v_backsI, Mi.v_ok, Mi.v_c, Mi.v_nil, Mi.v_next, Mi.v_yes, Mi.v_oN, Mi.v_gtup, Mi.v_var, Mi.v_for0, Mi.v_lc0, Mi.v_args0, Mi.v_put0, Mi.v_takes0, Mi.v_conts0, Mi.v_backs0, Mi.w_add, Mi.w_sub, Mi.w_neg, Mi.w_lt, Mi.w_le, Mi.w_gt, Mi.w_ge, Mi.w_intI, Mi.w_intB, Mi.w_abs, Mi.w_max, Mi.w_min, Mi.w_ix0, Mi.w_ix1, Mi.w_ix2, Mi.w_i0, Mi.w_i1, Mi.w_i2, Mi.pend, Mi.cont, Mi.take, Mi.frz, Mi.frzs, Mi.getP, Mi.setP, Mi.Res.of, Mi.boolOf, Mi.isPl, Mi.mutS, Mi.mutA, Mi.mutP, Mi.intOf, Mi.move, Mi.retOf, Mi.backs1, Mi.put1, Mi.fzT, Mi.ioOf, Mi.chk, Mi.early, Mi.shut, Mi.isTmp, Mi.flatB, Mi.scal, List.map_cons, List.map_nil, List.cons_append, List.nil_append, List.append_nil, List.replicate_succ, List.replicate_zero, List.replicate, List.length_cons, List.length_nil, List.getElem?_cons_zero, List.getElem?_cons_succ, List.set_cons_zero, List.set_cons_succ, List.all_cons, List.all_nil, List.contains_cons, List.contains_nil, List.elem_cons, List.elem_nil, List.isEmpty_nil, List.isEmpty_cons, Nat.reduceAdd, Nat.reduceSub, Nat.reduceBEq, Nat.reduceLT, Nat.reduceLeDiff, Nat.reduceEqDiff, decide_true, decide_false, Bool.and_true, Bool.true_and, Bool.or_true, Bool.true_or, Bool.or_false, Bool.false_or, Bool.and_false, Bool.false_and, Bool.not_true, Bool.not_false, Bool.false_eq_true, reduceIte, ite_true, ite_false, beq_self_eq_true, Nat.zero_add, reduceCtorEq, and_self, true_and, and_true, ge_iff_le, gt_iff_lt, Nat.succ_eq_add_one, Nat.add_one_sub_one, Nat.zero_lt_succ, Nat.lt_add_left_iff_pos, Mi.wipeE, Mi.restE, Mi.pick, List.filterMap_cons, List.filterMap_nil, hand]
  have c3 : cAsg (gSet 1) (cCallP false F_law_cells (cCons true (cVar 0) (cCons true (cC (.int 3)) cNil))) [some (.fz (.scr (ns.map D.int))), none, none] = .ok (.nx, [some (.fz (.scr (ns.map D.int))), some (cw cs), none]) := by
    simp only [Mi.v_bin6, Mi.v_bin5, Mi.v_bin4, Mi.v_bin3, Mi.v_bin2, Mi.v_bin1, Mi.v_bin, Mi.v_un3, Mi.v_un2, Mi.v_un1, Mi.v_un, Mi.v_test2, Mi.v_test1, Mi.v_test, Mi.v_cons3, Mi.v_cons2, Mi.v_cons1, Mi.v_cons, Mi.v_star4, Mi.v_star3, Mi.v_star2, Mi.v_star1, Mi.v_star, Mi.v_tup4, Mi.v_tup3, Mi.v_tup2, Mi.v_tup1, Mi.v_tup, Mi.v_lst4, Mi.v_lst3, Mi.v_lst2, Mi.v_lst1, Mi.v_lst, Mi.v_callB3, Mi.v_callB2, Mi.v_callB1, Mi.v_callB, Mi.v_andT1, Mi.v_andT, Mi.v_orT1, Mi.v_orT, Mi.v_notT1, Mi.v_notT, Mi.v_and2, Mi.v_and1, Mi.v_and, Mi.v_or2, Mi.v_or1, Mi.v_or, Mi.v_not2, Mi.v_not1, Mi.v_not, Mi.v_if1, Mi.v_if, Mi.v_orL1, Mi.v_orL, Mi.v_seq1, Mi.v_seq, Mi.v_ifS1, Mi.v_ifS, Mi.v_ret2, Mi.v_ret1, Mi.v_ret, Mi.v_drop1, Mi.v_drop, Mi.v_asg3, Mi.v_asg2, Mi.v_asg1, Mi.v_asg, Mi.v_gset1, Mi.v_gset, Mi.v_gsub5, Mi.v_gsub4, Mi.v_gsub3, Mi.v_gsub2, Mi.v_gsub1, Mi.v_gsub, Mi.v_gsc1, Mi.v_gsc, Mi.v_gsn1, Mi.v_gsn, Mi.v_for1, Mi.v_for, Mi.v_forc2, Mi.v_forc1, Mi.v_forc, Mi.v_lcc2, Mi.v_lcc1, Mi.v_lcc, Mi.v_lcT3, Mi.v_lcT2, Mi.v_lcT1, Mi.v_lcT, Mi.v_lc4, Mi.v_lc3, Mi.v_lc2, Mi.v_lc1, Mi.v_lc, Mi.v_def4, Mi.v_def3, Mi.v_def2, Mi.v_def1, Mi.v_def, Mi.v_callV4, Mi.v_callV3, Mi.v_callV2, Mi.v_callV1, Mi.v_callV, Mi.v_callP4, Mi.v_callP3, Mi.v_callP2, Mi.v_callP1, Mi.v_callP, Mi.v_callKV5, Mi.v_callKV4, Mi.v_callKV3, Mi.v_callKV2, Mi.v_callKV1, Mi.v_callKV, Mi.v_callKP5, Mi.v_callKP4, Mi.v_callKP3, Mi.v_callKP2, Mi.v_callKP1, Mi.v_callKP, Mi.v_callIO5, Mi.v_callIO4, Mi.v_callIO3, Mi.v_callIO2, Mi.v_callIO1, Mi.v_callIO, Mi.v_app7, Mi.v_app6, Mi.v_app5, Mi.v_app4, Mi.v_app3, Mi.v_app2, Mi.v_app1, Mi.v_app, Mi.v_sl6, Mi.v_sl5, Mi.v_sl4, Mi.v_sl3, Mi.v_sl2, Mi.v_sl1, Mi.v_sl, Mi.v_oS2, Mi.v_oS1, Mi.v_oS, Mi.v_iseq3, Mi.v_iseq2, Mi.v_iseq1, Mi.v_iseq, Mi.v_ienum3, Mi.v_ienum2, Mi.v_ienum1, Mi.v_ienum, Mi.v_irg3, Mi.v_irg2, Mi.v_irg1, Mi.v_irg, Mi.v_rgTup3, Mi.v_rgTup2, Mi.v_rgTup1, Mi.v_rgTup, Mi.v_argsc2, Mi.v_argsc1, Mi.v_argsc, Mi.v_putc1, Mi.v_putc, Mi.v_takesc2, Mi.v_takesc1, Mi.v_takesc, Mi.v_contsc2, Mi.v_contsc1, Mi.v_contsc, Mi.v_backsI2, Mi.v_backsI1, Mi.v_backsI, Mi.v_ok, Mi.v_c, Mi.v_nil, Mi.v_next, Mi.v_yes, Mi.v_oN, Mi.v_gtup, Mi.v_var, Mi.v_for0, Mi.v_lc0, Mi.v_args0, Mi.v_put0, Mi.v_takes0, Mi.v_conts0, Mi.v_backs0, Mi.w_add, Mi.w_sub, Mi.w_neg, Mi.w_lt, Mi.w_le, Mi.w_gt, Mi.w_ge, Mi.w_intI, Mi.w_intB, Mi.w_abs, Mi.w_max, Mi.w_min, Mi.w_ix0, Mi.w_ix1, Mi.w_ix2, Mi.w_i0, Mi.w_i1, Mi.w_i2, Mi.pend, Mi.cont, Mi.take, Mi.frz, Mi.frzs, Mi.getP, Mi.setP, Mi.Res.of, Mi.boolOf, Mi.isPl, Mi.mutS, Mi.mutA, Mi.mutP, Mi.intOf, Mi.move, Mi.retOf, Mi.backs1, Mi.put1, Mi.fzT, Mi.ioOf, Mi.chk, Mi.early, Mi.shut, Mi.isTmp, Mi.flatB, Mi.scal, List.map_cons, List.map_nil, List.cons_append, List.nil_append, List.append_nil, List.replicate_succ, List.replicate_zero, List.replicate, List.length_cons, List.length_nil, List.getElem?_cons_zero, List.getElem?_cons_succ, List.set_cons_zero, List.set_cons_succ, List.all_cons, List.all_nil, List.contains_cons, List.contains_nil, List.elem_cons, List.elem_nil, List.isEmpty_nil, List.isEmpty_cons, Nat.reduceAdd, Nat.reduceSub, Nat.reduceBEq, Nat.reduceLT, Nat.reduceLeDiff, Nat.reduceEqDiff, decide_true, decide_false, Bool.and_true, Bool.true_and, Bool.or_true, Bool.true_or, Bool.or_false, Bool.false_or, Bool.and_false, Bool.false_and, Bool.not_true, Bool.not_false, Bool.false_eq_true, reduceIte, ite_true, ite_false, beq_self_eq_true, Nat.zero_add, reduceCtorEq, and_self, true_and, and_true, ge_iff_le, gt_iff_lt, Nat.succ_eq_add_one, Nat.add_one_sub_one, Nat.zero_lt_succ, Nat.lt_add_left_iff_pos, Mi.wipeE, Mi.restE, Mi.pick, List.filterMap_cons, List.filterMap_nil, ce']
  have c4 : cRet (cCallB fAll (cCons true (cLc [2] (iRange1 (cCallB fLen (cCons true (cVar 1) cNil))) (gSet 2) cYes elt) cNil)) [some (.fz (.scr (ns.map D.int))), some (cw cs), none] = .ok (.ret (.fz (.bl true)), [some (.fz (.scr (ns.map D.int))), some w1', none]) := by
    rw [Mi.v_ret, Mi.v_callB, Mi.v_cons, ci]
    simp only [Mi.v_bin6, Mi.v_bin5, Mi.v_bin4, Mi.v_bin3, Mi.v_bin2, Mi.v_bin1, Mi.v_bin, Mi.v_un3, Mi.v_un2, Mi.v_un1, Mi.v_un, Mi.v_test2, Mi.v_test1, Mi.v_test, Mi.v_cons3, Mi.v_cons2, Mi.v_cons1, Mi.v_cons, Mi.v_star4, Mi.v_star3, Mi.v_star2, Mi.v_star1, Mi.v_star, Mi.v_tup4, Mi.v_tup3, Mi.v_tup2, Mi.v_tup1, Mi.v_tup, Mi.v_lst4, Mi.v_lst3, Mi.v_lst2, Mi.v_lst1, Mi.v_lst, Mi.v_callB3, Mi.v_callB2, Mi.v_callB1, Mi.v_callB, Mi.v_andT1, Mi.v_andT, Mi.v_orT1, Mi.v_orT, Mi.v_notT1, Mi.v_notT, Mi.v_and2, Mi.v_and1, Mi.v_and, Mi.v_or2, Mi.v_or1, Mi.v_or, Mi.v_not2, Mi.v_not1, Mi.v_not, Mi.v_if1, Mi.v_if, Mi.v_orL1, Mi.v_orL, Mi.v_seq1, Mi.v_seq, Mi.v_ifS1, Mi.v_ifS, Mi.v_ret2, Mi.v_ret1, Mi.v_ret, Mi.v_drop1, Mi.v_drop, Mi.v_asg3, Mi.v_asg2, Mi.v_asg1, Mi.v_asg, Mi.v_gset1, Mi.v_gset, Mi.v_gsub5, Mi.v_gsub4, Mi.v_gsub3, Mi.v_gsub2, Mi.v_gsub1, Mi.v_gsub, Mi.v_gsc1, Mi.v_gsc, Mi.v_gsn1, Mi.v_gsn, Mi.v_for1, Mi.v_for, Mi.v_forc2, Mi.v_forc1, Mi.v_forc, Mi.v_lcc2, Mi.v_lcc1, Mi.v_lcc, Mi.v_lcT3, Mi.v_lcT2, Mi.v_lcT1, Mi.v_lcT, Mi.v_lc4, Mi.v_lc3, Mi.v_lc2, Mi.v_lc1, Mi.v_lc, Mi.v_def4, Mi.v_def3, Mi.v_def2, Mi.v_def1, Mi.v_def, Mi.v_callV4, Mi.v_callV3, Mi.v_callV2, Mi.v_callV1, Mi.v_callV, Mi.v_callP4, Mi.v_callP3, Mi.v_callP2, Mi.v_callP1, Mi.v_callP, Mi.v_callKV5, Mi.v_callKV4, Mi.v_callKV3, Mi.v_callKV2, Mi.v_callKV1, Mi.v_callKV, Mi.v_callKP5, Mi.v_callKP4, Mi.v_callKP3, Mi.v_callKP2, Mi.v_callKP1, Mi.v_callKP, Mi.v_callIO5, Mi.v_callIO4, Mi.v_callIO3, Mi.v_callIO2, Mi.v_callIO1, Mi.v_callIO, Mi.v_app7, Mi.v_app6, Mi.v_app5, Mi.v_app4, Mi.v_app3, Mi.v_app2, Mi.v_app1, Mi.v_app, Mi.v_sl6, Mi.v_sl5, Mi.v_sl4, Mi.v_sl3, Mi.v_sl2, Mi.v_sl1, Mi.v_sl, Mi.v_oS2, Mi.v_oS1, Mi.v_oS, Mi.v_iseq3, Mi.v_iseq2, Mi.v_iseq1, Mi.v_iseq, Mi.v_ienum3, Mi.v_ienum2, Mi.v_ienum1, Mi.v_ienum, Mi.v_irg3, Mi.v_irg2, Mi.v_irg1, Mi.v_irg, Mi.v_rgTup3, Mi.v_rgTup2, Mi.v_rgTup1, Mi.v_rgTup, Mi.v_argsc2, Mi.v_argsc1, Mi.v_argsc, Mi.v_putc1, Mi.v_putc, Mi.v_takesc2, Mi.v_takesc1, Mi.v_takesc, Mi.v_contsc2, Mi.v_contsc1, Mi.v_contsc, Mi.v_backsI2, Mi.v_backsI1, Mi.v_backsI, Mi.v_ok, Mi.v_c, Mi.v_nil, Mi.v_next, Mi.v_yes, Mi.v_oN, Mi.v_gtup, Mi.v_var, Mi.v_for0, Mi.v_lc0, Mi.v_args0, Mi.v_put0, Mi.v_takes0, Mi.v_conts0, Mi.v_backs0, Mi.w_add, Mi.w_sub, Mi.w_neg, Mi.w_lt, Mi.w_le, Mi.w_gt, Mi.w_ge, Mi.w_intI, Mi.w_intB, Mi.w_abs, Mi.w_max, Mi.w_min, Mi.w_ix0, Mi.w_ix1, Mi.w_ix2, Mi.w_i0, Mi.w_i1, Mi.w_i2, Mi.pend, Mi.cont, Mi.take, Mi.frz, Mi.frzs, Mi.getP, Mi.setP, Mi.Res.of, Mi.boolOf, Mi.isPl, Mi.mutS, Mi.mutA, Mi.mutP, Mi.intOf, Mi.move, Mi.retOf, Mi.backs1, Mi.put1, Mi.fzT, Mi.ioOf, Mi.chk, Mi.early, Mi.shut, Mi.isTmp, Mi.flatB, Mi.scal, List.map_cons, List.map_nil, List.cons_append, List.nil_append, List.append_nil, List.replicate_succ, List.replicate_zero, List.replicate, List.length_cons, List.length_nil, List.getElem?_cons_zero, List.getElem?_cons_succ, List.set_cons_zero, List.set_cons_succ, List.all_cons, List.all_nil, List.contains_cons, List.contains_nil, List.elem_cons, List.elem_nil, List.isEmpty_nil, List.isEmpty_cons, Nat.reduceAdd, Nat.reduceSub, Nat.reduceBEq, Nat.reduceLT, Nat.reduceLeDiff, Nat.reduceEqDiff, decide_true, decide_false, Bool.and_true, Bool.true_and, Bool.or_true, Bool.true_or, Bool.or_false, Bool.false_or, Bool.and_false, Bool.false_and, Bool.not_true, Bool.not_false, Bool.false_eq_true, reduceIte, ite_true, ite_false, beq_self_eq_true, Nat.zero_add, reduceCtorEq, and_self, true_and, and_true, ge_iff_le, gt_iff_lt, Nat.succ_eq_add_one, Nat.add_one_sub_one, Nat.zero_lt_succ, Nat.lt_add_left_iff_pos, Mi.wipeE, Mi.restE, Mi.pick, List.filterMap_cons, List.filterMap_nil, frzs_bl, all_bl]
  have c5 : mlaw [some (.fz (.scr (ns.map D.int))), none, none] = .ok (.ret (.fz (.bl true)), [some (.fz (.scr (ns.map D.int))), some w1', none]) := by
    unfold mlaw
    rw [Mi.v_seq, c2, Mi.v_ok, Mi.v_seq1]
    dsimp only
    rw [Mi.v_seq, c3, Mi.v_ok, Mi.v_seq1]
    exact c4
  refine ⟨[.fz (.scr (ns.map D.int))], ?_⟩
  simp only [Flaw, Mi.v_bin6, Mi.v_bin5, Mi.v_bin4, Mi.v_bin3, Mi.v_bin2, Mi.v_bin1, Mi.v_bin, Mi.v_un3, Mi.v_un2, Mi.v_un1, Mi.v_un, Mi.v_test2, Mi.v_test1, Mi.v_test, Mi.v_cons3, Mi.v_cons2, Mi.v_cons1, Mi.v_cons, Mi.v_star4, Mi.v_star3, Mi.v_star2, Mi.v_star1, Mi.v_star, Mi.v_tup4, Mi.v_tup3, Mi.v_tup2, Mi.v_tup1, Mi.v_tup, Mi.v_lst4, Mi.v_lst3, Mi.v_lst2, Mi.v_lst1, Mi.v_lst, Mi.v_callB3, Mi.v_callB2, Mi.v_callB1, Mi.v_callB, Mi.v_andT1, Mi.v_andT, Mi.v_orT1, Mi.v_orT, Mi.v_notT1, Mi.v_notT, Mi.v_and2, Mi.v_and1, Mi.v_and, Mi.v_or2, Mi.v_or1, Mi.v_or, Mi.v_not2, Mi.v_not1, Mi.v_not, Mi.v_if1, Mi.v_if, Mi.v_orL1, Mi.v_orL, Mi.v_seq1, Mi.v_seq, Mi.v_ifS1, Mi.v_ifS, Mi.v_ret2, Mi.v_ret1, Mi.v_ret, Mi.v_drop1, Mi.v_drop, Mi.v_asg3, Mi.v_asg2, Mi.v_asg1, Mi.v_asg, Mi.v_gset1, Mi.v_gset, Mi.v_gsub5, Mi.v_gsub4, Mi.v_gsub3, Mi.v_gsub2, Mi.v_gsub1, Mi.v_gsub, Mi.v_gsc1, Mi.v_gsc, Mi.v_gsn1, Mi.v_gsn, Mi.v_for1, Mi.v_for, Mi.v_forc2, Mi.v_forc1, Mi.v_forc, Mi.v_lcc2, Mi.v_lcc1, Mi.v_lcc, Mi.v_lcT3, Mi.v_lcT2, Mi.v_lcT1, Mi.v_lcT, Mi.v_lc4, Mi.v_lc3, Mi.v_lc2, Mi.v_lc1, Mi.v_lc, Mi.v_def4, Mi.v_def3, Mi.v_def2, Mi.v_def1, Mi.v_def, Mi.v_callV4, Mi.v_callV3, Mi.v_callV2, Mi.v_callV1, Mi.v_callV, Mi.v_callP4, Mi.v_callP3, Mi.v_callP2, Mi.v_callP1, Mi.v_callP, Mi.v_callKV5, Mi.v_callKV4, Mi.v_callKV3, Mi.v_callKV2, Mi.v_callKV1, Mi.v_callKV, Mi.v_callKP5, Mi.v_callKP4, Mi.v_callKP3, Mi.v_callKP2, Mi.v_callKP1, Mi.v_callKP, Mi.v_callIO5, Mi.v_callIO4, Mi.v_callIO3, Mi.v_callIO2, Mi.v_callIO1, Mi.v_callIO, Mi.v_app7, Mi.v_app6, Mi.v_app5, Mi.v_app4, Mi.v_app3, Mi.v_app2, Mi.v_app1, Mi.v_app, Mi.v_sl6, Mi.v_sl5, Mi.v_sl4, Mi.v_sl3, Mi.v_sl2, Mi.v_sl1, Mi.v_sl, Mi.v_oS2, Mi.v_oS1, Mi.v_oS, Mi.v_iseq3, Mi.v_iseq2, Mi.v_iseq1, Mi.v_iseq, Mi.v_ienum3, Mi.v_ienum2, Mi.v_ienum1, Mi.v_ienum, Mi.v_irg3, Mi.v_irg2, Mi.v_irg1, Mi.v_irg, Mi.v_rgTup3, Mi.v_rgTup2, Mi.v_rgTup1, Mi.v_rgTup, Mi.v_argsc2, Mi.v_argsc1, Mi.v_argsc, Mi.v_putc1, Mi.v_putc, Mi.v_takesc2, Mi.v_takesc1, Mi.v_takesc, Mi.v_contsc2, Mi.v_contsc1, Mi.v_contsc, Mi.v_backsI2, Mi.v_backsI1, Mi.v_backsI, Mi.v_ok, Mi.v_c, Mi.v_nil, Mi.v_next, Mi.v_yes, Mi.v_oN, Mi.v_gtup, Mi.v_var, Mi.v_for0, Mi.v_lc0, Mi.v_args0, Mi.v_put0, Mi.v_takes0, Mi.v_conts0, Mi.v_backs0, Mi.w_add, Mi.w_sub, Mi.w_neg, Mi.w_lt, Mi.w_le, Mi.w_gt, Mi.w_ge, Mi.w_intI, Mi.w_intB, Mi.w_abs, Mi.w_max, Mi.w_min, Mi.w_ix0, Mi.w_ix1, Mi.w_ix2, Mi.w_i0, Mi.w_i1, Mi.w_i2, Mi.pend, Mi.cont, Mi.take, Mi.frz, Mi.frzs, Mi.getP, Mi.setP, Mi.Res.of, Mi.boolOf, Mi.isPl, Mi.mutS, Mi.mutA, Mi.mutP, Mi.intOf, Mi.move, Mi.retOf, Mi.backs1, Mi.put1, Mi.fzT, Mi.ioOf, Mi.chk, Mi.early, Mi.shut, Mi.isTmp, Mi.flatB, Mi.scal, List.map_cons, List.map_nil, List.cons_append, List.nil_append, List.append_nil, List.replicate_succ, List.replicate_zero, List.replicate, List.length_cons, List.length_nil, List.getElem?_cons_zero, List.getElem?_cons_succ, List.set_cons_zero, List.set_cons_succ, List.all_cons, List.all_nil, List.contains_cons, List.contains_nil, List.elem_cons, List.elem_nil, List.isEmpty_nil, List.isEmpty_cons, Nat.reduceAdd, Nat.reduceSub, Nat.reduceBEq, Nat.reduceLT, Nat.reduceLeDiff, Nat.reduceEqDiff, decide_true, decide_false, Bool.and_true, Bool.true_and, Bool.or_true, Bool.true_or, Bool.or_false, Bool.false_or, Bool.and_false, Bool.false_and, Bool.not_true, Bool.not_false, Bool.false_eq_true, reduceIte, ite_true, ite_false, beq_self_eq_true, Nat.zero_add, reduceCtorEq, and_self, true_and, and_true, ge_iff_le, gt_iff_lt, Nat.succ_eq_add_one, Nat.add_one_sub_one, Nat.zero_lt_succ, Nat.lt_add_left_iff_pos, Mi.wipeE, Mi.restE, Mi.pick, List.filterMap_cons, List.filterMap_nil, c5]
end Gn
namespace Gn
open Mi PySem PySem.Spec PyProof.Rows L2
/-- a frozen row of ints -/
def Row (x : D) (gs : List Int) : Prop := x = .tup (gs.map D.int) ∨ x = .lst (gs.map D.int)
theorem Row.src {x : D} {gs : List Int} (h : Row x gs) : srcV (.fz x) = some (gs.map D.int) := by rcases h with h | h <;> subst h <;> rfl
theorem pos_lc {x : D} : ∀ gs : List Int, lcL [1] (gSet 1) (cTest (cBin fGt true (cVar 1) (cC (.int 0)))) (cVar 1) (gs.map D.int) [some (.fz x), none] = .ok ((gs.filter fun g => decide (0 < g)).map fun n => W.fz (.int n), [some (.fz x), none])
  | [] => rfl
  | g :: gs => by
    have ih := pos_lc (x := x) gs
    by_cases h : 0 < g
    · simp only [List.map_cons (f := D.int), Mi.v_bin6, Mi.v_bin5, Mi.v_bin4, Mi.v_bin3, Mi.v_bin2, Mi.v_bin1, Mi.v_bin, Mi.v_un3, Mi.v_un2, Mi.v_un1, Mi.v_un, Mi.v_test2, Mi.v_test1, Mi.v_test, Mi.v_cons3, Mi.v_cons2, Mi.v_cons1, Mi.v_cons, Mi.v_star4, Mi.v_star3, Mi.v_star2, Mi.v_star1, Mi.v_star, Mi.v_tup4, Mi.v_tup3, Mi.v_tup2, Mi.v_tup1, Mi.v_tup, Mi.v_lst4, Mi.v_lst3, Mi.v_lst2, Mi.v_lst1, Mi.v_lst, Mi.v_callB3, Mi.v_callB2, Mi.v_callB1, Mi.v_callB, Mi.v_andT1, Mi.v_andT, Mi.v_orT1, Mi.v_orT, Mi.v_notT1, Mi.v_notT, Mi.v_and2, Mi.v_and1, Mi.v_and, Mi.v_or2, Mi.v_or1, Mi.v_or, Mi.v_not2, Mi.v_not1, Mi.v_not, Mi.v_if1, Mi.v_if, Mi.v_orL1, Mi.v_orL, Mi.v_seq1, Mi.v_seq, Mi.v_ifS1, Mi.v_ifS, Mi.v_ret2, Mi.v_ret1, Mi.v_ret, Mi.v_drop1, Mi.v_drop, Mi.v_asg3, Mi.v_asg2, Mi.v_asg1, Mi.v_asg, Mi.v_gset1, Mi.v_gset, Mi.v_gsub5, Mi.v_gsub4, Mi.v_gsub3, Mi.v_gsub2, Mi.v_gsub1, Mi.v_gsub, Mi.v_gsc1, Mi.v_gsc, Mi.v_gsn1, Mi.v_gsn, Mi.v_for1, Mi.v_for, Mi.v_forc2, Mi.v_forc1, Mi.v_forc, Mi.v_lcc2, Mi.v_lcc1, Mi.v_lcc, Mi.v_lcT3, Mi.v_lcT2, Mi.v_lcT1, Mi.v_lcT, Mi.v_lc4, Mi.v_lc3, Mi.v_lc2, Mi.v_lc1, Mi.v_lc, Mi.v_def4, Mi.v_def3, Mi.v_def2, Mi.v_def1, Mi.v_def, Mi.v_callV4, Mi.v_callV3, Mi.v_callV2, Mi.v_callV1, Mi.v_callV, Mi.v_callP4, Mi.v_callP3, Mi.v_callP2, Mi.v_callP1, Mi.v_callP, Mi.v_callKV5, Mi.v_callKV4, Mi.v_callKV3, Mi.v_callKV2, Mi.v_callKV1, Mi.v_callKV, Mi.v_callKP5, Mi.v_callKP4, Mi.v_callKP3, Mi.v_callKP2, Mi.v_callKP1, Mi.v_callKP, Mi.v_callIO5, Mi.v_callIO4, Mi.v_callIO3, Mi.v_callIO2, Mi.v_callIO1, Mi.v_callIO, Mi.v_app7, Mi.v_app6, Mi.v_app5, Mi.v_app4, Mi.v_app3, Mi.v_app2, Mi.v_app1, Mi.v_app, Mi.v_sl6, Mi.v_sl5, Mi.v_sl4, Mi.v_sl3, Mi.v_sl2, Mi.v_sl1, Mi.v_sl, Mi.v_oS2, Mi.v_oS1, Mi.v_oS, Mi.v_iseq3, Mi.v_iseq2, Mi.v_iseq1, Mi.v_iseq, Mi.v_ienum3, Mi.v_ienum2, Mi.v_ienum1, Mi.v_ienum, Mi.v_irg3, Mi.v_irg2, Mi.v_irg1, Mi.v_irg, Mi.v_rgTup3, Mi.v_rgTup2, Mi.v_rgTup1, Mi.v_rgTup, Mi.v_argsc2, Mi.v_argsc1, Mi.v_argsc, Mi.v_putc1, Mi.v_putc, Mi.v_takesc2, Mi.v_takesc1, Mi.v_takesc, Mi.v_contsc2, Mi.v_contsc1, Mi.v_contsc, Mi.v_backsI2, Mi.v_backsI1, Mi.v_backsI, Mi.v_ok, Mi.v_c, Mi.v_nil, Mi.v_next, Mi.v_yes, Mi.v_oN, Mi.v_gtup, Mi.v_var, Mi.v_for0, Mi.v_lc0, Mi.v_args0, Mi.v_put0, Mi.v_takes0, Mi.v_conts0, Mi.v_backs0, Mi.w_add, Mi.w_sub, Mi.w_neg, Mi.w_lt, Mi.w_le, Mi.w_gt, Mi.w_ge, Mi.w_intI, Mi.w_intB, Mi.w_abs, Mi.w_max, Mi.w_min, Mi.w_ix0, Mi.w_ix1, Mi.w_ix2, Mi.w_i0, Mi.w_i1, Mi.w_i2, Mi.pend, Mi.cont, Mi.take, Mi.frz, Mi.frzs, Mi.getP, Mi.setP, Mi.Res.of, Mi.boolOf, Mi.isPl, Mi.mutS, Mi.mutA, Mi.mutP, Mi.intOf, Mi.move, Mi.retOf, Mi.backs1, Mi.put1, Mi.fzT, Mi.ioOf, Mi.chk, Mi.early, Mi.shut, Mi.isTmp, Mi.flatB, Mi.scal, List.map_cons, List.map_nil, List.cons_append, List.nil_append, List.append_nil, List.replicate_succ, List.replicate_zero, List.replicate, List.length_cons, List.length_nil, List.getElem?_cons_zero, List.getElem?_cons_succ, List.set_cons_zero, List.set_cons_succ, List.all_cons, List.all_nil, List.contains_cons, List.contains_nil, List.elem_cons, List.elem_nil, List.isEmpty_nil, List.isEmpty_cons, Nat.reduceAdd, Nat.reduceSub, Nat.reduceBEq, Nat.reduceLT, Nat.reduceLeDiff, Nat.reduceEqDiff, decide_true, decide_false, Bool.and_true, Bool.true_and, Bool.or_true, Bool.true_or, Bool.or_false, Bool.false_or, Bool.and_false, Bool.false_and, Bool.not_true, Bool.not_false, Bool.false_eq_true, reduceIte, ite_true, ite_false, beq_self_eq_true, Nat.zero_add, reduceCtorEq, and_self, true_and, and_true, ge_iff_le, gt_iff_lt, Nat.succ_eq_add_one, Nat.add_one_sub_one, Nat.zero_lt_succ, Nat.lt_add_left_iff_pos, Mi.wipeE, Mi.restE, Mi.pick, List.filterMap_cons, List.filterMap_nil, h, ih, List.filter_cons]
    · simp only [List.map_cons (f := D.int), Mi.v_bin6, Mi.v_bin5, Mi.v_bin4, Mi.v_bin3, Mi.v_bin2, Mi.v_bin1, Mi.v_bin, Mi.v_un3, Mi.v_un2, Mi.v_un1, Mi.v_un, Mi.v_test2, Mi.v_test1, Mi.v_test, Mi.v_cons3, Mi.v_cons2, Mi.v_cons1, Mi.v_cons, Mi.v_star4, Mi.v_star3, Mi.v_star2, Mi.v_star1, Mi.v_star, Mi.v_tup4, Mi.v_tup3, Mi.v_tup2, Mi.v_tup1, Mi.v_tup, Mi.v_lst4, Mi.v_lst3, Mi.v_lst2, Mi.v_lst1, Mi.v_lst, Mi.v_callB3, Mi.v_callB2, Mi.v_callB1, Mi.v_callB, Mi.v_andT1, Mi.v_andT, Mi.v_orT1, Mi.v_orT, Mi.v_notT1, Mi.v_notT, Mi.v_and2, Mi.v_and1, Mi.v_and, Mi.v_or2, Mi.v_or1, Mi.v_or, Mi.v_not2, Mi.v_not1, Mi.v_not, Mi.v_if1, Mi.v_if, Mi.v_orL1, Mi.v_orL, Mi.v_seq1, Mi.v_seq, Mi.v_ifS1, Mi.v_ifS, Mi.v_ret2, Mi.v_ret1, Mi.v_ret, Mi.v_drop1, Mi.v_drop, Mi.v_asg3, Mi.v_asg2, Mi.v_asg1, Mi.v_asg, Mi.v_gset1, Mi.v_gset, Mi.v_gsub5, Mi.v_gsub4, Mi.v_gsub3, Mi.v_gsub2, Mi.v_gsub1, Mi.v_gsub, Mi.v_gsc1, Mi.v_gsc, Mi.v_gsn1, Mi.v_gsn, Mi.v_for1, Mi.v_for, Mi.v_forc2, Mi.v_forc1, Mi.v_forc, Mi.v_lcc2, Mi.v_lcc1, Mi.v_lcc, Mi.v_lcT3, Mi.v_lcT2, Mi.v_lcT1, Mi.v_lcT, Mi.v_lc4, Mi.v_lc3, Mi.v_lc2, Mi.v_lc1, Mi.v_lc, Mi.v_def4, Mi.v_def3, Mi.v_def2, Mi.v_def1, Mi.v_def, Mi.v_callV4, Mi.v_callV3, Mi.v_callV2, Mi.v_callV1, Mi.v_callV, Mi.v_callP4, Mi.v_callP3, Mi.v_callP2, Mi.v_callP1, Mi.v_callP, Mi.v_callKV5, Mi.v_callKV4, Mi.v_callKV3, Mi.v_callKV2, Mi.v_callKV1, Mi.v_callKV, Mi.v_callKP5, Mi.v_callKP4, Mi.v_callKP3, Mi.v_callKP2, Mi.v_callKP1, Mi.v_callKP, Mi.v_callIO5, Mi.v_callIO4, Mi.v_callIO3, Mi.v_callIO2, Mi.v_callIO1, Mi.v_callIO, Mi.v_app7, Mi.v_app6, Mi.v_app5, Mi.v_app4, Mi.v_app3, Mi.v_app2, Mi.v_app1, Mi.v_app, Mi.v_sl6, Mi.v_sl5, Mi.v_sl4, Mi.v_sl3, Mi.v_sl2, Mi.v_sl1, Mi.v_sl, Mi.v_oS2, Mi.v_oS1, Mi.v_oS, Mi.v_iseq3, Mi.v_iseq2, Mi.v_iseq1, Mi.v_iseq, Mi.v_ienum3, Mi.v_ienum2, Mi.v_ienum1, Mi.v_ienum, Mi.v_irg3, Mi.v_irg2, Mi.v_irg1, Mi.v_irg, Mi.v_rgTup3, Mi.v_rgTup2, Mi.v_rgTup1, Mi.v_rgTup, Mi.v_argsc2, Mi.v_argsc1, Mi.v_argsc, Mi.v_putc1, Mi.v_putc, Mi.v_takesc2, Mi.v_takesc1, Mi.v_takesc, Mi.v_contsc2, Mi.v_contsc1, Mi.v_contsc, Mi.v_backsI2, Mi.v_backsI1, Mi.v_backsI, Mi.v_ok, Mi.v_c, Mi.v_nil, Mi.v_next, Mi.v_yes, Mi.v_oN, Mi.v_gtup, Mi.v_var, Mi.v_for0, Mi.v_lc0, Mi.v_args0, Mi.v_put0, Mi.v_takes0, Mi.v_conts0, Mi.v_backs0, Mi.w_add, Mi.w_sub, Mi.w_neg, Mi.w_lt, Mi.w_le, Mi.w_gt, Mi.w_ge, Mi.w_intI, Mi.w_intB, Mi.w_abs, Mi.w_max, Mi.w_min, Mi.w_ix0, Mi.w_ix1, Mi.w_ix2, Mi.w_i0, Mi.w_i1, Mi.w_i2, Mi.pend, Mi.cont, Mi.take, Mi.frz, Mi.frzs, Mi.getP, Mi.setP, Mi.Res.of, Mi.boolOf, Mi.isPl, Mi.mutS, Mi.mutA, Mi.mutP, Mi.intOf, Mi.move, Mi.retOf, Mi.backs1, Mi.put1, Mi.fzT, Mi.ioOf, Mi.chk, Mi.early, Mi.shut, Mi.isTmp, Mi.flatB, Mi.scal, List.map_cons, List.map_nil, List.cons_append, List.nil_append, List.append_nil, List.replicate_succ, List.replicate_zero, List.replicate, List.length_cons, List.length_nil, List.getElem?_cons_zero, List.getElem?_cons_succ, List.set_cons_zero, List.set_cons_succ, List.all_cons, List.all_nil, List.contains_cons, List.contains_nil, List.elem_cons, List.elem_nil, List.isEmpty_nil, List.isEmpty_cons, Nat.reduceAdd, Nat.reduceSub, Nat.reduceBEq, Nat.reduceLT, Nat.reduceLeDiff, Nat.reduceEqDiff, decide_true, decide_false, Bool.and_true, Bool.true_and, Bool.or_true, Bool.true_or, Bool.or_false, Bool.false_or, Bool.and_false, Bool.false_and, Bool.not_true, Bool.not_false, Bool.false_eq_true, reduceIte, ite_true, ite_false, beq_self_eq_true, Nat.zero_add, reduceCtorEq, and_self, true_and, and_true, ge_iff_le, gt_iff_lt, Nat.succ_eq_add_one, Nat.add_one_sub_one, Nat.zero_lt_succ, Nat.lt_add_left_iff_pos, Mi.wipeE, Mi.restE, Mi.pick, List.filterMap_cons, List.filterMap_nil, h, ih, List.filter_cons]
theorem neg_lc {x : D} : ∀ gs : List Int, lcL [1] (gSet 1) (cTest (cBin fLt true (cVar 1) (cC (.int 0)))) (cVar 1) (gs.map D.int) [some (.fz x), none] = .ok ((gs.filter fun g => decide (g < 0)).map fun n => W.fz (.int n), [some (.fz x), none])
  | [] => rfl
  | g :: gs => by
    have ih := neg_lc (x := x) gs
    by_cases h : g < 0
    · simp only [List.map_cons (f := D.int), Mi.v_bin6, Mi.v_bin5, Mi.v_bin4, Mi.v_bin3, Mi.v_bin2, Mi.v_bin1, Mi.v_bin, Mi.v_un3, Mi.v_un2, Mi.v_un1, Mi.v_un, Mi.v_test2, Mi.v_test1, Mi.v_test, Mi.v_cons3, Mi.v_cons2, Mi.v_cons1, Mi.v_cons, Mi.v_star4, Mi.v_star3, Mi.v_star2, Mi.v_star1, Mi.v_star, Mi.v_tup4, Mi.v_tup3, Mi.v_tup2, Mi.v_tup1, Mi.v_tup, Mi.v_lst4, Mi.v_lst3, Mi.v_lst2, Mi.v_lst1, Mi.v_lst, Mi.v_callB3, Mi.v_callB2, Mi.v_callB1, Mi.v_callB, Mi.v_andT1, Mi.v_andT, Mi.v_orT1, Mi.v_orT, Mi.v_notT1, Mi.v_notT, Mi.v_and2, Mi.v_and1, Mi.v_and, Mi.v_or2, Mi.v_or1, Mi.v_or, Mi.v_not2, Mi.v_not1, Mi.v_not, Mi.v_if1, Mi.v_if, Mi.v_orL1, Mi.v_orL, Mi.v_seq1, Mi.v_seq, Mi.v_ifS1, Mi.v_ifS, Mi.v_ret2, Mi.v_ret1, Mi.v_ret, Mi.v_drop1, Mi.v_drop, Mi.v_asg3, Mi.v_asg2, Mi.v_asg1, Mi.v_asg, Mi.v_gset1, Mi.v_gset, Mi.v_gsub5, Mi.v_gsub4, Mi.v_gsub3, Mi.v_gsub2, Mi.v_gsub1, Mi.v_gsub, Mi.v_gsc1, Mi.v_gsc, Mi.v_gsn1, Mi.v_gsn, Mi.v_for1, Mi.v_for, Mi.v_forc2, Mi.v_forc1, Mi.v_forc, Mi.v_lcc2, Mi.v_lcc1, Mi.v_lcc, Mi.v_lcT3, Mi.v_lcT2, Mi.v_lcT1, Mi.v_lcT, Mi.v_lc4, Mi.v_lc3, Mi.v_lc2, Mi.v_lc1, Mi.v_lc, Mi.v_def4, Mi.v_def3, Mi.v_def2, Mi.v_def1, Mi.v_def, Mi.v_callV4, Mi.v_callV3, Mi.v_callV2, Mi.v_callV1, Mi.v_callV, Mi.v_callP4, Mi.v_callP3, Mi.v_callP2, Mi.v_callP1, Mi.v_callP, Mi.v_callKV5, Mi.v_callKV4, Mi.v_callKV3, Mi.v_callKV2, Mi.v_callKV1, Mi.v_callKV, Mi.v_callKP5, Mi.v_callKP4, Mi.v_callKP3, Mi.v_callKP2, Mi.v_callKP1, Mi.v_callKP, Mi.v_callIO5, Mi.v_callIO4, Mi.v_callIO3, Mi.v_callIO2, Mi.v_callIO1, Mi.v_callIO, Mi.v_app7, Mi.v_app6, Mi.v_app5, Mi.v_app4, Mi.v_app3, Mi.v_app2, Mi.v_app1, Mi.v_app, Mi.v_sl6, Mi.v_sl5, Mi.v_sl4, Mi.v_sl3, Mi.v_sl2, Mi.v_sl1, Mi.v_sl, Mi.v_oS2, Mi.v_oS1, Mi.v_oS, Mi.v_iseq3, Mi.v_iseq2, Mi.v_iseq1, Mi.v_iseq, Mi.v_ienum3, Mi.v_ienum2, Mi.v_ienum1, Mi.v_ienum, Mi.v_irg3, Mi.v_irg2, Mi.v_irg1, Mi.v_irg, Mi.v_rgTup3, Mi.v_rgTup2, Mi.v_rgTup1, Mi.v_rgTup, Mi.v_argsc2, Mi.v_argsc1, Mi.v_argsc, Mi.v_putc1, Mi.v_putc, Mi.v_takesc2, Mi.v_takesc1, Mi.v_takesc, Mi.v_contsc2, Mi.v_contsc1, Mi.v_contsc, Mi.v_backsI2, Mi.v_backsI1, Mi.v_backsI, Mi.v_ok, Mi.v_c, Mi.v_nil, Mi.v_next, Mi.v_yes, Mi.v_oN, Mi.v_gtup, Mi.v_var, Mi.v_for0, Mi.v_lc0, Mi.v_args0, Mi.v_put0, Mi.v_takes0, Mi.v_conts0, Mi.v_backs0, Mi.w_add, Mi.w_sub, Mi.w_neg, Mi.w_lt, Mi.w_le, Mi.w_gt, Mi.w_ge, Mi.w_intI, Mi.w_intB, Mi.w_abs, Mi.w_max, Mi.w_min, Mi.w_ix0, Mi.w_ix1, Mi.w_ix2, Mi.w_i0, Mi.w_i1, Mi.w_i2, Mi.pend, Mi.cont, Mi.take, Mi.frz, Mi.frzs, Mi.getP, Mi.setP, Mi.Res.of, Mi.boolOf, Mi.isPl, Mi.mutS, Mi.mutA, Mi.mutP, Mi.intOf, Mi.move, Mi.retOf, Mi.backs1, Mi.put1, Mi.fzT, Mi.ioOf, Mi.chk, Mi.early, Mi.shut, Mi.isTmp, Mi.flatB, Mi.scal, List.map_cons, List.map_nil, List.cons_append, List.nil_append, List.append_nil, List.replicate_succ, List.replicate_zero, List.replicate, List.length_cons, List.length_nil, List.getElem?_cons_zero, List.getElem?_cons_succ, List.set_cons_zero, List.set_cons_succ, List.all_cons, List.all_nil, List.contains_cons, List.contains_nil, List.elem_cons, List.elem_nil, List.isEmpty_nil, List.isEmpty_cons, Nat.reduceAdd, Nat.reduceSub, Nat.reduceBEq, Nat.reduceLT, Nat.reduceLeDiff, Nat.reduceEqDiff, decide_true, decide_false, Bool.and_true, Bool.true_and, Bool.or_true, Bool.true_or, Bool.or_false, Bool.false_or, Bool.and_false, Bool.false_and, Bool.not_true, Bool.not_false, Bool.false_eq_true, reduceIte, ite_true, ite_false, beq_self_eq_true, Nat.zero_add, reduceCtorEq, and_self, true_and, and_true, ge_iff_le, gt_iff_lt, Nat.succ_eq_add_one, Nat.add_one_sub_one, Nat.zero_lt_succ, Nat.lt_add_left_iff_pos, Mi.wipeE, Mi.restE, Mi.pick, List.filterMap_cons, List.filterMap_nil, h, ih, List.filter_cons]
    · simp only [List.map_cons (f := D.int), Mi.v_bin6, Mi.v_bin5, Mi.v_bin4, Mi.v_bin3, Mi.v_bin2, Mi.v_bin1, Mi.v_bin, Mi.v_un3, Mi.v_un2, Mi.v_un1, Mi.v_un, Mi.v_test2, Mi.v_test1, Mi.v_test, Mi.v_cons3, Mi.v_cons2, Mi.v_cons1, Mi.v_cons, Mi.v_star4, Mi.v_star3, Mi.v_star2, Mi.v_star1, Mi.v_star, Mi.v_tup4, Mi.v_tup3, Mi.v_tup2, Mi.v_tup1, Mi.v_tup, Mi.v_lst4, Mi.v_lst3, Mi.v_lst2, Mi.v_lst1, Mi.v_lst, Mi.v_callB3, Mi.v_callB2, Mi.v_callB1, Mi.v_callB, Mi.v_andT1, Mi.v_andT, Mi.v_orT1, Mi.v_orT, Mi.v_notT1, Mi.v_notT, Mi.v_and2, Mi.v_and1, Mi.v_and, Mi.v_or2, Mi.v_or1, Mi.v_or, Mi.v_not2, Mi.v_not1, Mi.v_not, Mi.v_if1, Mi.v_if, Mi.v_orL1, Mi.v_orL, Mi.v_seq1, Mi.v_seq, Mi.v_ifS1, Mi.v_ifS, Mi.v_ret2, Mi.v_ret1, Mi.v_ret, Mi.v_drop1, Mi.v_drop, Mi.v_asg3, Mi.v_asg2, Mi.v_asg1, Mi.v_asg, Mi.v_gset1, Mi.v_gset, Mi.v_gsub5, Mi.v_gsub4, Mi.v_gsub3, Mi.v_gsub2, Mi.v_gsub1, Mi.v_gsub, Mi.v_gsc1, Mi.v_gsc, Mi.v_gsn1, Mi.v_gsn, Mi.v_for1, Mi.v_for, Mi.v_forc2, Mi.v_forc1, Mi.v_forc, Mi.v_lcc2, Mi.v_lcc1, Mi.v_lcc, Mi.v_lcT3, Mi.v_lcT2, Mi.v_lcT1, Mi.v_lcT, Mi.v_lc4, Mi.v_lc3, Mi.v_lc2, Mi.v_lc1, Mi.v_lc, Mi.v_def4, Mi.v_def3, Mi.v_def2, Mi.v_def1, Mi.v_def, Mi.v_callV4, Mi.v_callV3, Mi.v_callV2, Mi.v_callV1, Mi.v_callV, Mi.v_callP4, Mi.v_callP3, Mi.v_callP2, Mi.v_callP1, Mi.v_callP, Mi.v_callKV5, Mi.v_callKV4, Mi.v_callKV3, Mi.v_callKV2, Mi.v_callKV1, Mi.v_callKV, Mi.v_callKP5, Mi.v_callKP4, Mi.v_callKP3, Mi.v_callKP2, Mi.v_callKP1, Mi.v_callKP, Mi.v_callIO5, Mi.v_callIO4, Mi.v_callIO3, Mi.v_callIO2, Mi.v_callIO1, Mi.v_callIO, Mi.v_app7, Mi.v_app6, Mi.v_app5, Mi.v_app4, Mi.v_app3, Mi.v_app2, Mi.v_app1, Mi.v_app, Mi.v_sl6, Mi.v_sl5, Mi.v_sl4, Mi.v_sl3, Mi.v_sl2, Mi.v_sl1, Mi.v_sl, Mi.v_oS2, Mi.v_oS1, Mi.v_oS, Mi.v_iseq3, Mi.v_iseq2, Mi.v_iseq1, Mi.v_iseq, Mi.v_ienum3, Mi.v_ienum2, Mi.v_ienum1, Mi.v_ienum, Mi.v_irg3, Mi.v_irg2, Mi.v_irg1, Mi.v_irg, Mi.v_rgTup3, Mi.v_rgTup2, Mi.v_rgTup1, Mi.v_rgTup, Mi.v_argsc2, Mi.v_argsc1, Mi.v_argsc, Mi.v_putc1, Mi.v_putc, Mi.v_takesc2, Mi.v_takesc1, Mi.v_takesc, Mi.v_contsc2, Mi.v_contsc1, Mi.v_contsc, Mi.v_backsI2, Mi.v_backsI1, Mi.v_backsI, Mi.v_ok, Mi.v_c, Mi.v_nil, Mi.v_next, Mi.v_yes, Mi.v_oN, Mi.v_gtup, Mi.v_var, Mi.v_for0, Mi.v_lc0, Mi.v_args0, Mi.v_put0, Mi.v_takes0, Mi.v_conts0, Mi.v_backs0, Mi.w_add, Mi.w_sub, Mi.w_neg, Mi.w_lt, Mi.w_le, Mi.w_gt, Mi.w_ge, Mi.w_intI, Mi.w_intB, Mi.w_abs, Mi.w_max, Mi.w_min, Mi.w_ix0, Mi.w_ix1, Mi.w_ix2, Mi.w_i0, Mi.w_i1, Mi.w_i2, Mi.pend, Mi.cont, Mi.take, Mi.frz, Mi.frzs, Mi.getP, Mi.setP, Mi.Res.of, Mi.boolOf, Mi.isPl, Mi.mutS, Mi.mutA, Mi.mutP, Mi.intOf, Mi.move, Mi.retOf, Mi.backs1, Mi.put1, Mi.fzT, Mi.ioOf, Mi.chk, Mi.early, Mi.shut, Mi.isTmp, Mi.flatB, Mi.scal, List.map_cons, List.map_nil, List.cons_append, List.nil_append, List.append_nil, List.replicate_succ, List.replicate_zero, List.replicate, List.length_cons, List.length_nil, List.getElem?_cons_zero, List.getElem?_cons_succ, List.set_cons_zero, List.set_cons_succ, List.all_cons, List.all_nil, List.contains_cons, List.contains_nil, List.elem_cons, List.elem_nil, List.isEmpty_nil, List.isEmpty_cons, Nat.reduceAdd, Nat.reduceSub, Nat.reduceBEq, Nat.reduceLT, Nat.reduceLeDiff, Nat.reduceEqDiff, decide_true, decide_false, Bool.and_true, Bool.true_and, Bool.or_true, Bool.true_or, Bool.or_false, Bool.false_or, Bool.and_false, Bool.false_and, Bool.not_true, Bool.not_false, Bool.false_eq_true, reduceIte, ite_true, ite_false, beq_self_eq_true, Nat.zero_add, reduceCtorEq, and_self, true_and, and_true, ge_iff_le, gt_iff_lt, Nat.succ_eq_add_one, Nat.add_one_sub_one, Nat.zero_lt_succ, Nat.lt_add_left_iff_pos, Mi.wipeE, Mi.restE, Mi.pick, List.filterMap_cons, List.filterMap_nil, h, ih, List.filter_cons]
theorem intsD_int : ∀ l : List Int, intsD (l.map D.int) = some l
  | [] => rfl
  | n :: l => by show (match intsD (l.map D.int) with | some ns => some (n :: ns) | none => none) = _; rw [intsD_int l]
theorem sum_int (l : List Int) : fSum [.fz (.lst (l.map D.int))] = .ok (.fz (.int l.sum)) := by
  show (match intsD (l.map D.int) with | some ns => Res.ok (W.fz (.int ns.sum)) | none => .err) = _
  rw [intsD_int]
theorem sum_pos : ∀ gs : List Int, (gs.filter fun g => decide (0 < g)).sum = gI gs
  | [] => rfl
  | g :: gs => by
    rw [List.filter_cons, gI]
    by_cases h : 0 < g
    · rw [if_pos (by simpa using h), if_pos h, List.sum_cons, sum_pos gs]
    · rw [if_neg (by simpa using h), if_neg h, sum_pos gs]; omega
theorem sum_neg : ∀ gs : List Int, -(gs.filter fun g => decide (g < 0)).sum = tI' gs
  | [] => rfl
  | g :: gs => by
    have ih := sum_neg gs
    rw [List.filter_cons, tI']
    by_cases h : g < 0
    · rw [if_pos (by simpa using h), if_pos h, List.sum_cons]; omega
    · rw [if_neg (by simpa using h), if_neg h]; omega
theorem lcv (q : Bool) (vs : List Nat) (it : CI) (g : CG) (ct : CT) (ce : CE) {ρ ρ1 ρ2 : En} {ds : List D} {ws : List W} (h1 : it ρ = .ok (ds, ρ1)) (h2 : (vs.all fun v => decide (v < ρ1.length)) = true) (h3 : ds.length < 16777216) (h4 : lcL vs g ct ce ds (wipeE ρ1 vs) = .ok (ws, ρ2)) : cLc vs it g ct ce ρ = .ok (.tmp (.lst ws), restE ρ1 vs ρ2) := by
  have h3' : decide (ds.length ≤ 16777216) = true := decide_eq_true (Nat.le_of_lt h3)
  rw [Mi.v_lc, h1, Mi.v_ok, Mi.v_lc1, h2, cT, Mi.v_ok, Mi.v_lc2, h3', cT, Mi.v_ok, Mi.v_lc3, h4, Mi.v_ok, Mi.v_lc4]
theorem given_ok {x : D} {gs : List Int} (h : Row x gs) (hl : gs.length < 100) : Fgiven_in [.fz x] = .ok (.fz (.int (gI gs)), [.fz x]) := by
  have hs := h.src
  have c1 : iSeq (cVar 0) [some (.fz x), none] = .ok (gs.map D.int, [some (.fz x), none]) := by simp only [Mi.v_bin6, Mi.v_bin5, Mi.v_bin4, Mi.v_bin3, Mi.v_bin2, Mi.v_bin1, Mi.v_bin, Mi.v_un3, Mi.v_un2, Mi.v_un1, Mi.v_un, Mi.v_test2, Mi.v_test1, Mi.v_test, Mi.v_cons3, Mi.v_cons2, Mi.v_cons1, Mi.v_cons, Mi.v_star4, Mi.v_star3, Mi.v_star2, Mi.v_star1, Mi.v_star, Mi.v_tup4, Mi.v_tup3, Mi.v_tup2, Mi.v_tup1, Mi.v_tup, Mi.v_lst4, Mi.v_lst3, Mi.v_lst2, Mi.v_lst1, Mi.v_lst, Mi.v_callB3, Mi.v_callB2, Mi.v_callB1, Mi.v_callB, Mi.v_andT1, Mi.v_andT, Mi.v_orT1, Mi.v_orT, Mi.v_notT1, Mi.v_notT, Mi.v_and2, Mi.v_and1, Mi.v_and, Mi.v_or2, Mi.v_or1, Mi.v_or, Mi.v_not2, Mi.v_not1, Mi.v_not, Mi.v_if1, Mi.v_if, Mi.v_orL1, Mi.v_orL, Mi.v_seq1, Mi.v_seq, Mi.v_ifS1, Mi.v_ifS, Mi.v_ret2, Mi.v_ret1, Mi.v_ret, Mi.v_drop1, Mi.v_drop, Mi.v_asg3, Mi.v_asg2, Mi.v_asg1, Mi.v_asg, Mi.v_gset1, Mi.v_gset, Mi.v_gsub5, Mi.v_gsub4, Mi.v_gsub3, Mi.v_gsub2, Mi.v_gsub1, Mi.v_gsub, Mi.v_gsc1, Mi.v_gsc, Mi.v_gsn1, Mi.v_gsn, Mi.v_for1, Mi.v_for, Mi.v_forc2, Mi.v_forc1, Mi.v_forc, Mi.v_lcc2, Mi.v_lcc1, Mi.v_lcc, Mi.v_lcT3, Mi.v_lcT2, Mi.v_lcT1, Mi.v_lcT, Mi.v_lc4, Mi.v_lc3, Mi.v_lc2, Mi.v_lc1, Mi.v_lc, Mi.v_def4, Mi.v_def3, Mi.v_def2, Mi.v_def1, Mi.v_def, Mi.v_callV4, Mi.v_callV3, Mi.v_callV2, Mi.v_callV1, Mi.v_callV, Mi.v_callP4, Mi.v_callP3, Mi.v_callP2, Mi.v_callP1, Mi.v_callP, Mi.v_callKV5, Mi.v_callKV4, Mi.v_callKV3, Mi.v_callKV2, Mi.v_callKV1, Mi.v_callKV, Mi.v_callKP5, Mi.v_callKP4, Mi.v_callKP3, Mi.v_callKP2, Mi.v_callKP1, Mi.v_callKP, Mi.v_callIO5, Mi.v_callIO4, Mi.v_callIO3, Mi.v_callIO2, Mi.v_callIO1, Mi.v_callIO, Mi.v_app7, Mi.v_app6, Mi.v_app5, Mi.v_app4, Mi.v_app3, Mi.v_app2, Mi.v_app1, Mi.v_app, Mi.v_sl6, Mi.v_sl5, Mi.v_sl4, Mi.v_sl3, Mi.v_sl2, Mi.v_sl1, Mi.v_sl, Mi.v_oS2, Mi.v_oS1, Mi.v_oS, Mi.v_iseq3, Mi.v_iseq2, Mi.v_iseq1, Mi.v_iseq, Mi.v_ienum3, Mi.v_ienum2, Mi.v_ienum1, Mi.v_ienum, Mi.v_irg3, Mi.v_irg2, Mi.v_irg1, Mi.v_irg, Mi.v_rgTup3, Mi.v_rgTup2, Mi.v_rgTup1, Mi.v_rgTup, Mi.v_argsc2, Mi.v_argsc1, Mi.v_argsc, Mi.v_putc1, Mi.v_putc, Mi.v_takesc2, Mi.v_takesc1, Mi.v_takesc, Mi.v_contsc2, Mi.v_contsc1, Mi.v_contsc, Mi.v_backsI2, Mi.v_backsI1, Mi.v_backsI, Mi.v_ok, Mi.v_c, Mi.v_nil, Mi.v_next, Mi.v_yes, Mi.v_oN, Mi.v_gtup, Mi.v_var, Mi.v_for0, Mi.v_lc0, Mi.v_args0, Mi.v_put0, Mi.v_takes0, Mi.v_conts0, Mi.v_backs0, Mi.w_add, Mi.w_sub, Mi.w_neg, Mi.w_lt, Mi.w_le, Mi.w_gt, Mi.w_ge, Mi.w_intI, Mi.w_intB, Mi.w_abs, Mi.w_max, Mi.w_min, Mi.w_ix0, Mi.w_ix1, Mi.w_ix2, Mi.w_i0, Mi.w_i1, Mi.w_i2, Mi.pend, Mi.cont, Mi.take, Mi.frz, Mi.frzs, Mi.getP, Mi.setP, Mi.Res.of, Mi.boolOf, Mi.isPl, Mi.mutS, Mi.mutA, Mi.mutP, Mi.intOf, Mi.move, Mi.retOf, Mi.backs1, Mi.put1, Mi.fzT, Mi.ioOf, Mi.chk, Mi.early, Mi.shut, Mi.isTmp, Mi.flatB, Mi.scal, List.map_cons, List.map_nil, List.cons_append, List.nil_append, List.append_nil, List.replicate_succ, List.replicate_zero, List.replicate, List.length_cons, List.length_nil, List.getElem?_cons_zero, List.getElem?_cons_succ, List.set_cons_zero, List.set_cons_succ, List.all_cons, List.all_nil, List.contains_cons, List.contains_nil, List.elem_cons, List.elem_nil, List.isEmpty_nil, List.isEmpty_cons, Nat.reduceAdd, Nat.reduceSub, Nat.reduceBEq, Nat.reduceLT, Nat.reduceLeDiff, Nat.reduceEqDiff, decide_true, decide_false, Bool.and_true, Bool.true_and, Bool.or_true, Bool.true_or, Bool.or_false, Bool.false_or, Bool.and_false, Bool.false_and, Bool.not_true, Bool.not_false, Bool.false_eq_true, reduceIte, ite_true, ite_false, beq_self_eq_true, Nat.zero_add, reduceCtorEq, and_self, true_and, and_true, ge_iff_le, gt_iff_lt, Nat.succ_eq_add_one, Nat.add_one_sub_one, Nat.zero_lt_succ, Nat.lt_add_left_iff_pos, Mi.wipeE, Mi.restE, Mi.pick, List.filterMap_cons, List.filterMap_nil, hs]
  have c2 := lcv true [1] (iSeq (cVar 0)) (gSet 1) (cTest (cBin fGt true (cVar 1) (cC (.int 0)))) (cVar 1) c1 rfl (by rw [List.length_map]; omega) (pos_lc gs)
  have c3 : restE [some (.fz x), none] [1] [some (.fz x), none] = [some (.fz x), none] := rfl
  rw [c3] at c2
  simp only [Fgiven_in, mgiven_in, Mi.v_bin6, Mi.v_bin5, Mi.v_bin4, Mi.v_bin3, Mi.v_bin2, Mi.v_bin1, Mi.v_bin, Mi.v_un3, Mi.v_un2, Mi.v_un1, Mi.v_un, Mi.v_test2, Mi.v_test1, Mi.v_test, Mi.v_cons3, Mi.v_cons2, Mi.v_cons1, Mi.v_cons, Mi.v_star4, Mi.v_star3, Mi.v_star2, Mi.v_star1, Mi.v_star, Mi.v_tup4, Mi.v_tup3, Mi.v_tup2, Mi.v_tup1, Mi.v_tup, Mi.v_lst4, Mi.v_lst3, Mi.v_lst2, Mi.v_lst1, Mi.v_lst, Mi.v_callB3, Mi.v_callB2, Mi.v_callB1, Mi.v_callB, Mi.v_andT1, Mi.v_andT, Mi.v_orT1, Mi.v_orT, Mi.v_notT1, Mi.v_notT, Mi.v_and2, Mi.v_and1, Mi.v_and, Mi.v_or2, Mi.v_or1, Mi.v_or, Mi.v_not2, Mi.v_not1, Mi.v_not, Mi.v_if1, Mi.v_if, Mi.v_orL1, Mi.v_orL, Mi.v_seq1, Mi.v_seq, Mi.v_ifS1, Mi.v_ifS, Mi.v_ret2, Mi.v_ret1, Mi.v_ret, Mi.v_drop1, Mi.v_drop, Mi.v_asg3, Mi.v_asg2, Mi.v_asg1, Mi.v_asg, Mi.v_gset1, Mi.v_gset, Mi.v_gsub5, Mi.v_gsub4, Mi.v_gsub3, Mi.v_gsub2, Mi.v_gsub1, Mi.v_gsub, Mi.v_gsc1, Mi.v_gsc, Mi.v_gsn1, Mi.v_gsn, Mi.v_for1, Mi.v_for, Mi.v_forc2, Mi.v_forc1, Mi.v_forc, Mi.v_lcc2, Mi.v_lcc1, Mi.v_lcc, Mi.v_lcT3, Mi.v_lcT2, Mi.v_lcT1, Mi.v_lcT, Mi.v_lc4, Mi.v_lc3, Mi.v_lc2, Mi.v_lc1, Mi.v_def4, Mi.v_def3, Mi.v_def2, Mi.v_def1, Mi.v_def, Mi.v_callV4, Mi.v_callV3, Mi.v_callV2, Mi.v_callV1, Mi.v_callV, Mi.v_callP4, Mi.v_callP3, Mi.v_callP2, Mi.v_callP1, Mi.v_callP, Mi.v_callKV5, Mi.v_callKV4, Mi.v_callKV3, Mi.v_callKV2, Mi.v_callKV1, Mi.v_callKV, Mi.v_callKP5, Mi.v_callKP4, Mi.v_callKP3, Mi.v_callKP2, Mi.v_callKP1, Mi.v_callKP, Mi.v_callIO5, Mi.v_callIO4, Mi.v_callIO3, Mi.v_callIO2, Mi.v_callIO1, Mi.v_callIO, Mi.v_app7, Mi.v_app6, Mi.v_app5, Mi.v_app4, Mi.v_app3, Mi.v_app2, Mi.v_app1, Mi.v_app, Mi.v_sl6, Mi.v_sl5, Mi.v_sl4, Mi.v_sl3, Mi.v_sl2, Mi.v_sl1, Mi.v_sl, Mi.v_oS2, Mi.v_oS1, Mi.v_oS, Mi.v_iseq3, Mi.v_iseq2, Mi.v_iseq1, Mi.v_iseq, Mi.v_ienum3, Mi.v_ienum2, Mi.v_ienum1, Mi.v_ienum, Mi.v_irg3, Mi.v_irg2, Mi.v_irg1, Mi.v_irg, Mi.v_rgTup3, Mi.v_rgTup2, Mi.v_rgTup1, Mi.v_rgTup, Mi.v_argsc2, Mi.v_argsc1, Mi.v_argsc, Mi.v_putc1, Mi.v_putc, Mi.v_takesc2, Mi.v_takesc1, Mi.v_takesc, Mi.v_contsc2, Mi.v_contsc1, Mi.v_contsc, Mi.v_backsI2, Mi.v_backsI1, Mi.v_backsI, Mi.v_ok, Mi.v_c, Mi.v_nil, Mi.v_next, Mi.v_yes, Mi.v_oN, Mi.v_gtup, Mi.v_var, Mi.v_for0, Mi.v_lc0, Mi.v_args0, Mi.v_put0, Mi.v_takes0, Mi.v_conts0, Mi.v_backs0, Mi.w_add, Mi.w_sub, Mi.w_neg, Mi.w_lt, Mi.w_le, Mi.w_gt, Mi.w_ge, Mi.w_intI, Mi.w_intB, Mi.w_abs, Mi.w_max, Mi.w_min, Mi.w_ix0, Mi.w_ix1, Mi.w_ix2, Mi.w_i0, Mi.w_i1, Mi.w_i2, Mi.pend, Mi.cont, Mi.take, Mi.frz, Mi.frzs, Mi.getP, Mi.setP, Mi.Res.of, Mi.boolOf, Mi.isPl, Mi.mutS, Mi.mutA, Mi.mutP, Mi.intOf, Mi.move, Mi.retOf, Mi.backs1, Mi.put1, Mi.fzT, Mi.ioOf, Mi.chk, Mi.early, Mi.shut, Mi.isTmp, Mi.flatB, Mi.scal, List.map_cons, List.map_nil, List.cons_append, List.nil_append, List.append_nil, List.replicate_succ, List.replicate_zero, List.replicate, List.length_cons, List.length_nil, List.getElem?_cons_zero, List.getElem?_cons_succ, List.set_cons_zero, List.set_cons_succ, List.all_cons, List.all_nil, List.contains_cons, List.contains_nil, List.elem_cons, List.elem_nil, List.isEmpty_nil, List.isEmpty_cons, Nat.reduceAdd, Nat.reduceSub, Nat.reduceBEq, Nat.reduceLT, Nat.reduceLeDiff, Nat.reduceEqDiff, decide_true, decide_false, Bool.and_true, Bool.true_and, Bool.or_true, Bool.true_or, Bool.or_false, Bool.false_or, Bool.and_false, Bool.false_and, Bool.not_true, Bool.not_false, Bool.false_eq_true, reduceIte, ite_true, ite_false, beq_self_eq_true, Nat.zero_add, reduceCtorEq, and_self, true_and, and_true, ge_iff_le, gt_iff_lt, Nat.succ_eq_add_one, Nat.add_one_sub_one, Nat.zero_lt_succ, Nat.lt_add_left_iff_pos, Mi.wipeE, Mi.restE, Mi.pick, List.filterMap_cons, List.filterMap_nil, c2, frzs_cw, sum_int, sum_pos]
theorem taken_ok {x : D} {gs : List Int} (h : Row x gs) (hl : gs.length < 100) : Ftaken_in [.fz x] = .ok (.fz (.int (tI' gs)), [.fz x]) := by
  have hs := h.src
  have c1 : iSeq (cVar 0) [some (.fz x), none] = .ok (gs.map D.int, [some (.fz x), none]) := by simp only [Mi.v_bin6, Mi.v_bin5, Mi.v_bin4, Mi.v_bin3, Mi.v_bin2, Mi.v_bin1, Mi.v_bin, Mi.v_un3, Mi.v_un2, Mi.v_un1, Mi.v_un, Mi.v_test2, Mi.v_test1, Mi.v_test, Mi.v_cons3, Mi.v_cons2, Mi.v_cons1, Mi.v_cons, Mi.v_star4, Mi.v_star3, Mi.v_star2, Mi.v_star1, Mi.v_star, Mi.v_tup4, Mi.v_tup3, Mi.v_tup2, Mi.v_tup1, Mi.v_tup, Mi.v_lst4, Mi.v_lst3, Mi.v_lst2, Mi.v_lst1, Mi.v_lst, Mi.v_callB3, Mi.v_callB2, Mi.v_callB1, Mi.v_callB, Mi.v_andT1, Mi.v_andT, Mi.v_orT1, Mi.v_orT, Mi.v_notT1, Mi.v_notT, Mi.v_and2, Mi.v_and1, Mi.v_and, Mi.v_or2, Mi.v_or1, Mi.v_or, Mi.v_not2, Mi.v_not1, Mi.v_not, Mi.v_if1, Mi.v_if, Mi.v_orL1, Mi.v_orL, Mi.v_seq1, Mi.v_seq, Mi.v_ifS1, Mi.v_ifS, Mi.v_ret2, Mi.v_ret1, Mi.v_ret, Mi.v_drop1, Mi.v_drop, Mi.v_asg3, Mi.v_asg2, Mi.v_asg1, Mi.v_asg, Mi.v_gset1, Mi.v_gset, Mi.v_gsub5, Mi.v_gsub4, Mi.v_gsub3, Mi.v_gsub2, Mi.v_gsub1, Mi.v_gsub, Mi.v_gsc1, Mi.v_gsc, Mi.v_gsn1, Mi.v_gsn, Mi.v_for1, Mi.v_for, Mi.v_forc2, Mi.v_forc1, Mi.v_forc, Mi.v_lcc2, Mi.v_lcc1, Mi.v_lcc, Mi.v_lcT3, Mi.v_lcT2, Mi.v_lcT1, Mi.v_lcT, Mi.v_lc4, Mi.v_lc3, Mi.v_lc2, Mi.v_lc1, Mi.v_lc, Mi.v_def4, Mi.v_def3, Mi.v_def2, Mi.v_def1, Mi.v_def, Mi.v_callV4, Mi.v_callV3, Mi.v_callV2, Mi.v_callV1, Mi.v_callV, Mi.v_callP4, Mi.v_callP3, Mi.v_callP2, Mi.v_callP1, Mi.v_callP, Mi.v_callKV5, Mi.v_callKV4, Mi.v_callKV3, Mi.v_callKV2, Mi.v_callKV1, Mi.v_callKV, Mi.v_callKP5, Mi.v_callKP4, Mi.v_callKP3, Mi.v_callKP2, Mi.v_callKP1, Mi.v_callKP, Mi.v_callIO5, Mi.v_callIO4, Mi.v_callIO3, Mi.v_callIO2, Mi.v_callIO1, Mi.v_callIO, Mi.v_app7, Mi.v_app6, Mi.v_app5, Mi.v_app4, Mi.v_app3, Mi.v_app2, Mi.v_app1, Mi.v_app, Mi.v_sl6, Mi.v_sl5, Mi.v_sl4, Mi.v_sl3, Mi.v_sl2, Mi.v_sl1, Mi.v_sl, Mi.v_oS2, Mi.v_oS1, Mi.v_oS, Mi.v_iseq3, Mi.v_iseq2, Mi.v_iseq1, Mi.v_iseq, Mi.v_ienum3, Mi.v_ienum2, Mi.v_ienum1, Mi.v_ienum, Mi.v_irg3, Mi.v_irg2, Mi.v_irg1, Mi.v_irg, Mi.v_rgTup3, Mi.v_rgTup2, Mi.v_rgTup1, Mi.v_rgTup, Mi.v_argsc2, Mi.v_argsc1, Mi.v_argsc, Mi.v_putc1, Mi.v_putc, Mi.v_takesc2, Mi.v_takesc1, Mi.v_takesc, Mi.v_contsc2, Mi.v_contsc1, Mi.v_contsc, Mi.v_backsI2, Mi.v_backsI1, Mi.v_backsI, Mi.v_ok, Mi.v_c, Mi.v_nil, Mi.v_next, Mi.v_yes, Mi.v_oN, Mi.v_gtup, Mi.v_var, Mi.v_for0, Mi.v_lc0, Mi.v_args0, Mi.v_put0, Mi.v_takes0, Mi.v_conts0, Mi.v_backs0, Mi.w_add, Mi.w_sub, Mi.w_neg, Mi.w_lt, Mi.w_le, Mi.w_gt, Mi.w_ge, Mi.w_intI, Mi.w_intB, Mi.w_abs, Mi.w_max, Mi.w_min, Mi.w_ix0, Mi.w_ix1, Mi.w_ix2, Mi.w_i0, Mi.w_i1, Mi.w_i2, Mi.pend, Mi.cont, Mi.take, Mi.frz, Mi.frzs, Mi.getP, Mi.setP, Mi.Res.of, Mi.boolOf, Mi.isPl, Mi.mutS, Mi.mutA, Mi.mutP, Mi.intOf, Mi.move, Mi.retOf, Mi.backs1, Mi.put1, Mi.fzT, Mi.ioOf, Mi.chk, Mi.early, Mi.shut, Mi.isTmp, Mi.flatB, Mi.scal, List.map_cons, List.map_nil, List.cons_append, List.nil_append, List.append_nil, List.replicate_succ, List.replicate_zero, List.replicate, List.length_cons, List.length_nil, List.getElem?_cons_zero, List.getElem?_cons_succ, List.set_cons_zero, List.set_cons_succ, List.all_cons, List.all_nil, List.contains_cons, List.contains_nil, List.elem_cons, List.elem_nil, List.isEmpty_nil, List.isEmpty_cons, Nat.reduceAdd, Nat.reduceSub, Nat.reduceBEq, Nat.reduceLT, Nat.reduceLeDiff, Nat.reduceEqDiff, decide_true, decide_false, Bool.and_true, Bool.true_and, Bool.or_true, Bool.true_or, Bool.or_false, Bool.false_or, Bool.and_false, Bool.false_and, Bool.not_true, Bool.not_false, Bool.false_eq_true, reduceIte, ite_true, ite_false, beq_self_eq_true, Nat.zero_add, reduceCtorEq, and_self, true_and, and_true, ge_iff_le, gt_iff_lt, Nat.succ_eq_add_one, Nat.add_one_sub_one, Nat.zero_lt_succ, Nat.lt_add_left_iff_pos, Mi.wipeE, Mi.restE, Mi.pick, List.filterMap_cons, List.filterMap_nil, hs]
  have c2 := lcv true [1] (iSeq (cVar 0)) (gSet 1) (cTest (cBin fLt true (cVar 1) (cC (.int 0)))) (cVar 1) c1 rfl (by rw [List.length_map]; omega) (neg_lc gs)
  have c3 : restE [some (.fz x), none] [1] [some (.fz x), none] = [some (.fz x), none] := rfl
  rw [c3] at c2
  simp only [Ftaken_in, mtaken_in, Mi.v_bin6, Mi.v_bin5, Mi.v_bin4, Mi.v_bin3, Mi.v_bin2, Mi.v_bin1, Mi.v_bin, Mi.v_un3, Mi.v_un2, Mi.v_un1, Mi.v_un, Mi.v_test2, Mi.v_test1, Mi.v_test, Mi.v_cons3, Mi.v_cons2, Mi.v_cons1, Mi.v_cons, Mi.v_star4, Mi.v_star3, Mi.v_star2, Mi.v_star1, Mi.v_star, Mi.v_tup4, Mi.v_tup3, Mi.v_tup2, Mi.v_tup1, Mi.v_tup, Mi.v_lst4, Mi.v_lst3, Mi.v_lst2, Mi.v_lst1, Mi.v_lst, Mi.v_callB3, Mi.v_callB2, Mi.v_callB1, Mi.v_callB, Mi.v_andT1, Mi.v_andT, Mi.v_orT1, Mi.v_orT, Mi.v_notT1, Mi.v_notT, Mi.v_and2, Mi.v_and1, Mi.v_and, Mi.v_or2, Mi.v_or1, Mi.v_or, Mi.v_not2, Mi.v_not1, Mi.v_not, Mi.v_if1, Mi.v_if, Mi.v_orL1, Mi.v_orL, Mi.v_seq1, Mi.v_seq, Mi.v_ifS1, Mi.v_ifS, Mi.v_ret2, Mi.v_ret1, Mi.v_ret, Mi.v_drop1, Mi.v_drop, Mi.v_asg3, Mi.v_asg2, Mi.v_asg1, Mi.v_asg, Mi.v_gset1, Mi.v_gset, Mi.v_gsub5, Mi.v_gsub4, Mi.v_gsub3, Mi.v_gsub2, Mi.v_gsub1, Mi.v_gsub, Mi.v_gsc1, Mi.v_gsc, Mi.v_gsn1, Mi.v_gsn, Mi.v_for1, Mi.v_for, Mi.v_forc2, Mi.v_forc1, Mi.v_forc, Mi.v_lcc2, Mi.v_lcc1, Mi.v_lcc, Mi.v_lcT3, Mi.v_lcT2, Mi.v_lcT1, Mi.v_lcT, Mi.v_lc4, Mi.v_lc3, Mi.v_lc2, Mi.v_lc1, Mi.v_def4, Mi.v_def3, Mi.v_def2, Mi.v_def1, Mi.v_def, Mi.v_callV4, Mi.v_callV3, Mi.v_callV2, Mi.v_callV1, Mi.v_callV, Mi.v_callP4, Mi.v_callP3, Mi.v_callP2, Mi.v_callP1, Mi.v_callP, Mi.v_callKV5, Mi.v_callKV4, Mi.v_callKV3, Mi.v_callKV2, Mi.v_callKV1, Mi.v_callKV, Mi.v_callKP5, Mi.v_callKP4, Mi.v_callKP3, Mi.v_callKP2, Mi.v_callKP1, Mi.v_callKP, Mi.v_callIO5, Mi.v_callIO4, Mi.v_callIO3, Mi.v_callIO2, Mi.v_callIO1, Mi.v_callIO, Mi.v_app7, Mi.v_app6, Mi.v_app5, Mi.v_app4, Mi.v_app3, Mi.v_app2, Mi.v_app1, Mi.v_app, Mi.v_sl6, Mi.v_sl5, Mi.v_sl4, Mi.v_sl3, Mi.v_sl2, Mi.v_sl1, Mi.v_sl, Mi.v_oS2, Mi.v_oS1, Mi.v_oS, Mi.v_iseq3, Mi.v_iseq2, Mi.v_iseq1, Mi.v_iseq, Mi.v_ienum3, Mi.v_ienum2, Mi.v_ienum1, Mi.v_ienum, Mi.v_irg3, Mi.v_irg2, Mi.v_irg1, Mi.v_irg, Mi.v_rgTup3, Mi.v_rgTup2, Mi.v_rgTup1, Mi.v_rgTup, Mi.v_argsc2, Mi.v_argsc1, Mi.v_argsc, Mi.v_putc1, Mi.v_putc, Mi.v_takesc2, Mi.v_takesc1, Mi.v_takesc, Mi.v_contsc2, Mi.v_contsc1, Mi.v_contsc, Mi.v_backsI2, Mi.v_backsI1, Mi.v_backsI, Mi.v_ok, Mi.v_c, Mi.v_nil, Mi.v_next, Mi.v_yes, Mi.v_oN, Mi.v_gtup, Mi.v_var, Mi.v_for0, Mi.v_lc0, Mi.v_args0, Mi.v_put0, Mi.v_takes0, Mi.v_conts0, Mi.v_backs0, Mi.w_add, Mi.w_sub, Mi.w_neg, Mi.w_lt, Mi.w_le, Mi.w_gt, Mi.w_ge, Mi.w_intI, Mi.w_intB, Mi.w_abs, Mi.w_max, Mi.w_min, Mi.w_ix0, Mi.w_ix1, Mi.w_ix2, Mi.w_i0, Mi.w_i1, Mi.w_i2, Mi.pend, Mi.cont, Mi.take, Mi.frz, Mi.frzs, Mi.getP, Mi.setP, Mi.Res.of, Mi.boolOf, Mi.isPl, Mi.mutS, Mi.mutA, Mi.mutP, Mi.intOf, Mi.move, Mi.retOf, Mi.backs1, Mi.put1, Mi.fzT, Mi.ioOf, Mi.chk, Mi.early, Mi.shut, Mi.isTmp, Mi.flatB, Mi.scal, List.map_cons, List.map_nil, List.cons_append, List.nil_append, List.append_nil, List.replicate_succ, List.replicate_zero, List.replicate, List.length_cons, List.length_nil, List.getElem?_cons_zero, List.getElem?_cons_succ, List.set_cons_zero, List.set_cons_succ, List.all_cons, List.all_nil, List.contains_cons, List.contains_nil, List.elem_cons, List.elem_nil, List.isEmpty_nil, List.isEmpty_cons, Nat.reduceAdd, Nat.reduceSub, Nat.reduceBEq, Nat.reduceLT, Nat.reduceLeDiff, Nat.reduceEqDiff, decide_true, decide_false, Bool.and_true, Bool.true_and, Bool.or_true, Bool.true_or, Bool.or_false, Bool.false_or, Bool.and_false, Bool.false_and, Bool.not_true, Bool.not_false, Bool.false_eq_true, reduceIte, ite_true, ite_false, beq_self_eq_true, Nat.zero_add, reduceCtorEq, and_self, true_and, and_true, ge_iff_le, gt_iff_lt, Nat.succ_eq_add_one, Nat.add_one_sub_one, Nat.zero_lt_succ, Nat.lt_add_left_iff_pos, Mi.wipeE, Mi.restE, Mi.pick, List.filterMap_cons, List.filterMap_nil, c2, frzs_cw, sum_int, sum_neg]
theorem highest_ok {x : D} {gs : List Int} {lo hi s : Int} (h : Row x gs) (hl : gs.length < 100) : Fhighest_held [.fz x, .fz (.int lo), .fz (.int hi), .fz (.int s)] = .ok (.fz (.int (topH lo hi gs s)), [.fz x, .fz (.int lo), .fz (.int hi), .fz (.int s)]) := by
  have a := given_ok h hl
  have b := taken_ok h hl
  simp only [Fhighest_held, mhighest_held, Mi.v_bin6, Mi.v_bin5, Mi.v_bin4, Mi.v_bin3, Mi.v_bin2, Mi.v_bin1, Mi.v_bin, Mi.v_un3, Mi.v_un2, Mi.v_un1, Mi.v_un, Mi.v_test2, Mi.v_test1, Mi.v_test, Mi.v_cons3, Mi.v_cons2, Mi.v_cons1, Mi.v_cons, Mi.v_star4, Mi.v_star3, Mi.v_star2, Mi.v_star1, Mi.v_star, Mi.v_tup4, Mi.v_tup3, Mi.v_tup2, Mi.v_tup1, Mi.v_tup, Mi.v_lst4, Mi.v_lst3, Mi.v_lst2, Mi.v_lst1, Mi.v_lst, Mi.v_callB3, Mi.v_callB2, Mi.v_callB1, Mi.v_callB, Mi.v_andT1, Mi.v_andT, Mi.v_orT1, Mi.v_orT, Mi.v_notT1, Mi.v_notT, Mi.v_and2, Mi.v_and1, Mi.v_and, Mi.v_or2, Mi.v_or1, Mi.v_or, Mi.v_not2, Mi.v_not1, Mi.v_not, Mi.v_if1, Mi.v_if, Mi.v_orL1, Mi.v_orL, Mi.v_seq1, Mi.v_seq, Mi.v_ifS1, Mi.v_ifS, Mi.v_ret2, Mi.v_ret1, Mi.v_ret, Mi.v_drop1, Mi.v_drop, Mi.v_asg3, Mi.v_asg2, Mi.v_asg1, Mi.v_asg, Mi.v_gset1, Mi.v_gset, Mi.v_gsub5, Mi.v_gsub4, Mi.v_gsub3, Mi.v_gsub2, Mi.v_gsub1, Mi.v_gsub, Mi.v_gsc1, Mi.v_gsc, Mi.v_gsn1, Mi.v_gsn, Mi.v_for1, Mi.v_for, Mi.v_forc2, Mi.v_forc1, Mi.v_forc, Mi.v_lcc2, Mi.v_lcc1, Mi.v_lcc, Mi.v_lcT3, Mi.v_lcT2, Mi.v_lcT1, Mi.v_lcT, Mi.v_lc4, Mi.v_lc3, Mi.v_lc2, Mi.v_lc1, Mi.v_lc, Mi.v_def4, Mi.v_def3, Mi.v_def2, Mi.v_def1, Mi.v_def, Mi.v_callV4, Mi.v_callV3, Mi.v_callV2, Mi.v_callV1, Mi.v_callV, Mi.v_callP4, Mi.v_callP3, Mi.v_callP2, Mi.v_callP1, Mi.v_callP, Mi.v_callKV5, Mi.v_callKV4, Mi.v_callKV3, Mi.v_callKV2, Mi.v_callKV1, Mi.v_callKV, Mi.v_callKP5, Mi.v_callKP4, Mi.v_callKP3, Mi.v_callKP2, Mi.v_callKP1, Mi.v_callKP, Mi.v_callIO5, Mi.v_callIO4, Mi.v_callIO3, Mi.v_callIO2, Mi.v_callIO1, Mi.v_callIO, Mi.v_app7, Mi.v_app6, Mi.v_app5, Mi.v_app4, Mi.v_app3, Mi.v_app2, Mi.v_app1, Mi.v_app, Mi.v_sl6, Mi.v_sl5, Mi.v_sl4, Mi.v_sl3, Mi.v_sl2, Mi.v_sl1, Mi.v_sl, Mi.v_oS2, Mi.v_oS1, Mi.v_oS, Mi.v_iseq3, Mi.v_iseq2, Mi.v_iseq1, Mi.v_iseq, Mi.v_ienum3, Mi.v_ienum2, Mi.v_ienum1, Mi.v_ienum, Mi.v_irg3, Mi.v_irg2, Mi.v_irg1, Mi.v_irg, Mi.v_rgTup3, Mi.v_rgTup2, Mi.v_rgTup1, Mi.v_rgTup, Mi.v_argsc2, Mi.v_argsc1, Mi.v_argsc, Mi.v_putc1, Mi.v_putc, Mi.v_takesc2, Mi.v_takesc1, Mi.v_takesc, Mi.v_contsc2, Mi.v_contsc1, Mi.v_contsc, Mi.v_backsI2, Mi.v_backsI1, Mi.v_backsI, Mi.v_ok, Mi.v_c, Mi.v_nil, Mi.v_next, Mi.v_yes, Mi.v_oN, Mi.v_gtup, Mi.v_var, Mi.v_for0, Mi.v_lc0, Mi.v_args0, Mi.v_put0, Mi.v_takes0, Mi.v_conts0, Mi.v_backs0, Mi.w_add, Mi.w_sub, Mi.w_neg, Mi.w_lt, Mi.w_le, Mi.w_gt, Mi.w_ge, Mi.w_intI, Mi.w_intB, Mi.w_abs, Mi.w_max, Mi.w_min, Mi.w_ix0, Mi.w_ix1, Mi.w_ix2, Mi.w_i0, Mi.w_i1, Mi.w_i2, Mi.pend, Mi.cont, Mi.take, Mi.frz, Mi.frzs, Mi.getP, Mi.setP, Mi.Res.of, Mi.boolOf, Mi.isPl, Mi.mutS, Mi.mutA, Mi.mutP, Mi.intOf, Mi.move, Mi.retOf, Mi.backs1, Mi.put1, Mi.fzT, Mi.ioOf, Mi.chk, Mi.early, Mi.shut, Mi.isTmp, Mi.flatB, Mi.scal, List.map_cons, List.map_nil, List.cons_append, List.nil_append, List.append_nil, List.replicate_succ, List.replicate_zero, List.replicate, List.length_cons, List.length_nil, List.getElem?_cons_zero, List.getElem?_cons_succ, List.set_cons_zero, List.set_cons_succ, List.all_cons, List.all_nil, List.contains_cons, List.contains_nil, List.elem_cons, List.elem_nil, List.isEmpty_nil, List.isEmpty_cons, Nat.reduceAdd, Nat.reduceSub, Nat.reduceBEq, Nat.reduceLT, Nat.reduceLeDiff, Nat.reduceEqDiff, decide_true, decide_false, Bool.and_true, Bool.true_and, Bool.or_true, Bool.true_or, Bool.or_false, Bool.false_or, Bool.and_false, Bool.false_and, Bool.not_true, Bool.not_false, Bool.false_eq_true, reduceIte, ite_true, ite_false, beq_self_eq_true, Nat.zero_add, reduceCtorEq, and_self, true_and, and_true, ge_iff_le, gt_iff_lt, Nat.succ_eq_add_one, Nat.add_one_sub_one, Nat.zero_lt_succ, Nat.lt_add_left_iff_pos, Mi.wipeE, Mi.restE, Mi.pick, List.filterMap_cons, List.filterMap_nil, a, b, topH]
theorem lowest_ok {x : D} {gs : List Int} {lo hi s : Int} (h : Row x gs) (hl : gs.length < 100) : Flowest_held [.fz x, .fz (.int lo), .fz (.int hi), .fz (.int s)] = .ok (.fz (.int (botH lo hi gs s)), [.fz x, .fz (.int lo), .fz (.int hi), .fz (.int s)]) := by
  have a := given_ok h hl
  have b := taken_ok h hl
  simp only [Flowest_held, mlowest_held, Mi.v_bin6, Mi.v_bin5, Mi.v_bin4, Mi.v_bin3, Mi.v_bin2, Mi.v_bin1, Mi.v_bin, Mi.v_un3, Mi.v_un2, Mi.v_un1, Mi.v_un, Mi.v_test2, Mi.v_test1, Mi.v_test, Mi.v_cons3, Mi.v_cons2, Mi.v_cons1, Mi.v_cons, Mi.v_star4, Mi.v_star3, Mi.v_star2, Mi.v_star1, Mi.v_star, Mi.v_tup4, Mi.v_tup3, Mi.v_tup2, Mi.v_tup1, Mi.v_tup, Mi.v_lst4, Mi.v_lst3, Mi.v_lst2, Mi.v_lst1, Mi.v_lst, Mi.v_callB3, Mi.v_callB2, Mi.v_callB1, Mi.v_callB, Mi.v_andT1, Mi.v_andT, Mi.v_orT1, Mi.v_orT, Mi.v_notT1, Mi.v_notT, Mi.v_and2, Mi.v_and1, Mi.v_and, Mi.v_or2, Mi.v_or1, Mi.v_or, Mi.v_not2, Mi.v_not1, Mi.v_not, Mi.v_if1, Mi.v_if, Mi.v_orL1, Mi.v_orL, Mi.v_seq1, Mi.v_seq, Mi.v_ifS1, Mi.v_ifS, Mi.v_ret2, Mi.v_ret1, Mi.v_ret, Mi.v_drop1, Mi.v_drop, Mi.v_asg3, Mi.v_asg2, Mi.v_asg1, Mi.v_asg, Mi.v_gset1, Mi.v_gset, Mi.v_gsub5, Mi.v_gsub4, Mi.v_gsub3, Mi.v_gsub2, Mi.v_gsub1, Mi.v_gsub, Mi.v_gsc1, Mi.v_gsc, Mi.v_gsn1, Mi.v_gsn, Mi.v_for1, Mi.v_for, Mi.v_forc2, Mi.v_forc1, Mi.v_forc, Mi.v_lcc2, Mi.v_lcc1, Mi.v_lcc, Mi.v_lcT3, Mi.v_lcT2, Mi.v_lcT1, Mi.v_lcT, Mi.v_lc4, Mi.v_lc3, Mi.v_lc2, Mi.v_lc1, Mi.v_lc, Mi.v_def4, Mi.v_def3, Mi.v_def2, Mi.v_def1, Mi.v_def, Mi.v_callV4, Mi.v_callV3, Mi.v_callV2, Mi.v_callV1, Mi.v_callV, Mi.v_callP4, Mi.v_callP3, Mi.v_callP2, Mi.v_callP1, Mi.v_callP, Mi.v_callKV5, Mi.v_callKV4, Mi.v_callKV3, Mi.v_callKV2, Mi.v_callKV1, Mi.v_callKV, Mi.v_callKP5, Mi.v_callKP4, Mi.v_callKP3, Mi.v_callKP2, Mi.v_callKP1, Mi.v_callKP, Mi.v_callIO5, Mi.v_callIO4, Mi.v_callIO3, Mi.v_callIO2, Mi.v_callIO1, Mi.v_callIO, Mi.v_app7, Mi.v_app6, Mi.v_app5, Mi.v_app4, Mi.v_app3, Mi.v_app2, Mi.v_app1, Mi.v_app, Mi.v_sl6, Mi.v_sl5, Mi.v_sl4, Mi.v_sl3, Mi.v_sl2, Mi.v_sl1, Mi.v_sl, Mi.v_oS2, Mi.v_oS1, Mi.v_oS, Mi.v_iseq3, Mi.v_iseq2, Mi.v_iseq1, Mi.v_iseq, Mi.v_ienum3, Mi.v_ienum2, Mi.v_ienum1, Mi.v_ienum, Mi.v_irg3, Mi.v_irg2, Mi.v_irg1, Mi.v_irg, Mi.v_rgTup3, Mi.v_rgTup2, Mi.v_rgTup1, Mi.v_rgTup, Mi.v_argsc2, Mi.v_argsc1, Mi.v_argsc, Mi.v_putc1, Mi.v_putc, Mi.v_takesc2, Mi.v_takesc1, Mi.v_takesc, Mi.v_contsc2, Mi.v_contsc1, Mi.v_contsc, Mi.v_backsI2, Mi.v_backsI1, Mi.v_backsI, Mi.v_ok, Mi.v_c, Mi.v_nil, Mi.v_next, Mi.v_yes, Mi.v_oN, Mi.v_gtup, Mi.v_var, Mi.v_for0, Mi.v_lc0, Mi.v_args0, Mi.v_put0, Mi.v_takes0, Mi.v_conts0, Mi.v_backs0, Mi.w_add, Mi.w_sub, Mi.w_neg, Mi.w_lt, Mi.w_le, Mi.w_gt, Mi.w_ge, Mi.w_intI, Mi.w_intB, Mi.w_abs, Mi.w_max, Mi.w_min, Mi.w_ix0, Mi.w_ix1, Mi.w_ix2, Mi.w_i0, Mi.w_i1, Mi.w_i2, Mi.pend, Mi.cont, Mi.take, Mi.frz, Mi.frzs, Mi.getP, Mi.setP, Mi.Res.of, Mi.boolOf, Mi.isPl, Mi.mutS, Mi.mutA, Mi.mutP, Mi.intOf, Mi.move, Mi.retOf, Mi.backs1, Mi.put1, Mi.fzT, Mi.ioOf, Mi.chk, Mi.early, Mi.shut, Mi.isTmp, Mi.flatB, Mi.scal, List.map_cons, List.map_nil, List.cons_append, List.nil_append, List.append_nil, List.replicate_succ, List.replicate_zero, List.replicate, List.length_cons, List.length_nil, List.getElem?_cons_zero, List.getElem?_cons_succ, List.set_cons_zero, List.set_cons_succ, List.all_cons, List.all_nil, List.contains_cons, List.contains_nil, List.elem_cons, List.elem_nil, List.isEmpty_nil, List.isEmpty_cons, Nat.reduceAdd, Nat.reduceSub, Nat.reduceBEq, Nat.reduceLT, Nat.reduceLeDiff, Nat.reduceEqDiff, decide_true, decide_false, Bool.and_true, Bool.true_and, Bool.or_true, Bool.true_or, Bool.or_false, Bool.false_or, Bool.and_false, Bool.false_and, Bool.not_true, Bool.not_false, Bool.false_eq_true, reduceIte, ite_true, ite_false, beq_self_eq_true, Nat.zero_add, reduceCtorEq, and_self, true_and, and_true, ge_iff_le, gt_iff_lt, Nat.succ_eq_add_one, Nat.add_one_sub_one, Nat.zero_lt_succ, Nat.lt_add_left_iff_pos, Mi.wipeE, Mi.restE, Mi.pick, List.filterMap_cons, List.filterMap_nil, a, b, botH]
/-! ### held -/
theorem held_loop {x : W} {lo hi : Int} : ∀ (gs : List Int) (s : Int) (o : Option W), ∃ o', forL (gSet 4) (cAsg (gSet 3) (cCallB fMin2 (cCons true (cVar 2) (cCons true (cCallB fMax2 (cCons true (cVar 1) (cCons true (cBin fAdd true (cVar 3) (cVar 4)) cNil))) cNil)))) (gs.map D.int) [some x, some (.fz (.int lo)), some (.fz (.int hi)), some (.fz (.int s)), o] = .ok (.nx, [some x, some (.fz (.int lo)), some (.fz (.int hi)), some (.fz (.int (hl lo hi gs s))), o'])
  | [], s, o => ⟨o, rfl⟩
  | g :: gs, s, o => by
    obtain ⟨o', ih⟩ := held_loop (x := x) (lo := lo) (hi := hi) gs (if (if s + g > lo then s + g else lo) < hi then (if s + g > lo then s + g else lo) else hi) (some (.fz (.int g)))
    refine ⟨o', ?_⟩
    simp only [List.map_cons (f := D.int), Mi.v_bin6, Mi.v_bin5, Mi.v_bin4, Mi.v_bin3, Mi.v_bin2, Mi.v_bin1, Mi.v_bin, Mi.v_un3, Mi.v_un2, Mi.v_un1, Mi.v_un, Mi.v_test2, Mi.v_test1, Mi.v_test, Mi.v_cons3, Mi.v_cons2, Mi.v_cons1, Mi.v_cons, Mi.v_star4, Mi.v_star3, Mi.v_star2, Mi.v_star1, Mi.v_star, Mi.v_tup4, Mi.v_tup3, Mi.v_tup2, Mi.v_tup1, Mi.v_tup, Mi.v_lst4, Mi.v_lst3, Mi.v_lst2, Mi.v_lst1, Mi.v_lst, Mi.v_callB3, Mi.v_callB2, Mi.v_callB1, Mi.v_callB, Mi.v_andT1, Mi.v_andT, Mi.v_orT1, Mi.v_orT, Mi.v_notT1, Mi.v_notT, Mi.v_and2, Mi.v_and1, Mi.v_and, Mi.v_or2, Mi.v_or1, Mi.v_or, Mi.v_not2, Mi.v_not1, Mi.v_not, Mi.v_if1, Mi.v_if, Mi.v_orL1, Mi.v_orL, Mi.v_seq1, Mi.v_seq, Mi.v_ifS1, Mi.v_ifS, Mi.v_ret2, Mi.v_ret1, Mi.v_ret, Mi.v_drop1, Mi.v_drop, Mi.v_asg3, Mi.v_asg2, Mi.v_asg1, Mi.v_asg, Mi.v_gset1, Mi.v_gset, Mi.v_gsub5, Mi.v_gsub4, Mi.v_gsub3, Mi.v_gsub2, Mi.v_gsub1, Mi.v_gsub, Mi.v_gsc1, Mi.v_gsc, Mi.v_gsn1, Mi.v_gsn, Mi.v_for1, Mi.v_for, Mi.v_forc2, Mi.v_forc1, Mi.v_forc, Mi.v_lcc2, Mi.v_lcc1, Mi.v_lcc, Mi.v_lcT3, Mi.v_lcT2, Mi.v_lcT1, Mi.v_lcT, Mi.v_lc4, Mi.v_lc3, Mi.v_lc2, Mi.v_lc1, Mi.v_lc, Mi.v_def4, Mi.v_def3, Mi.v_def2, Mi.v_def1, Mi.v_def, Mi.v_callV4, Mi.v_callV3, Mi.v_callV2, Mi.v_callV1, Mi.v_callV, Mi.v_callP4, Mi.v_callP3, Mi.v_callP2, Mi.v_callP1, Mi.v_callP, Mi.v_callKV5, Mi.v_callKV4, Mi.v_callKV3, Mi.v_callKV2, Mi.v_callKV1, Mi.v_callKV, Mi.v_callKP5, Mi.v_callKP4, Mi.v_callKP3, Mi.v_callKP2, Mi.v_callKP1, Mi.v_callKP, Mi.v_callIO5, Mi.v_callIO4, Mi.v_callIO3, Mi.v_callIO2, Mi.v_callIO1, Mi.v_callIO, Mi.v_app7, Mi.v_app6, Mi.v_app5, Mi.v_app4, Mi.v_app3, Mi.v_app2, Mi.v_app1, Mi.v_app, Mi.v_sl6, Mi.v_sl5, Mi.v_sl4, Mi.v_sl3, Mi.v_sl2, Mi.v_sl1, Mi.v_sl, Mi.v_oS2, Mi.v_oS1, Mi.v_oS, Mi.v_iseq3, Mi.v_iseq2, Mi.v_iseq1, Mi.v_iseq, Mi.v_ienum3, Mi.v_ienum2, Mi.v_ienum1, Mi.v_ienum, Mi.v_irg3, Mi.v_irg2, Mi.v_irg1, Mi.v_irg, Mi.v_rgTup3, Mi.v_rgTup2, Mi.v_rgTup1, Mi.v_rgTup, Mi.v_argsc2, Mi.v_argsc1, Mi.v_argsc, Mi.v_putc1, Mi.v_putc, Mi.v_takesc2, Mi.v_takesc1, Mi.v_takesc, Mi.v_contsc2, Mi.v_contsc1, Mi.v_contsc, Mi.v_backsI2, Mi.v_backsI1, Mi.v_backsI, Mi.v_ok, Mi.v_c, Mi.v_nil, Mi.v_next, Mi.v_yes, Mi.v_oN, Mi.v_gtup, Mi.v_var, Mi.v_for0, Mi.v_lc0, Mi.v_args0, Mi.v_put0, Mi.v_takes0, Mi.v_conts0, Mi.v_backs0, Mi.w_add, Mi.w_sub, Mi.w_neg, Mi.w_lt, Mi.w_le, Mi.w_gt, Mi.w_ge, Mi.w_intI, Mi.w_intB, Mi.w_abs, Mi.w_max, Mi.w_min, Mi.w_ix0, Mi.w_ix1, Mi.w_ix2, Mi.w_i0, Mi.w_i1, Mi.w_i2, Mi.pend, Mi.cont, Mi.take, Mi.frz, Mi.frzs, Mi.getP, Mi.setP, Mi.Res.of, Mi.boolOf, Mi.isPl, Mi.mutS, Mi.mutA, Mi.mutP, Mi.intOf, Mi.move, Mi.retOf, Mi.backs1, Mi.put1, Mi.fzT, Mi.ioOf, Mi.chk, Mi.early, Mi.shut, Mi.isTmp, Mi.flatB, Mi.scal, List.map_cons, List.map_nil, List.cons_append, List.nil_append, List.append_nil, List.replicate_succ, List.replicate_zero, List.replicate, List.length_cons, List.length_nil, List.getElem?_cons_zero, List.getElem?_cons_succ, List.set_cons_zero, List.set_cons_succ, List.all_cons, List.all_nil, List.contains_cons, List.contains_nil, List.elem_cons, List.elem_nil, List.isEmpty_nil, List.isEmpty_cons, Nat.reduceAdd, Nat.reduceSub, Nat.reduceBEq, Nat.reduceLT, Nat.reduceLeDiff, Nat.reduceEqDiff, decide_true, decide_false, Bool.and_true, Bool.true_and, Bool.or_true, Bool.true_or, Bool.or_false, Bool.false_or, Bool.and_false, Bool.false_and, Bool.not_true, Bool.not_false, Bool.false_eq_true, reduceIte, ite_true, ite_false, beq_self_eq_true, Nat.zero_add, reduceCtorEq, and_self, true_and, and_true, ge_iff_le, gt_iff_lt, Nat.succ_eq_add_one, Nat.add_one_sub_one, Nat.zero_lt_succ, Nat.lt_add_left_iff_pos, Mi.wipeE, Mi.restE, Mi.pick, List.filterMap_cons, List.filterMap_nil]
    simp only [gt_iff_lt] at ih
    rw [ih]
    simp only [hl, gt_iff_lt]
theorem held_ok {gs : List Int} {lo hi s : Int} : F_law_held [.fz (.lst (gs.map D.int)), .fz (.int lo), .fz (.int hi), .fz (.int s)] = .ok (.fz (.int (hl lo hi gs s)), [.fz (.lst (gs.map D.int)), .fz (.int lo), .fz (.int hi), .fz (.int s)]) := by
  obtain ⟨o', e⟩ := held_loop (x := .fz (.lst (gs.map D.int))) (lo := lo) (hi := hi) gs s none
  have hs : srcV (.fz (.lst (gs.map D.int))) = some (gs.map D.int) := rfl
  simp only [F_law_held, m_law_held, Mi.v_bin6, Mi.v_bin5, Mi.v_bin4, Mi.v_bin3, Mi.v_bin2, Mi.v_bin1, Mi.v_bin, Mi.v_un3, Mi.v_un2, Mi.v_un1, Mi.v_un, Mi.v_test2, Mi.v_test1, Mi.v_test, Mi.v_cons3, Mi.v_cons2, Mi.v_cons1, Mi.v_cons, Mi.v_star4, Mi.v_star3, Mi.v_star2, Mi.v_star1, Mi.v_star, Mi.v_tup4, Mi.v_tup3, Mi.v_tup2, Mi.v_tup1, Mi.v_tup, Mi.v_lst4, Mi.v_lst3, Mi.v_lst2, Mi.v_lst1, Mi.v_lst, Mi.v_callB3, Mi.v_callB2, Mi.v_callB1, Mi.v_callB, Mi.v_andT1, Mi.v_andT, Mi.v_orT1, Mi.v_orT, Mi.v_notT1, Mi.v_notT, Mi.v_and2, Mi.v_and1, Mi.v_and, Mi.v_or2, Mi.v_or1, Mi.v_or, Mi.v_not2, Mi.v_not1, Mi.v_not, Mi.v_if1, Mi.v_if, Mi.v_orL1, Mi.v_orL, Mi.v_seq1, Mi.v_seq, Mi.v_ifS1, Mi.v_ifS, Mi.v_ret2, Mi.v_ret1, Mi.v_ret, Mi.v_drop1, Mi.v_drop, Mi.v_asg3, Mi.v_asg2, Mi.v_asg1, Mi.v_asg, Mi.v_gset1, Mi.v_gset, Mi.v_gsub5, Mi.v_gsub4, Mi.v_gsub3, Mi.v_gsub2, Mi.v_gsub1, Mi.v_gsub, Mi.v_gsc1, Mi.v_gsc, Mi.v_gsn1, Mi.v_gsn, Mi.v_for1, Mi.v_for, Mi.v_forc2, Mi.v_forc1, Mi.v_forc, Mi.v_lcc2, Mi.v_lcc1, Mi.v_lcc, Mi.v_lcT3, Mi.v_lcT2, Mi.v_lcT1, Mi.v_lcT, Mi.v_lc4, Mi.v_lc3, Mi.v_lc2, Mi.v_lc1, Mi.v_lc, Mi.v_def4, Mi.v_def3, Mi.v_def2, Mi.v_def1, Mi.v_def, Mi.v_callV4, Mi.v_callV3, Mi.v_callV2, Mi.v_callV1, Mi.v_callV, Mi.v_callP4, Mi.v_callP3, Mi.v_callP2, Mi.v_callP1, Mi.v_callP, Mi.v_callKV5, Mi.v_callKV4, Mi.v_callKV3, Mi.v_callKV2, Mi.v_callKV1, Mi.v_callKV, Mi.v_callKP5, Mi.v_callKP4, Mi.v_callKP3, Mi.v_callKP2, Mi.v_callKP1, Mi.v_callKP, Mi.v_callIO5, Mi.v_callIO4, Mi.v_callIO3, Mi.v_callIO2, Mi.v_callIO1, Mi.v_callIO, Mi.v_app7, Mi.v_app6, Mi.v_app5, Mi.v_app4, Mi.v_app3, Mi.v_app2, Mi.v_app1, Mi.v_app, Mi.v_sl6, Mi.v_sl5, Mi.v_sl4, Mi.v_sl3, Mi.v_sl2, Mi.v_sl1, Mi.v_sl, Mi.v_oS2, Mi.v_oS1, Mi.v_oS, Mi.v_iseq3, Mi.v_iseq2, Mi.v_iseq1, Mi.v_iseq, Mi.v_ienum3, Mi.v_ienum2, Mi.v_ienum1, Mi.v_ienum, Mi.v_irg3, Mi.v_irg2, Mi.v_irg1, Mi.v_irg, Mi.v_rgTup3, Mi.v_rgTup2, Mi.v_rgTup1, Mi.v_rgTup, Mi.v_argsc2, Mi.v_argsc1, Mi.v_argsc, Mi.v_putc1, Mi.v_putc, Mi.v_takesc2, Mi.v_takesc1, Mi.v_takesc, Mi.v_contsc2, Mi.v_contsc1, Mi.v_contsc, Mi.v_backsI2, Mi.v_backsI1, Mi.v_backsI, Mi.v_ok, Mi.v_c, Mi.v_nil, Mi.v_next, Mi.v_yes, Mi.v_oN, Mi.v_gtup, Mi.v_var, Mi.v_for0, Mi.v_lc0, Mi.v_args0, Mi.v_put0, Mi.v_takes0, Mi.v_conts0, Mi.v_backs0, Mi.w_add, Mi.w_sub, Mi.w_neg, Mi.w_lt, Mi.w_le, Mi.w_gt, Mi.w_ge, Mi.w_intI, Mi.w_intB, Mi.w_abs, Mi.w_max, Mi.w_min, Mi.w_ix0, Mi.w_ix1, Mi.w_ix2, Mi.w_i0, Mi.w_i1, Mi.w_i2, Mi.pend, Mi.cont, Mi.take, Mi.frz, Mi.frzs, Mi.getP, Mi.setP, Mi.Res.of, Mi.boolOf, Mi.isPl, Mi.mutS, Mi.mutA, Mi.mutP, Mi.intOf, Mi.move, Mi.retOf, Mi.backs1, Mi.put1, Mi.fzT, Mi.ioOf, Mi.chk, Mi.early, Mi.shut, Mi.isTmp, Mi.flatB, Mi.scal, List.map_cons, List.map_nil, List.cons_append, List.nil_append, List.append_nil, List.replicate_succ, List.replicate_zero, List.replicate, List.length_cons, List.length_nil, List.getElem?_cons_zero, List.getElem?_cons_succ, List.set_cons_zero, List.set_cons_succ, List.all_cons, List.all_nil, List.contains_cons, List.contains_nil, List.elem_cons, List.elem_nil, List.isEmpty_nil, List.isEmpty_cons, Nat.reduceAdd, Nat.reduceSub, Nat.reduceBEq, Nat.reduceLT, Nat.reduceLeDiff, Nat.reduceEqDiff, decide_true, decide_false, Bool.and_true, Bool.true_and, Bool.or_true, Bool.true_or, Bool.or_false, Bool.false_or, Bool.and_false, Bool.false_and, Bool.not_true, Bool.not_false, Bool.false_eq_true, reduceIte, ite_true, ite_false, beq_self_eq_true, Nat.zero_add, reduceCtorEq, and_self, true_and, and_true, ge_iff_le, gt_iff_lt, Nat.succ_eq_add_one, Nat.add_one_sub_one, Nat.zero_lt_succ, Nat.lt_add_left_iff_pos, Mi.wipeE, Mi.restE, Mi.pick, List.filterMap_cons, List.filterMap_nil, hs, e]
end Gn
namespace Gn
open Mi PySem PySem.Spec PyProof.Rows L2
def PP : Nat → List (List Nat)
  | 0 => [[]]
  | 1 => [[0]]
  | 2 => [[0, 1], [1, 0]]
  | 3 => [[0, 1, 2], [0, 2, 1], [1, 0, 2], [1, 2, 0], [2, 0, 1], [2, 1, 0]]
  | 4 => [[0, 1, 2, 3], [0, 1, 3, 2], [0, 2, 1, 3], [0, 2, 3, 1], [0, 3, 1, 2], [0, 3, 2, 1], [1, 0, 2, 3], [1, 0, 3, 2], [1, 2, 0, 3], [1, 2, 3, 0], [1, 3, 0, 2], [1, 3, 2, 0], [2, 0, 1, 3], [2, 0, 3, 1], [2, 1, 0, 3], [2, 1, 3, 0], [2, 3, 0, 1], [2, 3, 1, 0], [3, 0, 1, 2], [3, 0, 2, 1], [3, 1, 0, 2], [3, 1, 2, 0], [3, 2, 0, 1], [3, 2, 1, 0]]
  | 5 => [[0, 1, 2, 3, 4], [0, 1, 2, 4, 3], [0, 1, 3, 2, 4], [0, 1, 3, 4, 2], [0, 1, 4, 2, 3], [0, 1, 4, 3, 2], [0, 2, 1, 3, 4], [0, 2, 1, 4, 3], [0, 2, 3, 1, 4], [0, 2, 3, 4, 1], [0, 2, 4, 1, 3], [0, 2, 4, 3, 1], [0, 3, 1, 2, 4], [0, 3, 1, 4, 2], [0, 3, 2, 1, 4], [0, 3, 2, 4, 1], [0, 3, 4, 1, 2], [0, 3, 4, 2, 1], [0, 4, 1, 2, 3], [0, 4, 1, 3, 2], [0, 4, 2, 1, 3], [0, 4, 2, 3, 1], [0, 4, 3, 1, 2], [0, 4, 3, 2, 1], [1, 0, 2, 3, 4], [1, 0, 2, 4, 3], [1, 0, 3, 2, 4], [1, 0, 3, 4, 2], [1, 0, 4, 2, 3], [1, 0, 4, 3, 2], [1, 2, 0, 3, 4], [1, 2, 0, 4, 3], [1, 2, 3, 0, 4], [1, 2, 3, 4, 0], [1, 2, 4, 0, 3], [1, 2, 4, 3, 0], [1, 3, 0, 2, 4], [1, 3, 0, 4, 2], [1, 3, 2, 0, 4], [1, 3, 2, 4, 0], [1, 3, 4, 0, 2], [1, 3, 4, 2, 0], [1, 4, 0, 2, 3], [1, 4, 0, 3, 2], [1, 4, 2, 0, 3], [1, 4, 2, 3, 0], [1, 4, 3, 0, 2], [1, 4, 3, 2, 0], [2, 0, 1, 3, 4], [2, 0, 1, 4, 3], [2, 0, 3, 1, 4], [2, 0, 3, 4, 1], [2, 0, 4, 1, 3], [2, 0, 4, 3, 1], [2, 1, 0, 3, 4], [2, 1, 0, 4, 3], [2, 1, 3, 0, 4], [2, 1, 3, 4, 0], [2, 1, 4, 0, 3], [2, 1, 4, 3, 0], [2, 3, 0, 1, 4], [2, 3, 0, 4, 1], [2, 3, 1, 0, 4], [2, 3, 1, 4, 0], [2, 3, 4, 0, 1], [2, 3, 4, 1, 0], [2, 4, 0, 1, 3], [2, 4, 0, 3, 1], [2, 4, 1, 0, 3], [2, 4, 1, 3, 0], [2, 4, 3, 0, 1], [2, 4, 3, 1, 0], [3, 0, 1, 2, 4], [3, 0, 1, 4, 2], [3, 0, 2, 1, 4], [3, 0, 2, 4, 1], [3, 0, 4, 1, 2], [3, 0, 4, 2, 1], [3, 1, 0, 2, 4], [3, 1, 0, 4, 2], [3, 1, 2, 0, 4], [3, 1, 2, 4, 0], [3, 1, 4, 0, 2], [3, 1, 4, 2, 0], [3, 2, 0, 1, 4], [3, 2, 0, 4, 1], [3, 2, 1, 0, 4], [3, 2, 1, 4, 0], [3, 2, 4, 0, 1], [3, 2, 4, 1, 0], [3, 4, 0, 1, 2], [3, 4, 0, 2, 1], [3, 4, 1, 0, 2], [3, 4, 1, 2, 0], [3, 4, 2, 0, 1], [3, 4, 2, 1, 0], [4, 0, 1, 2, 3], [4, 0, 1, 3, 2], [4, 0, 2, 1, 3], [4, 0, 2, 3, 1], [4, 0, 3, 1, 2], [4, 0, 3, 2, 1], [4, 1, 0, 2, 3], [4, 1, 0, 3, 2], [4, 1, 2, 0, 3], [4, 1, 2, 3, 0], [4, 1, 3, 0, 2], [4, 1, 3, 2, 0], [4, 2, 0, 1, 3], [4, 2, 0, 3, 1], [4, 2, 1, 0, 3], [4, 2, 1, 3, 0], [4, 2, 3, 0, 1], [4, 2, 3, 1, 0], [4, 3, 0, 1, 2], [4, 3, 0, 2, 1], [4, 3, 1, 0, 2], [4, 3, 1, 2, 0], [4, 3, 2, 0, 1], [4, 3, 2, 1, 0]]
  | _ => []

def pw (ps : List (List Nat)) : List W := ps.map fun p => W.fz (.tup (p.map fun k => D.int (k : Nat)))
theorem orders_ok : ∀ n : Nat, n ≤ 5 → F_law_orders 40 [.fz (.tup (rangeD 0 n))] = .ok (.lst (pw (PP n)), [.fz (.tup (rangeD 0 n))])
  | 0, _ => by kernel_rfl
  | 1, _ => by kernel_rfl
  | 2, _ => by kernel_rfl
  | 3, _ => by kernel_rfl
  | 4, _ => by kernel_rfl
  | 5, _ => by kernel_rfl
  | n + 6, h => by omega
theorem pp_perm : ∀ n : Nat, n ≤ 5 → ((PP n).all fun p => p.isPerm (List.range n)) = true
  | 0, _ => by decide +kernel
  | 1, _ => by decide +kernel
  | 2, _ => by decide +kernel
  | 3, _ => by decide +kernel
  | 4, _ => by decide +kernel
  | 5, _ => by decide +kernel
  | n + 6, h => by omega
def allB : Nat → List (List Bool)
  | 0 => [[]]
  | n + 1 => (allB n).flatMap fun b => [true :: b, false :: b]
theorem mem_allB : ∀ bs : List Bool, bs ∈ allB bs.length
  | [] => by simp [allB]
  | b :: bs => by
    have ih := mem_allB bs
    show b :: bs ∈ (allB bs.length).flatMap fun b => [true :: b, false :: b]
    rw [List.mem_flatMap]
    exact ⟨bs, ih, by cases b <;> simp⟩
def ia (bs : List Bool) : List Nat := (List.range bs.length).filter fun i => bs.getD i false
def ib (bs : List Bool) : List Nat := (List.range bs.length).filter fun i => !bs.getD i false
theorem pp_has : ∀ n : Nat, n ≤ 5 → ((allB n).all fun bs => (PP n).contains (ia bs ++ ib bs) && (PP n).contains (ib bs ++ ia bs)) = true
  | 0, _ => by decide +kernel
  | 1, _ => by decide +kernel
  | 2, _ => by decide +kernel
  | 3, _ => by decide +kernel
  | 4, _ => by decide +kernel
  | 5, _ => by decide +kernel
  | n + 6, h => by omega
theorem pp_len : ∀ n : Nat, (PP n).length ≤ 120
  | 0 => by decide
  | 1 => by decide
  | 2 => by decide
  | 3 => by decide
  | 4 => by decide
  | 5 => by decide +kernel
  | n + 6 => by show 0 ≤ 120; decide
/-! ### the picked row -/
def pk (gs : List Int) (p : List Nat) : List Int := p.map fun k => gs.getD k 0
theorem range_map (gs : List Int) : pk gs (List.range gs.length) = gs := by
  apply List.ext_getElem
  · simp [pk]
  · intro i h1 h2
    simp only [pk, List.getElem_map, List.getElem_range, List.getD_eq_getElem?_getD, List.getElem?_eq_getElem h2, Option.getD_some]
theorem pk_perm {gs : List Int} {p : List Nat} (h : p ∈ PP gs.length) (hn : gs.length ≤ 5) : (pk gs p).Perm gs := by
  have a := List.all_eq_true.mp (pp_perm gs.length hn) p h
  have b := (List.isPerm_iff.mp a).map fun k => gs.getD k 0
  have c : pk gs (List.range gs.length) = gs := range_map gs
  unfold pk at c
  rw [c] at b
  exact b
theorem pk_lt {n : Nat} {p : List Nat} (h : p ∈ PP n) (hn : n ≤ 5) : (∀ k ∈ p, k < n) ∧ p.length = n := by
  have a := List.isPerm_iff.mp (List.all_eq_true.mp (pp_perm n hn) p h)
  exact ⟨fun k hk => List.mem_range.mp (a.mem_iff.mp hk), by rw [a.length_eq, List.length_range]⟩
theorem best {gs : List Int} {lo hi s : Int} (hn : gs.length ≤ 5) (h1 : lo ≤ s) (h2 : s ≤ hi) : topH lo hi gs s ∈ (PP gs.length).map (fun p => hl lo hi (pk gs p) s) ∧ botH lo hi gs s ∈ (PP gs.length).map (fun p => hl lo hi (pk gs p) s) := by
  have hb := mem_allB (gs.map fun g => decide (g < 0))
  rw [List.length_map] at hb
  have hc := List.all_eq_true.mp (pp_has gs.length hn) _ hb
  rw [Bool.and_eq_true] at hc
  have c1 := List.contains_iff_mem.mp hc.1
  have c2 := List.contains_iff_mem.mp hc.2
  have gd : ∀ i, i < gs.length → (gs.map fun g => decide (g < 0)).getD i false = decide (gs.getD i 0 < 0) := fun i hi => by
    simp [List.getD_eq_getElem?_getD, List.getElem?_eq_getElem hi]
  have na : ∀ x ∈ pk gs (ia (gs.map fun g => decide (g < 0))), x < 0 := fun x hx => by
    obtain ⟨i, hi, e⟩ := List.mem_map.mp hx
    have hf := List.mem_filter.mp hi
    have il : i < gs.length := by simpa using hf.1
    have := hf.2
    rw [gd i il] at this
    rw [← e]; exact of_decide_eq_true this
  have nb : ∀ x ∈ pk gs (ib (gs.map fun g => decide (g < 0))), ¬ x < 0 := fun x hx => by
    obtain ⟨i, hi, e⟩ := List.mem_map.mp hx
    have hf := List.mem_filter.mp hi
    have il : i < gs.length := by simpa using hf.1
    have := hf.2
    rw [gd i il] at this
    rw [← e]
    intro hlt
    rw [decide_eq_true hlt] at this
    cases this
  have p1 := pk_perm c1 hn
  have p2 := pk_perm c2 hn
  have ap : ∀ a b : List Nat, pk gs (a ++ b) = pk gs a ++ pk gs b := fun a b => List.map_append
  rw [ap] at p1 p2
  refine ⟨List.mem_map.mpr ⟨_, c1, ?_⟩, List.mem_map.mpr ⟨_, c2, ?_⟩⟩
  · rw [ap]; exact hl_top h1 h2 na nb p1
  · rw [ap]; exact hl_bot h1 h2 na nb p2
theorem maxOf_eq : ∀ {l : List Int} {m : Int}, m ∈ l → (∀ x ∈ l, x ≤ m) → maxOf l = some m := by
  intro l
  have key : ∀ l : List Int, l ≠ [] → ∃ m, maxOf l = some m ∧ m ∈ l ∧ ∀ x ∈ l, x ≤ m := by
    intro l
    induction l with
    | nil => intro h; exact absurd rfl h
    | cons n ns ih =>
      intro _
      by_cases h : ns = []
      · subst h; exact ⟨n, rfl, by simp, by simp⟩
      · obtain ⟨m, e, hm, ha⟩ := ih h
        by_cases hg : m > n
        · refine ⟨m, by unfold maxOf; rw [e]; simp [hg], by simp [hm], fun x hx => ?_⟩
          rcases List.mem_cons.mp hx with z | z
          · omega
          · exact ha x z
        · refine ⟨n, by unfold maxOf; rw [e]; simp [hg], by simp, fun x hx => ?_⟩
          rcases List.mem_cons.mp hx with z | z
          · omega
          · have := ha x z; omega
  intro m hm ha
  obtain ⟨m', e, h1, h2⟩ := key l (by intro z; subst z; cases hm)
  have a := h2 m hm
  have b := ha m' h1
  rw [e, show m' = m by omega]
theorem minOf_eq : ∀ {l : List Int} {m : Int}, m ∈ l → (∀ x ∈ l, m ≤ x) → minOf l = some m := by
  intro l
  have key : ∀ l : List Int, l ≠ [] → ∃ m, minOf l = some m ∧ m ∈ l ∧ ∀ x ∈ l, m ≤ x := by
    intro l
    induction l with
    | nil => intro h; exact absurd rfl h
    | cons n ns ih =>
      intro _
      by_cases h : ns = []
      · subst h; exact ⟨n, rfl, by simp, by simp⟩
      · obtain ⟨m, e, hm, ha⟩ := ih h
        by_cases hg : m < n
        · refine ⟨m, by unfold minOf; rw [e]; simp [hg], by simp [hm], fun x hx => ?_⟩
          rcases List.mem_cons.mp hx with z | z
          · omega
          · exact ha x z
        · refine ⟨n, by unfold minOf; rw [e]; simp [hg], by simp, fun x hx => ?_⟩
          rcases List.mem_cons.mp hx with z | z
          · omega
          · have := ha x z; omega
  intro m hm ha
  obtain ⟨m', e, h1, h2⟩ := key l (by intro z; subst z; cases hm)
  have a := h2 m hm
  have b := ha m' h1
  rw [e, show m' = m by omega]
theorem max_cw {l : List Int} {m : Int} (h : maxOf l = some m) : fMax1 [cw l] = .ok (.fz (.int m)) := by
  have e : lsV (cw l) = some (l.map D.int) := unfz_cw l
  unfold fMax1; dsimp only; rw [e]; dsimp only; rw [intsD_int]; dsimp only; rw [h]
theorem min_cw {l : List Int} {m : Int} (h : minOf l = some m) : fMin1 [cw l] = .ok (.fz (.int m)) := by
  have e : lsV (cw l) = some (l.map D.int) := unfz_cw l
  unfold fMin1; dsimp only; rw [e]; dsimp only; rw [intsD_int]; dsimp only; rw [h]
/-! ### the ends -/
theorem pick_lc {gs : List Int} {e1 e2 e3 e4 e5 : Option W} : ∀ p : List Nat, (∀ k ∈ p, k < gs.length) → lcL [6] (gSet 6) cYes (cBin fIdx true (cVar 0) (cVar 6)) (p.map fun k => D.int (k : Nat)) [some (.fz (.tup (gs.map D.int))), e1, e2, e3, e4, e5, none] = .ok ((pk gs p).map fun n => W.fz (.int n), [some (.fz (.tup (gs.map D.int))), e1, e2, e3, e4, e5, none])
  | [], _ => rfl
  | k :: p, h => by
    have ih := pick_lc (gs := gs) (e1 := e1) (e2 := e2) (e3 := e3) (e4 := e4) (e5 := e5) p (fun j hj => h j (by simp [hj]))
    have hk := h k (by simp)
    have ix : fIdx (.fz (.tup (gs.map D.int))) (.fz (.int (k : Nat))) = .ok (.fz (.int (gs.getD k 0))) :=
      w_ix (ds := gs.map D.int) (j := k) rfl (by rw [List.length_map]; rw [ixN_pos (by omega) (by omega)]; rfl) (by rw [List.getElem?_map, List.getElem?_eq_getElem hk, List.getD_eq_getElem?_getD, List.getElem?_eq_getElem hk]; rfl)
    simp only [List.map_cons (f := fun k : Nat => D.int (k : Nat)), Mi.v_bin6, Mi.v_bin5, Mi.v_bin4, Mi.v_bin3, Mi.v_bin2, Mi.v_bin1, Mi.v_bin, Mi.v_un3, Mi.v_un2, Mi.v_un1, Mi.v_un, Mi.v_test2, Mi.v_test1, Mi.v_test, Mi.v_cons3, Mi.v_cons2, Mi.v_cons1, Mi.v_cons, Mi.v_star4, Mi.v_star3, Mi.v_star2, Mi.v_star1, Mi.v_star, Mi.v_tup4, Mi.v_tup3, Mi.v_tup2, Mi.v_tup1, Mi.v_tup, Mi.v_lst4, Mi.v_lst3, Mi.v_lst2, Mi.v_lst1, Mi.v_lst, Mi.v_callB3, Mi.v_callB2, Mi.v_callB1, Mi.v_callB, Mi.v_andT1, Mi.v_andT, Mi.v_orT1, Mi.v_orT, Mi.v_notT1, Mi.v_notT, Mi.v_and2, Mi.v_and1, Mi.v_and, Mi.v_or2, Mi.v_or1, Mi.v_or, Mi.v_not2, Mi.v_not1, Mi.v_not, Mi.v_if1, Mi.v_if, Mi.v_orL1, Mi.v_orL, Mi.v_seq1, Mi.v_seq, Mi.v_ifS1, Mi.v_ifS, Mi.v_ret2, Mi.v_ret1, Mi.v_ret, Mi.v_drop1, Mi.v_drop, Mi.v_asg3, Mi.v_asg2, Mi.v_asg1, Mi.v_asg, Mi.v_gset1, Mi.v_gset, Mi.v_gsub5, Mi.v_gsub4, Mi.v_gsub3, Mi.v_gsub2, Mi.v_gsub1, Mi.v_gsub, Mi.v_gsc1, Mi.v_gsc, Mi.v_gsn1, Mi.v_gsn, Mi.v_for1, Mi.v_for, Mi.v_forc2, Mi.v_forc1, Mi.v_forc, Mi.v_lcc2, Mi.v_lcc1, Mi.v_lcc, Mi.v_lcT3, Mi.v_lcT2, Mi.v_lcT1, Mi.v_lcT, Mi.v_lc4, Mi.v_lc3, Mi.v_lc2, Mi.v_lc1, Mi.v_lc, Mi.v_def4, Mi.v_def3, Mi.v_def2, Mi.v_def1, Mi.v_def, Mi.v_callV4, Mi.v_callV3, Mi.v_callV2, Mi.v_callV1, Mi.v_callV, Mi.v_callP4, Mi.v_callP3, Mi.v_callP2, Mi.v_callP1, Mi.v_callP, Mi.v_callKV5, Mi.v_callKV4, Mi.v_callKV3, Mi.v_callKV2, Mi.v_callKV1, Mi.v_callKV, Mi.v_callKP5, Mi.v_callKP4, Mi.v_callKP3, Mi.v_callKP2, Mi.v_callKP1, Mi.v_callKP, Mi.v_callIO5, Mi.v_callIO4, Mi.v_callIO3, Mi.v_callIO2, Mi.v_callIO1, Mi.v_callIO, Mi.v_app7, Mi.v_app6, Mi.v_app5, Mi.v_app4, Mi.v_app3, Mi.v_app2, Mi.v_app1, Mi.v_app, Mi.v_sl6, Mi.v_sl5, Mi.v_sl4, Mi.v_sl3, Mi.v_sl2, Mi.v_sl1, Mi.v_sl, Mi.v_oS2, Mi.v_oS1, Mi.v_oS, Mi.v_iseq3, Mi.v_iseq2, Mi.v_iseq1, Mi.v_iseq, Mi.v_ienum3, Mi.v_ienum2, Mi.v_ienum1, Mi.v_ienum, Mi.v_irg3, Mi.v_irg2, Mi.v_irg1, Mi.v_irg, Mi.v_rgTup3, Mi.v_rgTup2, Mi.v_rgTup1, Mi.v_rgTup, Mi.v_argsc2, Mi.v_argsc1, Mi.v_argsc, Mi.v_putc1, Mi.v_putc, Mi.v_takesc2, Mi.v_takesc1, Mi.v_takesc, Mi.v_contsc2, Mi.v_contsc1, Mi.v_contsc, Mi.v_backsI2, Mi.v_backsI1, Mi.v_backsI, Mi.v_ok, Mi.v_c, Mi.v_nil, Mi.v_next, Mi.v_yes, Mi.v_oN, Mi.v_gtup, Mi.v_var, Mi.v_for0, Mi.v_lc0, Mi.v_args0, Mi.v_put0, Mi.v_takes0, Mi.v_conts0, Mi.v_backs0, Mi.w_add, Mi.w_sub, Mi.w_neg, Mi.w_lt, Mi.w_le, Mi.w_gt, Mi.w_ge, Mi.w_intI, Mi.w_intB, Mi.w_abs, Mi.w_max, Mi.w_min, Mi.w_ix0, Mi.w_ix1, Mi.w_ix2, Mi.w_i0, Mi.w_i1, Mi.w_i2, Mi.pend, Mi.cont, Mi.take, Mi.frz, Mi.frzs, Mi.getP, Mi.setP, Mi.Res.of, Mi.boolOf, Mi.isPl, Mi.mutS, Mi.mutA, Mi.mutP, Mi.intOf, Mi.move, Mi.retOf, Mi.backs1, Mi.put1, Mi.fzT, Mi.ioOf, Mi.chk, Mi.early, Mi.shut, Mi.isTmp, Mi.flatB, Mi.scal, List.map_cons, List.map_nil, List.cons_append, List.nil_append, List.append_nil, List.replicate_succ, List.replicate_zero, List.replicate, List.length_cons, List.length_nil, List.getElem?_cons_zero, List.getElem?_cons_succ, List.set_cons_zero, List.set_cons_succ, List.all_cons, List.all_nil, List.contains_cons, List.contains_nil, List.elem_cons, List.elem_nil, List.isEmpty_nil, List.isEmpty_cons, Nat.reduceAdd, Nat.reduceSub, Nat.reduceBEq, Nat.reduceLT, Nat.reduceLeDiff, Nat.reduceEqDiff, decide_true, decide_false, Bool.and_true, Bool.true_and, Bool.or_true, Bool.true_or, Bool.or_false, Bool.false_or, Bool.and_false, Bool.false_and, Bool.not_true, Bool.not_false, Bool.false_eq_true, reduceIte, ite_true, ite_false, beq_self_eq_true, Nat.zero_add, reduceCtorEq, and_self, true_and, and_true, ge_iff_le, gt_iff_lt, Nat.succ_eq_add_one, Nat.add_one_sub_one, Nat.zero_lt_succ, Nat.lt_add_left_iff_pos, Mi.wipeE, Mi.restE, Mi.pick, List.filterMap_cons, List.filterMap_nil, ix, ih, pk]
abbrev bodyE : CS := cDrop (cApp false (cVar 4) (cCallP false F_law_held (cCons true (cLc [6] (iSeq (cVar 5)) (gSet 6) cYes (cBin fIdx true (cVar 0) (cVar 6))) (cCons true (cVar 1) (cCons true (cVar 2) (cCons true (cVar 3) cNil))))))
theorem ends_loop {gs : List Int} {lo hi s : Int} : ∀ (ps : List (List Nat)) (acc : List Int) (o5 : Option W), (∀ p ∈ ps, (∀ k ∈ p, k < gs.length) ∧ p.length < 100) → acc.length + ps.length < 1000 → ∃ o5', forL (gSet 5) bodyE (ps.map fun p => D.tup (p.map fun k => D.int (k : Nat))) [some (.fz (.tup (gs.map D.int))), some (.fz (.int lo)), some (.fz (.int hi)), some (.fz (.int s)), some (cw acc), o5, none]
    = .ok (.nx, [some (.fz (.tup (gs.map D.int))), some (.fz (.int lo)), some (.fz (.int hi)), some (.fz (.int s)), some (cw (acc ++ ps.map fun p => hl lo hi (pk gs p) s)), o5', none])
  | [], acc, o5, _, _ => ⟨o5, by rw [List.map_nil, List.map_nil, List.append_nil]; rfl⟩
  | p :: ps, acc, o5, h, ha => by
    obtain ⟨hp, hpl⟩ := h p (by simp)
    obtain ⟨o5', ih⟩ := ends_loop (gs := gs) (lo := lo) (hi := hi) (s := s) ps (acc ++ [hl lo hi (pk gs p) s]) (some (.fz (.tup (p.map fun k => D.int (k : Nat))))) (fun q hq => h q (by simp [hq])) (by simp only [List.length_append, List.length_cons, List.length_nil] at *; omega)
    refine ⟨o5', ?_⟩
    have hs : srcV (.fz (.tup (p.map fun k => D.int (k : Nat)))) = some (p.map fun k => D.int (k : Nat)) := rfl
    have c1 : iSeq (cVar 5) [some (.fz (.tup (gs.map D.int))), some (.fz (.int lo)), some (.fz (.int hi)), some (.fz (.int s)), some (cw acc), some (.fz (.tup (p.map fun k => D.int (k : Nat)))), none] = .ok (p.map fun k => D.int (k : Nat), [some (.fz (.tup (gs.map D.int))), some (.fz (.int lo)), some (.fz (.int hi)), some (.fz (.int s)), some (cw acc), some (.fz (.tup (p.map fun k => D.int (k : Nat)))), none]) := by simp only [Mi.v_bin6, Mi.v_bin5, Mi.v_bin4, Mi.v_bin3, Mi.v_bin2, Mi.v_bin1, Mi.v_bin, Mi.v_un3, Mi.v_un2, Mi.v_un1, Mi.v_un, Mi.v_test2, Mi.v_test1, Mi.v_test, Mi.v_cons3, Mi.v_cons2, Mi.v_cons1, Mi.v_cons, Mi.v_star4, Mi.v_star3, Mi.v_star2, Mi.v_star1, Mi.v_star, Mi.v_tup4, Mi.v_tup3, Mi.v_tup2, Mi.v_tup1, Mi.v_tup, Mi.v_lst4, Mi.v_lst3, Mi.v_lst2, Mi.v_lst1, Mi.v_lst, Mi.v_callB3, Mi.v_callB2, Mi.v_callB1, Mi.v_callB, Mi.v_andT1, Mi.v_andT, Mi.v_orT1, Mi.v_orT, Mi.v_notT1, Mi.v_notT, Mi.v_and2, Mi.v_and1, Mi.v_and, Mi.v_or2, Mi.v_or1, Mi.v_or, Mi.v_not2, Mi.v_not1, Mi.v_not, Mi.v_if1, Mi.v_if, Mi.v_orL1, Mi.v_orL, Mi.v_seq1, Mi.v_seq, Mi.v_ifS1, Mi.v_ifS, Mi.v_ret2, Mi.v_ret1, Mi.v_ret, Mi.v_drop1, Mi.v_drop, Mi.v_asg3, Mi.v_asg2, Mi.v_asg1, Mi.v_asg, Mi.v_gset1, Mi.v_gset, Mi.v_gsub5, Mi.v_gsub4, Mi.v_gsub3, Mi.v_gsub2, Mi.v_gsub1, Mi.v_gsub, Mi.v_gsc1, Mi.v_gsc, Mi.v_gsn1, Mi.v_gsn, Mi.v_for1, Mi.v_for, Mi.v_forc2, Mi.v_forc1, Mi.v_forc, Mi.v_lcc2, Mi.v_lcc1, Mi.v_lcc, Mi.v_lcT3, Mi.v_lcT2, Mi.v_lcT1, Mi.v_lcT, Mi.v_lc4, Mi.v_lc3, Mi.v_lc2, Mi.v_lc1, Mi.v_lc, Mi.v_def4, Mi.v_def3, Mi.v_def2, Mi.v_def1, Mi.v_def, Mi.v_callV4, Mi.v_callV3, Mi.v_callV2, Mi.v_callV1, Mi.v_callV, Mi.v_callP4, Mi.v_callP3, Mi.v_callP2, Mi.v_callP1, Mi.v_callP, Mi.v_callKV5, Mi.v_callKV4, Mi.v_callKV3, Mi.v_callKV2, Mi.v_callKV1, Mi.v_callKV, Mi.v_callKP5, Mi.v_callKP4, Mi.v_callKP3, Mi.v_callKP2, Mi.v_callKP1, Mi.v_callKP, Mi.v_callIO5, Mi.v_callIO4, Mi.v_callIO3, Mi.v_callIO2, Mi.v_callIO1, Mi.v_callIO, Mi.v_app7, Mi.v_app6, Mi.v_app5, Mi.v_app4, Mi.v_app3, Mi.v_app2, Mi.v_app1, Mi.v_app, Mi.v_sl6, Mi.v_sl5, Mi.v_sl4, Mi.v_sl3, Mi.v_sl2, Mi.v_sl1, Mi.v_sl, Mi.v_oS2, Mi.v_oS1, Mi.v_oS, Mi.v_iseq3, Mi.v_iseq2, Mi.v_iseq1, Mi.v_iseq, Mi.v_ienum3, Mi.v_ienum2, Mi.v_ienum1, Mi.v_ienum, Mi.v_irg3, Mi.v_irg2, Mi.v_irg1, Mi.v_irg, Mi.v_rgTup3, Mi.v_rgTup2, Mi.v_rgTup1, Mi.v_rgTup, Mi.v_argsc2, Mi.v_argsc1, Mi.v_argsc, Mi.v_putc1, Mi.v_putc, Mi.v_takesc2, Mi.v_takesc1, Mi.v_takesc, Mi.v_contsc2, Mi.v_contsc1, Mi.v_contsc, Mi.v_backsI2, Mi.v_backsI1, Mi.v_backsI, Mi.v_ok, Mi.v_c, Mi.v_nil, Mi.v_next, Mi.v_yes, Mi.v_oN, Mi.v_gtup, Mi.v_var, Mi.v_for0, Mi.v_lc0, Mi.v_args0, Mi.v_put0, Mi.v_takes0, Mi.v_conts0, Mi.v_backs0, Mi.w_add, Mi.w_sub, Mi.w_neg, Mi.w_lt, Mi.w_le, Mi.w_gt, Mi.w_ge, Mi.w_intI, Mi.w_intB, Mi.w_abs, Mi.w_max, Mi.w_min, Mi.w_ix0, Mi.w_ix1, Mi.w_ix2, Mi.w_i0, Mi.w_i1, Mi.w_i2, Mi.pend, Mi.cont, Mi.take, Mi.frz, Mi.frzs, Mi.getP, Mi.setP, Mi.Res.of, Mi.boolOf, Mi.isPl, Mi.mutS, Mi.mutA, Mi.mutP, Mi.intOf, Mi.move, Mi.retOf, Mi.backs1, Mi.put1, Mi.fzT, Mi.ioOf, Mi.chk, Mi.early, Mi.shut, Mi.isTmp, Mi.flatB, Mi.scal, List.map_cons, List.map_nil, List.cons_append, List.nil_append, List.append_nil, List.replicate_succ, List.replicate_zero, List.replicate, List.length_cons, List.length_nil, List.getElem?_cons_zero, List.getElem?_cons_succ, List.set_cons_zero, List.set_cons_succ, List.all_cons, List.all_nil, List.contains_cons, List.contains_nil, List.elem_cons, List.elem_nil, List.isEmpty_nil, List.isEmpty_cons, Nat.reduceAdd, Nat.reduceSub, Nat.reduceBEq, Nat.reduceLT, Nat.reduceLeDiff, Nat.reduceEqDiff, decide_true, decide_false, Bool.and_true, Bool.true_and, Bool.or_true, Bool.true_or, Bool.or_false, Bool.false_or, Bool.and_false, Bool.false_and, Bool.not_true, Bool.not_false, Bool.false_eq_true, reduceIte, ite_true, ite_false, beq_self_eq_true, Nat.zero_add, reduceCtorEq, and_self, true_and, and_true, ge_iff_le, gt_iff_lt, Nat.succ_eq_add_one, Nat.add_one_sub_one, Nat.zero_lt_succ, Nat.lt_add_left_iff_pos, Mi.wipeE, Mi.restE, Mi.pick, List.filterMap_cons, List.filterMap_nil, hs]
    have c2 := lcv true [6] (iSeq (cVar 5)) (gSet 6) cYes (cBin fIdx true (cVar 0) (cVar 6)) c1 rfl (by rw [List.length_map]; omega) (pick_lc p hp)
    have c3 : ∀ a b c d e f : Option W, restE [a, b, c, d, e, f, none] [6] [a, b, c, d, e, f, none] = [a, b, c, d, e, f, none] := fun _ _ _ _ _ _ => rfl
    rw [c3] at c2
    have hb : bodyE [some (.fz (.tup (gs.map D.int))), some (.fz (.int lo)), some (.fz (.int hi)), some (.fz (.int s)), some (cw acc), some (.fz (.tup (p.map fun k => D.int (k : Nat)))), none] = .ok (.nx, [some (.fz (.tup (gs.map D.int))), some (.fz (.int lo)), some (.fz (.int hi)), some (.fz (.int s)), some (.lst ((acc.map fun n => W.fz (.int n)) ++ [.fz (.int (hl lo hi (pk gs p) s))])), some (.fz (.tup (p.map fun k => D.int (k : Nat)))), none]) := by
      have al : acc.length < 16777216 := by omega
      simp only [bodyE, Mi.v_bin6, Mi.v_bin5, Mi.v_bin4, Mi.v_bin3, Mi.v_bin2, Mi.v_bin1, Mi.v_bin, Mi.v_un3, Mi.v_un2, Mi.v_un1, Mi.v_un, Mi.v_test2, Mi.v_test1, Mi.v_test, Mi.v_cons3, Mi.v_cons2, Mi.v_cons1, Mi.v_cons, Mi.v_star4, Mi.v_star3, Mi.v_star2, Mi.v_star1, Mi.v_star, Mi.v_tup4, Mi.v_tup3, Mi.v_tup2, Mi.v_tup1, Mi.v_tup, Mi.v_lst4, Mi.v_lst3, Mi.v_lst2, Mi.v_lst1, Mi.v_lst, Mi.v_callB3, Mi.v_callB2, Mi.v_callB1, Mi.v_callB, Mi.v_andT1, Mi.v_andT, Mi.v_orT1, Mi.v_orT, Mi.v_notT1, Mi.v_notT, Mi.v_and2, Mi.v_and1, Mi.v_and, Mi.v_or2, Mi.v_or1, Mi.v_or, Mi.v_not2, Mi.v_not1, Mi.v_not, Mi.v_if1, Mi.v_if, Mi.v_orL1, Mi.v_orL, Mi.v_seq1, Mi.v_seq, Mi.v_ifS1, Mi.v_ifS, Mi.v_ret2, Mi.v_ret1, Mi.v_ret, Mi.v_drop1, Mi.v_drop, Mi.v_asg3, Mi.v_asg2, Mi.v_asg1, Mi.v_asg, Mi.v_gset1, Mi.v_gset, Mi.v_gsub5, Mi.v_gsub4, Mi.v_gsub3, Mi.v_gsub2, Mi.v_gsub1, Mi.v_gsub, Mi.v_gsc1, Mi.v_gsc, Mi.v_gsn1, Mi.v_gsn, Mi.v_for1, Mi.v_for, Mi.v_forc2, Mi.v_forc1, Mi.v_forc, Mi.v_lcc2, Mi.v_lcc1, Mi.v_lcc, Mi.v_lcT3, Mi.v_lcT2, Mi.v_lcT1, Mi.v_lcT, Mi.v_lc4, Mi.v_lc3, Mi.v_lc2, Mi.v_lc1, Mi.v_def4, Mi.v_def3, Mi.v_def2, Mi.v_def1, Mi.v_def, Mi.v_callV4, Mi.v_callV3, Mi.v_callV2, Mi.v_callV1, Mi.v_callV, Mi.v_callP4, Mi.v_callP3, Mi.v_callP2, Mi.v_callP1, Mi.v_callP, Mi.v_callKV5, Mi.v_callKV4, Mi.v_callKV3, Mi.v_callKV2, Mi.v_callKV1, Mi.v_callKV, Mi.v_callKP5, Mi.v_callKP4, Mi.v_callKP3, Mi.v_callKP2, Mi.v_callKP1, Mi.v_callKP, Mi.v_callIO5, Mi.v_callIO4, Mi.v_callIO3, Mi.v_callIO2, Mi.v_callIO1, Mi.v_callIO, Mi.v_app7, Mi.v_app6, Mi.v_app5, Mi.v_app4, Mi.v_app3, Mi.v_app2, Mi.v_app1, Mi.v_app, Mi.v_sl6, Mi.v_sl5, Mi.v_sl4, Mi.v_sl3, Mi.v_sl2, Mi.v_sl1, Mi.v_sl, Mi.v_oS2, Mi.v_oS1, Mi.v_oS, Mi.v_iseq3, Mi.v_iseq2, Mi.v_iseq1, Mi.v_iseq, Mi.v_ienum3, Mi.v_ienum2, Mi.v_ienum1, Mi.v_ienum, Mi.v_irg3, Mi.v_irg2, Mi.v_irg1, Mi.v_irg, Mi.v_rgTup3, Mi.v_rgTup2, Mi.v_rgTup1, Mi.v_rgTup, Mi.v_argsc2, Mi.v_argsc1, Mi.v_argsc, Mi.v_putc1, Mi.v_putc, Mi.v_takesc2, Mi.v_takesc1, Mi.v_takesc, Mi.v_contsc2, Mi.v_contsc1, Mi.v_contsc, Mi.v_backsI2, Mi.v_backsI1, Mi.v_backsI, Mi.v_ok, Mi.v_c, Mi.v_nil, Mi.v_next, Mi.v_yes, Mi.v_oN, Mi.v_gtup, Mi.v_var, Mi.v_for0, Mi.v_lc0, Mi.v_args0, Mi.v_put0, Mi.v_takes0, Mi.v_conts0, Mi.v_backs0, Mi.w_add, Mi.w_sub, Mi.w_neg, Mi.w_lt, Mi.w_le, Mi.w_gt, Mi.w_ge, Mi.w_intI, Mi.w_intB, Mi.w_abs, Mi.w_max, Mi.w_min, Mi.w_ix0, Mi.w_ix1, Mi.w_ix2, Mi.w_i0, Mi.w_i1, Mi.w_i2, Mi.pend, Mi.cont, Mi.take, Mi.frz, Mi.frzs, Mi.getP, Mi.setP, Mi.Res.of, Mi.boolOf, Mi.isPl, Mi.mutS, Mi.mutA, Mi.mutP, Mi.intOf, Mi.move, Mi.retOf, Mi.backs1, Mi.put1, Mi.fzT, Mi.ioOf, Mi.chk, Mi.early, Mi.shut, Mi.isTmp, Mi.flatB, Mi.scal, List.map_cons, List.map_nil, List.cons_append, List.nil_append, List.append_nil, List.replicate_succ, List.replicate_zero, List.replicate, List.length_cons, List.length_nil, List.getElem?_cons_zero, List.getElem?_cons_succ, List.set_cons_zero, List.set_cons_succ, List.all_cons, List.all_nil, List.contains_cons, List.contains_nil, List.elem_cons, List.elem_nil, List.isEmpty_nil, List.isEmpty_cons, Nat.reduceAdd, Nat.reduceSub, Nat.reduceBEq, Nat.reduceLT, Nat.reduceLeDiff, Nat.reduceEqDiff, decide_true, decide_false, Bool.and_true, Bool.true_and, Bool.or_true, Bool.true_or, Bool.or_false, Bool.false_or, Bool.and_false, Bool.false_and, Bool.not_true, Bool.not_false, Bool.false_eq_true, reduceIte, ite_true, ite_false, beq_self_eq_true, Nat.zero_add, reduceCtorEq, and_self, true_and, and_true, ge_iff_le, gt_iff_lt, Nat.succ_eq_add_one, Nat.add_one_sub_one, Nat.zero_lt_succ, Nat.lt_add_left_iff_pos, Mi.wipeE, Mi.restE, Mi.pick, List.filterMap_cons, List.filterMap_nil, c2, frzs_cw, held_ok, List.length_map, al]
    have cwa : cw (acc ++ [hl lo hi (pk gs p) s]) = .lst ((acc.map fun n => W.fz (.int n)) ++ [.fz (.int (hl lo hi (pk gs p) s))]) := by unfold cw; rw [List.map_append]; rfl
    rw [List.map_cons, Mi.v_forc]
    have hg : gSet 5 (.fz (.tup (p.map fun k => D.int (k : Nat)))) [some (.fz (.tup (gs.map D.int))), some (.fz (.int lo)), some (.fz (.int hi)), some (.fz (.int s)), some (cw acc), o5, none] = .ok [some (.fz (.tup (gs.map D.int))), some (.fz (.int lo)), some (.fz (.int hi)), some (.fz (.int s)), some (cw acc), some (.fz (.tup (p.map fun k => D.int (k : Nat)))), none] := rfl
    rw [hg, Mi.v_ok, Mi.v_forc1, hb, Mi.v_ok, Mi.v_forc2]
    dsimp only
    rw [← cwa, ih, List.append_assoc]
    rfl
theorem frzs_pw : ∀ ps : List (List Nat), frzs (pw ps) = ps.map fun p => D.tup (p.map fun k => D.int (k : Nat))
  | [] => rfl
  | p :: ps => by show D.tup _ :: frzs (pw ps) = _; rw [frzs_pw ps]; rfl
end Gn
namespace Gn
open Mi PySem PySem.Spec PyProof.Rows L2
theorem en_1 {gs : List Int} {lo hi s : Int} (hn : gs.length ≤ 5) : cRgTup (cCallB fLen (cCons true (cVar 0) cNil)) [some (.fz (.tup (gs.map D.int))), some (.fz (.int lo)), some (.fz (.int hi)), some (.fz (.int s)), some (.lst []), none, none] = .ok (.tmp (.fz (.tup (rangeD 0 gs.length))), [some (.fz (.tup (gs.map D.int))), some (.fz (.int lo)), some (.fz (.int hi)), some (.fz (.int s)), some (.lst []), none, none]) := by
  have ln : fLen [.fz (.tup (gs.map D.int))] = .ok (.fz (.int gs.length)) := by show Res.ok (W.fz (.int (gs.map D.int).length)) = _; rw [List.length_map]
  have rk : decide (RgOk 0 (gs.length : Int)) = true := decide_eq_true (RgOk.of_le (by omega) (by omega) (by omega) (by omega))
  have c0 : cCallB fLen (cCons true (cVar 0) cNil) [some (.fz (.tup (gs.map D.int))), some (.fz (.int lo)), some (.fz (.int hi)), some (.fz (.int s)), some (.lst []), none, none] = .ok (.tmp (.fz (.int gs.length)), [some (.fz (.tup (gs.map D.int))), some (.fz (.int lo)), some (.fz (.int hi)), some (.fz (.int s)), some (.lst []), none, none]) := by simp only [Mi.v_bin6, Mi.v_bin5, Mi.v_bin4, Mi.v_bin3, Mi.v_bin2, Mi.v_bin1, Mi.v_bin, Mi.v_un3, Mi.v_un2, Mi.v_un1, Mi.v_un, Mi.v_test2, Mi.v_test1, Mi.v_test, Mi.v_cons3, Mi.v_cons2, Mi.v_cons1, Mi.v_cons, Mi.v_star4, Mi.v_star3, Mi.v_star2, Mi.v_star1, Mi.v_star, Mi.v_tup4, Mi.v_tup3, Mi.v_tup2, Mi.v_tup1, Mi.v_tup, Mi.v_lst4, Mi.v_lst3, Mi.v_lst2, Mi.v_lst1, Mi.v_lst, Mi.v_callB3, Mi.v_callB2, Mi.v_callB1, Mi.v_callB, Mi.v_andT1, Mi.v_andT, Mi.v_orT1, Mi.v_orT, Mi.v_notT1, Mi.v_notT, Mi.v_and2, Mi.v_and1, Mi.v_and, Mi.v_or2, Mi.v_or1, Mi.v_or, Mi.v_not2, Mi.v_not1, Mi.v_not, Mi.v_if1, Mi.v_if, Mi.v_orL1, Mi.v_orL, Mi.v_seq1, Mi.v_seq, Mi.v_ifS1, Mi.v_ifS, Mi.v_ret2, Mi.v_ret1, Mi.v_ret, Mi.v_drop1, Mi.v_drop, Mi.v_asg3, Mi.v_asg2, Mi.v_asg1, Mi.v_asg, Mi.v_gset1, Mi.v_gset, Mi.v_gsub5, Mi.v_gsub4, Mi.v_gsub3, Mi.v_gsub2, Mi.v_gsub1, Mi.v_gsub, Mi.v_gsc1, Mi.v_gsc, Mi.v_gsn1, Mi.v_gsn, Mi.v_for1, Mi.v_for, Mi.v_forc2, Mi.v_forc1, Mi.v_forc, Mi.v_lcc2, Mi.v_lcc1, Mi.v_lcc, Mi.v_lcT3, Mi.v_lcT2, Mi.v_lcT1, Mi.v_lcT, Mi.v_lc4, Mi.v_lc3, Mi.v_lc2, Mi.v_lc1, Mi.v_lc, Mi.v_def4, Mi.v_def3, Mi.v_def2, Mi.v_def1, Mi.v_def, Mi.v_callV4, Mi.v_callV3, Mi.v_callV2, Mi.v_callV1, Mi.v_callV, Mi.v_callP4, Mi.v_callP3, Mi.v_callP2, Mi.v_callP1, Mi.v_callP, Mi.v_callKV5, Mi.v_callKV4, Mi.v_callKV3, Mi.v_callKV2, Mi.v_callKV1, Mi.v_callKV, Mi.v_callKP5, Mi.v_callKP4, Mi.v_callKP3, Mi.v_callKP2, Mi.v_callKP1, Mi.v_callKP, Mi.v_callIO5, Mi.v_callIO4, Mi.v_callIO3, Mi.v_callIO2, Mi.v_callIO1, Mi.v_callIO, Mi.v_app7, Mi.v_app6, Mi.v_app5, Mi.v_app4, Mi.v_app3, Mi.v_app2, Mi.v_app1, Mi.v_app, Mi.v_sl6, Mi.v_sl5, Mi.v_sl4, Mi.v_sl3, Mi.v_sl2, Mi.v_sl1, Mi.v_sl, Mi.v_oS2, Mi.v_oS1, Mi.v_oS, Mi.v_iseq3, Mi.v_iseq2, Mi.v_iseq1, Mi.v_iseq, Mi.v_ienum3, Mi.v_ienum2, Mi.v_ienum1, Mi.v_ienum, Mi.v_irg3, Mi.v_irg2, Mi.v_irg1, Mi.v_irg, Mi.v_rgTup3, Mi.v_rgTup2, Mi.v_rgTup1, Mi.v_rgTup, Mi.v_argsc2, Mi.v_argsc1, Mi.v_argsc, Mi.v_putc1, Mi.v_putc, Mi.v_takesc2, Mi.v_takesc1, Mi.v_takesc, Mi.v_contsc2, Mi.v_contsc1, Mi.v_contsc, Mi.v_backsI2, Mi.v_backsI1, Mi.v_backsI, Mi.v_ok, Mi.v_c, Mi.v_nil, Mi.v_next, Mi.v_yes, Mi.v_oN, Mi.v_gtup, Mi.v_var, Mi.v_for0, Mi.v_lc0, Mi.v_args0, Mi.v_put0, Mi.v_takes0, Mi.v_conts0, Mi.v_backs0, Mi.w_add, Mi.w_sub, Mi.w_neg, Mi.w_lt, Mi.w_le, Mi.w_gt, Mi.w_ge, Mi.w_intI, Mi.w_intB, Mi.w_abs, Mi.w_max, Mi.w_min, Mi.w_ix0, Mi.w_ix1, Mi.w_ix2, Mi.w_i0, Mi.w_i1, Mi.w_i2, Mi.pend, Mi.cont, Mi.take, Mi.frz, Mi.frzs, Mi.getP, Mi.setP, Mi.Res.of, Mi.boolOf, Mi.isPl, Mi.mutS, Mi.mutA, Mi.mutP, Mi.intOf, Mi.move, Mi.retOf, Mi.backs1, Mi.put1, Mi.fzT, Mi.ioOf, Mi.chk, Mi.early, Mi.shut, Mi.isTmp, Mi.flatB, Mi.scal, List.map_cons, List.map_nil, List.cons_append, List.nil_append, List.append_nil, List.replicate_succ, List.replicate_zero, List.replicate, List.length_cons, List.length_nil, List.getElem?_cons_zero, List.getElem?_cons_succ, List.set_cons_zero, List.set_cons_succ, List.all_cons, List.all_nil, List.contains_cons, List.contains_nil, List.elem_cons, List.elem_nil, List.isEmpty_nil, List.isEmpty_cons, Nat.reduceAdd, Nat.reduceSub, Nat.reduceBEq, Nat.reduceLT, Nat.reduceLeDiff, Nat.reduceEqDiff, decide_true, decide_false, Bool.and_true, Bool.true_and, Bool.or_true, Bool.true_or, Bool.or_false, Bool.false_or, Bool.and_false, Bool.false_and, Bool.not_true, Bool.not_false, Bool.false_eq_true, reduceIte, ite_true, ite_false, beq_self_eq_true, Nat.zero_add, reduceCtorEq, and_self, true_and, and_true, ge_iff_le, gt_iff_lt, Nat.succ_eq_add_one, Nat.add_one_sub_one, Nat.zero_lt_succ, Nat.lt_add_left_iff_pos, Mi.wipeE, Mi.restE, Mi.pick, List.filterMap_cons, List.filterMap_nil, ln]
  have ci : intOf (.tmp (.fz (.int gs.length))) = .ok (gs.length : Int) := rfl
  rw [Mi.v_rgTup, c0, Mi.v_ok, Mi.v_rgTup1, ci, Mi.v_ok, Mi.v_rgTup2, rk, cT, Mi.v_ok, Mi.v_rgTup3]
  rw [Int.sub_zero, Int.toNat_natCast]
theorem en_2 {gs : List Int} {lo hi s : Int} (hn : gs.length ≤ 5) : iSeq (cCallP true (F_law_orders 40) (cCons true (cRgTup (cCallB fLen (cCons true (cVar 0) cNil))) cNil)) [some (.fz (.tup (gs.map D.int))), some (.fz (.int lo)), some (.fz (.int hi)), some (.fz (.int s)), some (.lst []), none, none] = .ok ((PP gs.length).map fun p => D.tup (p.map fun k => D.int (k : Nat)), [some (.fz (.tup (gs.map D.int))), some (.fz (.int lo)), some (.fz (.int hi)), some (.fz (.int s)), some (.lst []), none, none]) := by
  have sp : srcV (.lst (pw (PP gs.length))) = some ((PP gs.length).map fun p => D.tup (p.map fun k => D.int (k : Nat))) := by show some (frzs _) = _; rw [frzs_pw]
  have oo := orders_ok gs.length hn
  generalize hF : F_law_orders 40 = F at *
  have c1 := en_1 (gs := gs) (lo := lo) (hi := hi) (s := s) hn
  generalize (PP gs.length).map (fun p => D.tup (p.map fun k => D.int (k : Nat))) = ds at *
  generalize pw (PP gs.length) = ws at *
  generalize rangeD 0 gs.length = rg at *
  rw [Mi.v_iseq, Mi.v_callP, Mi.v_cons, c1]
  simp only [Mi.v_bin6, Mi.v_bin5, Mi.v_bin4, Mi.v_bin3, Mi.v_bin2, Mi.v_bin1, Mi.v_bin, Mi.v_un3, Mi.v_un2, Mi.v_un1, Mi.v_un, Mi.v_test2, Mi.v_test1, Mi.v_test, Mi.v_cons3, Mi.v_cons2, Mi.v_cons1, Mi.v_cons, Mi.v_star4, Mi.v_star3, Mi.v_star2, Mi.v_star1, Mi.v_star, Mi.v_tup4, Mi.v_tup3, Mi.v_tup2, Mi.v_tup1, Mi.v_tup, Mi.v_lst4, Mi.v_lst3, Mi.v_lst2, Mi.v_lst1, Mi.v_lst, Mi.v_callB3, Mi.v_callB2, Mi.v_callB1, Mi.v_callB, Mi.v_andT1, Mi.v_andT, Mi.v_orT1, Mi.v_orT, Mi.v_notT1, Mi.v_notT, Mi.v_and2, Mi.v_and1, Mi.v_and, Mi.v_or2, Mi.v_or1, Mi.v_or, Mi.v_not2, Mi.v_not1, Mi.v_not, Mi.v_if1, Mi.v_if, Mi.v_orL1, Mi.v_orL, Mi.v_seq1, Mi.v_seq, Mi.v_ifS1, Mi.v_ifS, Mi.v_ret2, Mi.v_ret1, Mi.v_ret, Mi.v_drop1, Mi.v_drop, Mi.v_asg3, Mi.v_asg2, Mi.v_asg1, Mi.v_asg, Mi.v_gset1, Mi.v_gset, Mi.v_gsub5, Mi.v_gsub4, Mi.v_gsub3, Mi.v_gsub2, Mi.v_gsub1, Mi.v_gsub, Mi.v_gsc1, Mi.v_gsc, Mi.v_gsn1, Mi.v_gsn, Mi.v_for1, Mi.v_for, Mi.v_forc2, Mi.v_forc1, Mi.v_forc, Mi.v_lcc2, Mi.v_lcc1, Mi.v_lcc, Mi.v_lcT3, Mi.v_lcT2, Mi.v_lcT1, Mi.v_lcT, Mi.v_lc4, Mi.v_lc3, Mi.v_lc2, Mi.v_lc1, Mi.v_lc, Mi.v_def4, Mi.v_def3, Mi.v_def2, Mi.v_def1, Mi.v_def, Mi.v_callV4, Mi.v_callV3, Mi.v_callV2, Mi.v_callV1, Mi.v_callV, Mi.v_callP4, Mi.v_callP3, Mi.v_callP2, Mi.v_callP1, Mi.v_callP, Mi.v_callKV5, Mi.v_callKV4, Mi.v_callKV3, Mi.v_callKV2, Mi.v_callKV1, Mi.v_callKV, Mi.v_callKP5, Mi.v_callKP4, Mi.v_callKP3, Mi.v_callKP2, Mi.v_callKP1, Mi.v_callKP, Mi.v_callIO5, Mi.v_callIO4, Mi.v_callIO3, Mi.v_callIO2, Mi.v_callIO1, Mi.v_callIO, Mi.v_app7, Mi.v_app6, Mi.v_app5, Mi.v_app4, Mi.v_app3, Mi.v_app2, Mi.v_app1, Mi.v_app, Mi.v_sl6, Mi.v_sl5, Mi.v_sl4, Mi.v_sl3, Mi.v_sl2, Mi.v_sl1, Mi.v_sl, Mi.v_oS2, Mi.v_oS1, Mi.v_oS, Mi.v_iseq3, Mi.v_iseq2, Mi.v_iseq1, Mi.v_iseq, Mi.v_ienum3, Mi.v_ienum2, Mi.v_ienum1, Mi.v_ienum, Mi.v_irg3, Mi.v_irg2, Mi.v_irg1, Mi.v_irg, Mi.v_rgTup3, Mi.v_rgTup2, Mi.v_rgTup1, Mi.v_rgTup, Mi.v_argsc2, Mi.v_argsc1, Mi.v_argsc, Mi.v_putc1, Mi.v_putc, Mi.v_takesc2, Mi.v_takesc1, Mi.v_takesc, Mi.v_contsc2, Mi.v_contsc1, Mi.v_contsc, Mi.v_backsI2, Mi.v_backsI1, Mi.v_backsI, Mi.v_ok, Mi.v_c, Mi.v_nil, Mi.v_next, Mi.v_yes, Mi.v_oN, Mi.v_gtup, Mi.v_var, Mi.v_for0, Mi.v_lc0, Mi.v_args0, Mi.v_put0, Mi.v_takes0, Mi.v_conts0, Mi.v_backs0, Mi.w_add, Mi.w_sub, Mi.w_neg, Mi.w_lt, Mi.w_le, Mi.w_gt, Mi.w_ge, Mi.w_intI, Mi.w_intB, Mi.w_abs, Mi.w_max, Mi.w_min, Mi.w_ix0, Mi.w_ix1, Mi.w_ix2, Mi.w_i0, Mi.w_i1, Mi.w_i2, Mi.pend, Mi.cont, Mi.take, Mi.frz, Mi.frzs, Mi.getP, Mi.setP, Mi.Res.of, Mi.boolOf, Mi.isPl, Mi.mutS, Mi.mutA, Mi.mutP, Mi.intOf, Mi.move, Mi.retOf, Mi.backs1, Mi.put1, Mi.fzT, Mi.ioOf, Mi.chk, Mi.early, Mi.shut, Mi.isTmp, Mi.flatB, Mi.scal, List.map_cons, List.map_nil, List.cons_append, List.nil_append, List.append_nil, List.replicate_succ, List.replicate_zero, List.replicate, List.length_cons, List.length_nil, List.getElem?_cons_zero, List.getElem?_cons_succ, List.set_cons_zero, List.set_cons_succ, List.all_cons, List.all_nil, List.contains_cons, List.contains_nil, List.elem_cons, List.elem_nil, List.isEmpty_nil, List.isEmpty_cons, Nat.reduceAdd, Nat.reduceSub, Nat.reduceBEq, Nat.reduceLT, Nat.reduceLeDiff, Nat.reduceEqDiff, decide_true, decide_false, Bool.and_true, Bool.true_and, Bool.or_true, Bool.true_or, Bool.or_false, Bool.false_or, Bool.and_false, Bool.false_and, Bool.not_true, Bool.not_false, Bool.false_eq_true, reduceIte, ite_true, ite_false, beq_self_eq_true, Nat.zero_add, reduceCtorEq, and_self, true_and, and_true, ge_iff_le, gt_iff_lt, Nat.succ_eq_add_one, Nat.add_one_sub_one, Nat.zero_lt_succ, Nat.lt_add_left_iff_pos, Mi.wipeE, Mi.restE, Mi.pick, List.filterMap_cons, List.filterMap_nil, oo, sp]
theorem en_3 {gs : List Int} {lo hi s : Int} (hn : gs.length ≤ 5) : ∃ o5', cFor (iSeq (cCallP true (F_law_orders 40) (cCons true (cRgTup (cCallB fLen (cCons true (cVar 0) cNil))) cNil))) (gSet 5) bodyE [some (.fz (.tup (gs.map D.int))), some (.fz (.int lo)), some (.fz (.int hi)), some (.fz (.int s)), some (.lst []), none, none] = .ok (.nx, [some (.fz (.tup (gs.map D.int))), some (.fz (.int lo)), some (.fz (.int hi)), some (.fz (.int s)), some (cw ((PP gs.length).map fun p => hl lo hi (pk gs p) s)), o5', none]) := by
  obtain ⟨o5', lp⟩ := ends_loop (gs := gs) (lo := lo) (hi := hi) (s := s) (PP gs.length) [] none (fun p hp => ⟨(pk_lt hp hn).1, by rw [(pk_lt hp hn).2]; omega⟩) (by have := pp_len gs.length; simp only [List.length_nil]; omega)
  rw [List.nil_append] at lp
  refine ⟨o5', ?_⟩
  rw [Mi.v_for, en_2 hn, Mi.v_ok, Mi.v_for1]; exact lp
theorem len0 : decide (([] : List W).length ≤ 16777216) = true := decide_eq_true (Nat.zero_le _)
theorem lst_nil {ρ : En} : cLst true cNil ρ = .ok (.tmp (.lst []), ρ) := by
  have s0 : chk (shut true []) = .ok () := rfl
  rw [Mi.v_lst, Mi.v_nil, Mi.v_ok, Mi.v_lst1, s0, Mi.v_ok, Mi.v_lst2, Mi.v_takes0, Mi.v_ok, Mi.v_lst3, len0, cT, Mi.v_ok, Mi.v_lst4]
theorem en_4 {gs : List Int} {lo hi s : Int} : cAsg (gSet 4) (cLst true cNil) [some (.fz (.tup (gs.map D.int))), some (.fz (.int lo)), some (.fz (.int hi)), some (.fz (.int s)), none, none, none] = .ok (.nx, [some (.fz (.tup (gs.map D.int))), some (.fz (.int lo)), some (.fz (.int hi)), some (.fz (.int s)), some (.lst []), none, none]) := by
  have s0 : chk (shut true []) = .ok () := rfl
  rw [Mi.v_asg, lst_nil, Mi.v_ok, Mi.v_asg1]
  simp only [Mi.v_bin6, Mi.v_bin5, Mi.v_bin4, Mi.v_bin3, Mi.v_bin2, Mi.v_bin1, Mi.v_bin, Mi.v_un3, Mi.v_un2, Mi.v_un1, Mi.v_un, Mi.v_test2, Mi.v_test1, Mi.v_test, Mi.v_cons3, Mi.v_cons2, Mi.v_cons1, Mi.v_cons, Mi.v_star4, Mi.v_star3, Mi.v_star2, Mi.v_star1, Mi.v_star, Mi.v_tup4, Mi.v_tup3, Mi.v_tup2, Mi.v_tup1, Mi.v_tup, Mi.v_lst4, Mi.v_lst3, Mi.v_lst2, Mi.v_lst1, Mi.v_lst, Mi.v_callB3, Mi.v_callB2, Mi.v_callB1, Mi.v_callB, Mi.v_andT1, Mi.v_andT, Mi.v_orT1, Mi.v_orT, Mi.v_notT1, Mi.v_notT, Mi.v_and2, Mi.v_and1, Mi.v_and, Mi.v_or2, Mi.v_or1, Mi.v_or, Mi.v_not2, Mi.v_not1, Mi.v_not, Mi.v_if1, Mi.v_if, Mi.v_orL1, Mi.v_orL, Mi.v_seq1, Mi.v_seq, Mi.v_ifS1, Mi.v_ifS, Mi.v_ret2, Mi.v_ret1, Mi.v_ret, Mi.v_drop1, Mi.v_drop, Mi.v_asg3, Mi.v_asg2, Mi.v_asg1, Mi.v_asg, Mi.v_gset1, Mi.v_gset, Mi.v_gsub5, Mi.v_gsub4, Mi.v_gsub3, Mi.v_gsub2, Mi.v_gsub1, Mi.v_gsub, Mi.v_gsc1, Mi.v_gsc, Mi.v_gsn1, Mi.v_gsn, Mi.v_for1, Mi.v_for, Mi.v_forc2, Mi.v_forc1, Mi.v_forc, Mi.v_lcc2, Mi.v_lcc1, Mi.v_lcc, Mi.v_lcT3, Mi.v_lcT2, Mi.v_lcT1, Mi.v_lcT, Mi.v_lc4, Mi.v_lc3, Mi.v_lc2, Mi.v_lc1, Mi.v_lc, Mi.v_def4, Mi.v_def3, Mi.v_def2, Mi.v_def1, Mi.v_def, Mi.v_callV4, Mi.v_callV3, Mi.v_callV2, Mi.v_callV1, Mi.v_callV, Mi.v_callP4, Mi.v_callP3, Mi.v_callP2, Mi.v_callP1, Mi.v_callP, Mi.v_callKV5, Mi.v_callKV4, Mi.v_callKV3, Mi.v_callKV2, Mi.v_callKV1, Mi.v_callKV, Mi.v_callKP5, Mi.v_callKP4, Mi.v_callKP3, Mi.v_callKP2, Mi.v_callKP1, Mi.v_callKP, Mi.v_callIO5, Mi.v_callIO4, Mi.v_callIO3, Mi.v_callIO2, Mi.v_callIO1, Mi.v_callIO, Mi.v_app7, Mi.v_app6, Mi.v_app5, Mi.v_app4, Mi.v_app3, Mi.v_app2, Mi.v_app1, Mi.v_app, Mi.v_sl6, Mi.v_sl5, Mi.v_sl4, Mi.v_sl3, Mi.v_sl2, Mi.v_sl1, Mi.v_sl, Mi.v_oS2, Mi.v_oS1, Mi.v_oS, Mi.v_iseq3, Mi.v_iseq2, Mi.v_iseq1, Mi.v_iseq, Mi.v_ienum3, Mi.v_ienum2, Mi.v_ienum1, Mi.v_ienum, Mi.v_irg3, Mi.v_irg2, Mi.v_irg1, Mi.v_irg, Mi.v_rgTup3, Mi.v_rgTup2, Mi.v_rgTup1, Mi.v_rgTup, Mi.v_argsc2, Mi.v_argsc1, Mi.v_argsc, Mi.v_putc1, Mi.v_putc, Mi.v_takesc2, Mi.v_takesc1, Mi.v_takesc, Mi.v_contsc2, Mi.v_contsc1, Mi.v_contsc, Mi.v_backsI2, Mi.v_backsI1, Mi.v_backsI, Mi.v_ok, Mi.v_c, Mi.v_nil, Mi.v_next, Mi.v_yes, Mi.v_oN, Mi.v_gtup, Mi.v_var, Mi.v_for0, Mi.v_lc0, Mi.v_args0, Mi.v_put0, Mi.v_takes0, Mi.v_conts0, Mi.v_backs0, Mi.w_add, Mi.w_sub, Mi.w_neg, Mi.w_lt, Mi.w_le, Mi.w_gt, Mi.w_ge, Mi.w_intI, Mi.w_intB, Mi.w_abs, Mi.w_max, Mi.w_min, Mi.w_ix0, Mi.w_ix1, Mi.w_ix2, Mi.w_i0, Mi.w_i1, Mi.w_i2, Mi.pend, Mi.cont, Mi.take, Mi.frz, Mi.frzs, Mi.getP, Mi.setP, Mi.Res.of, Mi.boolOf, Mi.isPl, Mi.mutS, Mi.mutA, Mi.mutP, Mi.intOf, Mi.move, Mi.retOf, Mi.backs1, Mi.put1, Mi.fzT, Mi.ioOf, Mi.chk, Mi.early, Mi.shut, Mi.isTmp, Mi.flatB, Mi.scal, List.map_cons, List.map_nil, List.cons_append, List.nil_append, List.append_nil, List.replicate_succ, List.replicate_zero, List.replicate, List.length_cons, List.length_nil, List.getElem?_cons_zero, List.getElem?_cons_succ, List.set_cons_zero, List.set_cons_succ, List.all_cons, List.all_nil, List.contains_cons, List.contains_nil, List.elem_cons, List.elem_nil, List.isEmpty_nil, List.isEmpty_cons, Nat.reduceAdd, Nat.reduceSub, Nat.reduceBEq, Nat.reduceLT, Nat.reduceLeDiff, Nat.reduceEqDiff, decide_true, decide_false, Bool.and_true, Bool.true_and, Bool.or_true, Bool.true_or, Bool.or_false, Bool.false_or, Bool.and_false, Bool.false_and, Bool.not_true, Bool.not_false, Bool.false_eq_true, reduceIte, ite_true, ite_false, beq_self_eq_true, Nat.zero_add, reduceCtorEq, and_self, true_and, and_true, ge_iff_le, gt_iff_lt, Nat.succ_eq_add_one, Nat.add_one_sub_one, Nat.zero_lt_succ, Nat.lt_add_left_iff_pos, Mi.wipeE, Mi.restE, Mi.pick, List.filterMap_cons, List.filterMap_nil]
theorem lstv {q : Bool} {bs : CBs} {ρ ρ1 ρ2 : En} {r : List B} {ws : List W} (h1 : bs ρ = .ok (r, ρ1)) (h2 : shut q r = true) (h3 : takes r ρ1 = .ok (ws, ρ2)) (h4 : ws.length < 16777216) : cLst q bs ρ = .ok (.tmp (.lst ws), ρ2) := by
  have h4' : decide (ws.length ≤ 16777216) = true := decide_eq_true (Nat.le_of_lt h4)
  rw [Mi.v_lst, h1, Mi.v_ok, Mi.v_lst1, h2, cT, Mi.v_ok, Mi.v_lst2, h3, Mi.v_ok, Mi.v_lst3, h4', cT, Mi.v_ok, Mi.v_lst4]
theorem tupv {q : Bool} {bs : CBs} {ρ ρ1 ρ2 : En} {r : List B} {ws : List W} (h1 : bs ρ = .ok (r, ρ1)) (h2 : shut q r = true) (h3 : takes r ρ1 = .ok (ws, ρ2)) (h4 : ws.length < 16777216) : cTup q bs ρ = .ok (.tmp (.fz (.tup (frzs ws))), ρ2) := by
  have h4' : decide (ws.length ≤ 16777216) = true := decide_eq_true (Nat.le_of_lt h4)
  rw [Mi.v_tup, h1, Mi.v_ok, Mi.v_tup1, h2, cT, Mi.v_ok, Mi.v_tup2, h3, Mi.v_ok, Mi.v_tup3, h4', cT, Mi.v_ok, Mi.v_tup4]
theorem two {a b : W} : [a, b].length < 16777216 := Nat.lt_of_lt_of_le (show 2 < 1000 by decide) (by omega)
theorem en_5 {gs : List Int} {lo hi s a b : Int} {found : List Int} {o5' : Option W} (mx : fMax1 [cw found] = .ok (.fz (.int a))) (mn : fMin1 [cw found] = .ok (.fz (.int b))) : cRet (cLst true (cCons true (cCallB fMax1 (cCons true (cVar 4) cNil)) (cCons true (cCallB fMin1 (cCons true (cVar 4) cNil)) cNil))) [some (.fz (.tup (gs.map D.int))), some (.fz (.int lo)), some (.fz (.int hi)), some (.fz (.int s)), some (cw found), o5', none] = .ok (.ret (.lst [.fz (.int a), .fz (.int b)]), [some (.fz (.tup (gs.map D.int))), some (.fz (.int lo)), some (.fz (.int hi)), some (.fz (.int s)), some (cw found), o5', none]) := by
  have h1 : (cCons true (cCallB fMax1 (cCons true (cVar 4) cNil)) (cCons true (cCallB fMin1 (cCons true (cVar 4) cNil)) cNil)) [some (.fz (.tup (gs.map D.int))), some (.fz (.int lo)), some (.fz (.int hi)), some (.fz (.int s)), some (cw found), o5', none] = .ok ([.tmp (.fz (.int a)), .tmp (.fz (.int b))], [some (.fz (.tup (gs.map D.int))), some (.fz (.int lo)), some (.fz (.int hi)), some (.fz (.int s)), some (cw found), o5', none]) := by
    simp only [Mi.v_bin6, Mi.v_bin5, Mi.v_bin4, Mi.v_bin3, Mi.v_bin2, Mi.v_bin1, Mi.v_bin, Mi.v_un3, Mi.v_un2, Mi.v_un1, Mi.v_un, Mi.v_test2, Mi.v_test1, Mi.v_test, Mi.v_cons3, Mi.v_cons2, Mi.v_cons1, Mi.v_cons, Mi.v_star4, Mi.v_star3, Mi.v_star2, Mi.v_star1, Mi.v_star, Mi.v_tup4, Mi.v_tup3, Mi.v_tup2, Mi.v_tup1, Mi.v_lst4, Mi.v_lst3, Mi.v_lst2, Mi.v_lst1, Mi.v_callB3, Mi.v_callB2, Mi.v_callB1, Mi.v_callB, Mi.v_andT1, Mi.v_andT, Mi.v_orT1, Mi.v_orT, Mi.v_notT1, Mi.v_notT, Mi.v_and2, Mi.v_and1, Mi.v_and, Mi.v_or2, Mi.v_or1, Mi.v_or, Mi.v_not2, Mi.v_not1, Mi.v_not, Mi.v_if1, Mi.v_if, Mi.v_orL1, Mi.v_orL, Mi.v_seq1, Mi.v_seq, Mi.v_ifS1, Mi.v_ifS, Mi.v_ret2, Mi.v_ret1, Mi.v_ret, Mi.v_drop1, Mi.v_drop, Mi.v_asg3, Mi.v_asg2, Mi.v_asg1, Mi.v_asg, Mi.v_gset1, Mi.v_gset, Mi.v_gsub5, Mi.v_gsub4, Mi.v_gsub3, Mi.v_gsub2, Mi.v_gsub1, Mi.v_gsub, Mi.v_gsc1, Mi.v_gsc, Mi.v_gsn1, Mi.v_gsn, Mi.v_for1, Mi.v_for, Mi.v_forc2, Mi.v_forc1, Mi.v_forc, Mi.v_lcc2, Mi.v_lcc1, Mi.v_lcc, Mi.v_lcT3, Mi.v_lcT2, Mi.v_lcT1, Mi.v_lcT, Mi.v_lc4, Mi.v_lc3, Mi.v_lc2, Mi.v_lc1, Mi.v_def4, Mi.v_def3, Mi.v_def2, Mi.v_def1, Mi.v_def, Mi.v_callV4, Mi.v_callV3, Mi.v_callV2, Mi.v_callV1, Mi.v_callV, Mi.v_callP4, Mi.v_callP3, Mi.v_callP2, Mi.v_callP1, Mi.v_callP, Mi.v_callKV5, Mi.v_callKV4, Mi.v_callKV3, Mi.v_callKV2, Mi.v_callKV1, Mi.v_callKV, Mi.v_callKP5, Mi.v_callKP4, Mi.v_callKP3, Mi.v_callKP2, Mi.v_callKP1, Mi.v_callKP, Mi.v_callIO5, Mi.v_callIO4, Mi.v_callIO3, Mi.v_callIO2, Mi.v_callIO1, Mi.v_callIO, Mi.v_app7, Mi.v_app6, Mi.v_app5, Mi.v_app4, Mi.v_app3, Mi.v_app2, Mi.v_app1, Mi.v_app, Mi.v_sl6, Mi.v_sl5, Mi.v_sl4, Mi.v_sl3, Mi.v_sl2, Mi.v_sl1, Mi.v_sl, Mi.v_oS2, Mi.v_oS1, Mi.v_oS, Mi.v_iseq3, Mi.v_iseq2, Mi.v_iseq1, Mi.v_iseq, Mi.v_ienum3, Mi.v_ienum2, Mi.v_ienum1, Mi.v_ienum, Mi.v_irg3, Mi.v_irg2, Mi.v_irg1, Mi.v_irg, Mi.v_rgTup3, Mi.v_rgTup2, Mi.v_rgTup1, Mi.v_rgTup, Mi.v_argsc2, Mi.v_argsc1, Mi.v_argsc, Mi.v_putc1, Mi.v_putc, Mi.v_takesc2, Mi.v_takesc1, Mi.v_takesc, Mi.v_contsc2, Mi.v_contsc1, Mi.v_contsc, Mi.v_backsI2, Mi.v_backsI1, Mi.v_backsI, Mi.v_ok, Mi.v_c, Mi.v_nil, Mi.v_next, Mi.v_yes, Mi.v_oN, Mi.v_gtup, Mi.v_var, Mi.v_for0, Mi.v_lc0, Mi.v_args0, Mi.v_put0, Mi.v_takes0, Mi.v_conts0, Mi.v_backs0, Mi.w_add, Mi.w_sub, Mi.w_neg, Mi.w_lt, Mi.w_le, Mi.w_gt, Mi.w_ge, Mi.w_intI, Mi.w_intB, Mi.w_abs, Mi.w_max, Mi.w_min, Mi.w_ix0, Mi.w_ix1, Mi.w_ix2, Mi.w_i0, Mi.w_i1, Mi.w_i2, Mi.pend, Mi.cont, Mi.take, Mi.frz, Mi.frzs, Mi.getP, Mi.setP, Mi.Res.of, Mi.boolOf, Mi.isPl, Mi.mutS, Mi.mutA, Mi.mutP, Mi.intOf, Mi.move, Mi.retOf, Mi.backs1, Mi.put1, Mi.fzT, Mi.ioOf, Mi.chk, Mi.early, Mi.shut, Mi.isTmp, Mi.flatB, Mi.scal, List.map_cons, List.map_nil, List.cons_append, List.nil_append, List.append_nil, List.replicate_succ, List.replicate_zero, List.replicate, List.length_cons, List.length_nil, List.getElem?_cons_zero, List.getElem?_cons_succ, List.set_cons_zero, List.set_cons_succ, List.all_cons, List.all_nil, List.contains_cons, List.contains_nil, List.elem_cons, List.elem_nil, List.isEmpty_nil, List.isEmpty_cons, Nat.reduceAdd, Nat.reduceSub, Nat.reduceBEq, Nat.reduceLT, Nat.reduceLeDiff, Nat.reduceEqDiff, decide_true, decide_false, Bool.and_true, Bool.true_and, Bool.or_true, Bool.true_or, Bool.or_false, Bool.false_or, Bool.and_false, Bool.false_and, Bool.not_true, Bool.not_false, Bool.false_eq_true, reduceIte, ite_true, ite_false, beq_self_eq_true, Nat.zero_add, reduceCtorEq, and_self, true_and, and_true, ge_iff_le, gt_iff_lt, Nat.succ_eq_add_one, Nat.add_one_sub_one, Nat.zero_lt_succ, Nat.lt_add_left_iff_pos, Mi.wipeE, Mi.restE, Mi.pick, List.filterMap_cons, List.filterMap_nil, mx, mn]
  rw [Mi.v_ret, lstv (q := true) h1 rfl rfl two]
  simp only [Mi.v_bin6, Mi.v_bin5, Mi.v_bin4, Mi.v_bin3, Mi.v_bin2, Mi.v_bin1, Mi.v_bin, Mi.v_un3, Mi.v_un2, Mi.v_un1, Mi.v_un, Mi.v_test2, Mi.v_test1, Mi.v_test, Mi.v_cons3, Mi.v_cons2, Mi.v_cons1, Mi.v_cons, Mi.v_star4, Mi.v_star3, Mi.v_star2, Mi.v_star1, Mi.v_star, Mi.v_tup4, Mi.v_tup3, Mi.v_tup2, Mi.v_tup1, Mi.v_lst4, Mi.v_lst3, Mi.v_lst2, Mi.v_lst1, Mi.v_callB3, Mi.v_callB2, Mi.v_callB1, Mi.v_callB, Mi.v_andT1, Mi.v_andT, Mi.v_orT1, Mi.v_orT, Mi.v_notT1, Mi.v_notT, Mi.v_and2, Mi.v_and1, Mi.v_and, Mi.v_or2, Mi.v_or1, Mi.v_or, Mi.v_not2, Mi.v_not1, Mi.v_not, Mi.v_if1, Mi.v_if, Mi.v_orL1, Mi.v_orL, Mi.v_seq1, Mi.v_seq, Mi.v_ifS1, Mi.v_ifS, Mi.v_ret2, Mi.v_ret1, Mi.v_ret, Mi.v_drop1, Mi.v_drop, Mi.v_asg3, Mi.v_asg2, Mi.v_asg1, Mi.v_asg, Mi.v_gset1, Mi.v_gset, Mi.v_gsub5, Mi.v_gsub4, Mi.v_gsub3, Mi.v_gsub2, Mi.v_gsub1, Mi.v_gsub, Mi.v_gsc1, Mi.v_gsc, Mi.v_gsn1, Mi.v_gsn, Mi.v_for1, Mi.v_for, Mi.v_forc2, Mi.v_forc1, Mi.v_forc, Mi.v_lcc2, Mi.v_lcc1, Mi.v_lcc, Mi.v_lcT3, Mi.v_lcT2, Mi.v_lcT1, Mi.v_lcT, Mi.v_lc4, Mi.v_lc3, Mi.v_lc2, Mi.v_lc1, Mi.v_def4, Mi.v_def3, Mi.v_def2, Mi.v_def1, Mi.v_def, Mi.v_callV4, Mi.v_callV3, Mi.v_callV2, Mi.v_callV1, Mi.v_callV, Mi.v_callP4, Mi.v_callP3, Mi.v_callP2, Mi.v_callP1, Mi.v_callP, Mi.v_callKV5, Mi.v_callKV4, Mi.v_callKV3, Mi.v_callKV2, Mi.v_callKV1, Mi.v_callKV, Mi.v_callKP5, Mi.v_callKP4, Mi.v_callKP3, Mi.v_callKP2, Mi.v_callKP1, Mi.v_callKP, Mi.v_callIO5, Mi.v_callIO4, Mi.v_callIO3, Mi.v_callIO2, Mi.v_callIO1, Mi.v_callIO, Mi.v_app7, Mi.v_app6, Mi.v_app5, Mi.v_app4, Mi.v_app3, Mi.v_app2, Mi.v_app1, Mi.v_app, Mi.v_sl6, Mi.v_sl5, Mi.v_sl4, Mi.v_sl3, Mi.v_sl2, Mi.v_sl1, Mi.v_sl, Mi.v_oS2, Mi.v_oS1, Mi.v_oS, Mi.v_iseq3, Mi.v_iseq2, Mi.v_iseq1, Mi.v_iseq, Mi.v_ienum3, Mi.v_ienum2, Mi.v_ienum1, Mi.v_ienum, Mi.v_irg3, Mi.v_irg2, Mi.v_irg1, Mi.v_irg, Mi.v_rgTup3, Mi.v_rgTup2, Mi.v_rgTup1, Mi.v_rgTup, Mi.v_argsc2, Mi.v_argsc1, Mi.v_argsc, Mi.v_putc1, Mi.v_putc, Mi.v_takesc2, Mi.v_takesc1, Mi.v_takesc, Mi.v_contsc2, Mi.v_contsc1, Mi.v_contsc, Mi.v_backsI2, Mi.v_backsI1, Mi.v_backsI, Mi.v_ok, Mi.v_c, Mi.v_nil, Mi.v_next, Mi.v_yes, Mi.v_oN, Mi.v_gtup, Mi.v_var, Mi.v_for0, Mi.v_lc0, Mi.v_args0, Mi.v_put0, Mi.v_takes0, Mi.v_conts0, Mi.v_backs0, Mi.w_add, Mi.w_sub, Mi.w_neg, Mi.w_lt, Mi.w_le, Mi.w_gt, Mi.w_ge, Mi.w_intI, Mi.w_intB, Mi.w_abs, Mi.w_max, Mi.w_min, Mi.w_ix0, Mi.w_ix1, Mi.w_ix2, Mi.w_i0, Mi.w_i1, Mi.w_i2, Mi.pend, Mi.cont, Mi.take, Mi.frz, Mi.frzs, Mi.getP, Mi.setP, Mi.Res.of, Mi.boolOf, Mi.isPl, Mi.mutS, Mi.mutA, Mi.mutP, Mi.intOf, Mi.move, Mi.retOf, Mi.backs1, Mi.put1, Mi.fzT, Mi.ioOf, Mi.chk, Mi.early, Mi.shut, Mi.isTmp, Mi.flatB, Mi.scal, List.map_cons, List.map_nil, List.cons_append, List.nil_append, List.append_nil, List.replicate_succ, List.replicate_zero, List.replicate, List.length_cons, List.length_nil, List.getElem?_cons_zero, List.getElem?_cons_succ, List.set_cons_zero, List.set_cons_succ, List.all_cons, List.all_nil, List.contains_cons, List.contains_nil, List.elem_cons, List.elem_nil, List.isEmpty_nil, List.isEmpty_cons, Nat.reduceAdd, Nat.reduceSub, Nat.reduceBEq, Nat.reduceLT, Nat.reduceLeDiff, Nat.reduceEqDiff, decide_true, decide_false, Bool.and_true, Bool.true_and, Bool.or_true, Bool.true_or, Bool.or_false, Bool.false_or, Bool.and_false, Bool.false_and, Bool.not_true, Bool.not_false, Bool.false_eq_true, reduceIte, ite_true, ite_false, beq_self_eq_true, Nat.zero_add, reduceCtorEq, and_self, true_and, and_true, ge_iff_le, gt_iff_lt, Nat.succ_eq_add_one, Nat.add_one_sub_one, Nat.zero_lt_succ, Nat.lt_add_left_iff_pos, Mi.wipeE, Mi.restE, Mi.pick, List.filterMap_cons, List.filterMap_nil]
theorem seqN {c1 c2 : CS} {ρ ρ1 : En} (h : c1 ρ = .ok (.nx, ρ1)) : cSeq c1 c2 ρ = c2 ρ1 := by unfold cSeq; rw [h]; rfl
theorem seqR {c1 c2 : CS} {ρ ρ1 : En} {w : W} (h : c1 ρ = .ok (.ret w, ρ1)) : cSeq c1 c2 ρ = .ok (.ret w, ρ1) := by unfold cSeq; rw [h]; rfl
theorem defv {np ns : Nat} {io : KP} {body : CS} {ws bk : List W} {ρ0 ρ' : En} {w : W} (h0 : (ws.length == np) = true) (h1 : ws.map some ++ List.replicate (ns - np) none = ρ0) (h2 : body ρ0 = .ok (.ret w, ρ')) (h3 : backs io 0 ws ρ' = .ok bk) : runDef np ns io body ws = .ok (w, bk) := by
  have r : retOf (.ret w) = .ok w := rfl
  rw [Mi.v_def, h0, cT, Mi.v_ok, Mi.v_def1, h1, h2, Mi.v_ok, Mi.v_def2, r, Mi.v_ok, Mi.v_def3, h3, Mi.v_ok, Mi.v_def4]
theorem en_7 {gs : List Int} {lo hi s a b : Int} {x : Option W} {y z : Option W} (c6 : m_law_ends [some (.fz (.tup (gs.map D.int))), some (.fz (.int lo)), some (.fz (.int hi)), some (.fz (.int s)), none, none, none] = .ok (.ret (.lst [.fz (.int a), .fz (.int b)]), [some (.fz (.tup (gs.map D.int))), some (.fz (.int lo)), some (.fz (.int hi)), some (.fz (.int s)), x, y, z])) : F_law_ends [.fz (.tup (gs.map D.int)), .fz (.int lo), .fz (.int hi), .fz (.int s)] = .ok (.lst [.fz (.int a), .fz (.int b)], [.fz (.tup (gs.map D.int)), .fz (.int lo), .fz (.int hi), .fz (.int s)]) := by
  exact defv rfl rfl c6 rfl
theorem en_6 {gs : List Int} {lo hi s a b : Int} (hn : gs.length ≤ 5) (mx : fMax1 [cw ((PP gs.length).map fun p => hl lo hi (pk gs p) s)] = .ok (.fz (.int a))) (mn : fMin1 [cw ((PP gs.length).map fun p => hl lo hi (pk gs p) s)] = .ok (.fz (.int b))) : ∃ x y z : Option W, m_law_ends [some (.fz (.tup (gs.map D.int))), some (.fz (.int lo)), some (.fz (.int hi)), some (.fz (.int s)), none, none, none] = .ok (.ret (.lst [.fz (.int a), .fz (.int b)]), [some (.fz (.tup (gs.map D.int))), some (.fz (.int lo)), some (.fz (.int hi)), some (.fz (.int s)), x, y, z]) := by
  obtain ⟨o5', c3⟩ := en_3 (gs := gs) (lo := lo) (hi := hi) (s := s) hn
  generalize (PP gs.length).map (fun p => hl lo hi (pk gs p) s) = found at *
  have c5 := en_5 (gs := gs) (lo := lo) (hi := hi) (s := s) (o5' := o5') mx mn
  refine ⟨some (cw found), o5', none, ?_⟩
  have h2 := seqN (c2 := cRet (cLst true (cCons true (cCallB fMax1 (cCons true (cVar 4) cNil)) (cCons true (cCallB fMin1 (cCons true (cVar 4) cNil)) cNil)))) c3
  exact (seqN en_4).trans (h2.trans c5)
theorem ends_ok {gs : List Int} {lo hi s : Int} (hn : gs.length ≤ 5) (h1 : lo ≤ s) (h2 : s ≤ hi) : F_law_ends [.fz (.tup (gs.map D.int)), .fz (.int lo), .fz (.int hi), .fz (.int s)] = .ok (.lst [.fz (.int (topH lo hi gs s)), .fz (.int (botH lo hi gs s))], [.fz (.tup (gs.map D.int)), .fz (.int lo), .fz (.int hi), .fz (.int s)]) := by
  obtain ⟨b1, b2⟩ := best hn h1 h2
  have le : ∀ x ∈ (PP gs.length).map (fun p => hl lo hi (pk gs p) s), x ≤ topH lo hi gs s := fun x hx => by
    obtain ⟨p, hp, e⟩ := List.mem_map.mp hx
    rw [← e, ← topH_perm (pk_perm hp hn)]; exact hl_le _ _ h1 h2
  have ge : ∀ x ∈ (PP gs.length).map (fun p => hl lo hi (pk gs p) s), botH lo hi gs s ≤ x := fun x hx => by
    obtain ⟨p, hp, e⟩ := List.mem_map.mp hx
    rw [← e, ← botH_perm (pk_perm hp hn)]; exact hl_ge _ _ h1 h2
  obtain ⟨x, y, z, c6⟩ := en_6 hn (max_cw (maxOf_eq b1 le)) (min_cw (minOf_eq b2 ge))
  exact en_7 c6
end Gn
namespace Gn
open Mi PySem PySem.Spec PyProof.Rows L2
/-! ### the same -/
theorem eq_int (a : Int) : fEq (.fz (.int a)) (.fz (.int a)) = .ok (.fz (.bl true)) := by
  have e : PyData.eqv (.int a) (.int a) = true := by simp [PyData.eqv]
  show Res.bind (Res.ok (PyData.eqv (.int a) (.int a))) _ = _
  rw [e]; rfl
theorem same_int (n : Nat) (a : Int) : F_law_same (n + 1) [.fz (.int a), .fz (.int a)] = .ok (.fz (.bl true), [.fz (.int a), .fz (.int a)]) := by
  have i1 : fIsi ["list", "tuple"] (.fz (.int a)) = .ok (.fz (.bl false)) := by kernel_rfl
  have i2 : fIsi ["bool", "str"] (.fz (.int a)) = .ok (.fz (.bl false)) := by kernel_rfl
  have i3 : fIsi ["int"] (.fz (.int a)) = .ok (.fz (.bl true)) := by kernel_rfl
  have i4 : fIsi ["bool"] (.fz (.int a)) = .ok (.fz (.bl false)) := by kernel_rfl
  have i5 : fIsN (.fz (.int a)) (.fz .non) = .ok (.fz (.bl false)) := rfl
  have c : m_law_same (F_law_same n) [some (.fz (.int a)), some (.fz (.int a)), none, none] = .ok (.ret (.fz (.bl true)), [some (.fz (.int a)), some (.fz (.int a)), none, none]) := by
    simp only [m_law_same, Mi.v_bin6, Mi.v_bin5, Mi.v_bin4, Mi.v_bin3, Mi.v_bin2, Mi.v_bin1, Mi.v_bin, Mi.v_un3, Mi.v_un2, Mi.v_un1, Mi.v_un, Mi.v_test2, Mi.v_test1, Mi.v_test, Mi.v_cons3, Mi.v_cons2, Mi.v_cons1, Mi.v_cons, Mi.v_star4, Mi.v_star3, Mi.v_star2, Mi.v_star1, Mi.v_star, Mi.v_tup4, Mi.v_tup3, Mi.v_tup2, Mi.v_tup1, Mi.v_lst4, Mi.v_lst3, Mi.v_lst2, Mi.v_lst1, Mi.v_callB3, Mi.v_callB2, Mi.v_callB1, Mi.v_callB, Mi.v_andT1, Mi.v_andT, Mi.v_orT1, Mi.v_orT, Mi.v_notT1, Mi.v_notT, Mi.v_and2, Mi.v_and1, Mi.v_and, Mi.v_or2, Mi.v_or1, Mi.v_or, Mi.v_not2, Mi.v_not1, Mi.v_not, Mi.v_if1, Mi.v_if, Mi.v_orL1, Mi.v_orL, Mi.v_seq1, Mi.v_seq, Mi.v_ifS1, Mi.v_ifS, Mi.v_ret2, Mi.v_ret1, Mi.v_ret, Mi.v_drop1, Mi.v_drop, Mi.v_asg3, Mi.v_asg2, Mi.v_asg1, Mi.v_asg, Mi.v_gset1, Mi.v_gset, Mi.v_gsub5, Mi.v_gsub4, Mi.v_gsub3, Mi.v_gsub2, Mi.v_gsub1, Mi.v_gsub, Mi.v_gsc1, Mi.v_gsc, Mi.v_gsn1, Mi.v_gsn, Mi.v_for1, Mi.v_for, Mi.v_forc2, Mi.v_forc1, Mi.v_forc, Mi.v_lcc2, Mi.v_lcc1, Mi.v_lcc, Mi.v_lcT3, Mi.v_lcT2, Mi.v_lcT1, Mi.v_lcT, Mi.v_lc4, Mi.v_lc3, Mi.v_lc2, Mi.v_lc1, Mi.v_def4, Mi.v_def3, Mi.v_def2, Mi.v_def1, Mi.v_def, Mi.v_callV4, Mi.v_callV3, Mi.v_callV2, Mi.v_callV1, Mi.v_callV, Mi.v_callP4, Mi.v_callP3, Mi.v_callP2, Mi.v_callP1, Mi.v_callP, Mi.v_callKV5, Mi.v_callKV4, Mi.v_callKV3, Mi.v_callKV2, Mi.v_callKV1, Mi.v_callKV, Mi.v_callKP5, Mi.v_callKP4, Mi.v_callKP3, Mi.v_callKP2, Mi.v_callKP1, Mi.v_callKP, Mi.v_callIO5, Mi.v_callIO4, Mi.v_callIO3, Mi.v_callIO2, Mi.v_callIO1, Mi.v_callIO, Mi.v_app7, Mi.v_app6, Mi.v_app5, Mi.v_app4, Mi.v_app3, Mi.v_app2, Mi.v_app1, Mi.v_app, Mi.v_sl6, Mi.v_sl5, Mi.v_sl4, Mi.v_sl3, Mi.v_sl2, Mi.v_sl1, Mi.v_sl, Mi.v_oS2, Mi.v_oS1, Mi.v_oS, Mi.v_iseq3, Mi.v_iseq2, Mi.v_iseq1, Mi.v_iseq, Mi.v_ienum3, Mi.v_ienum2, Mi.v_ienum1, Mi.v_ienum, Mi.v_irg3, Mi.v_irg2, Mi.v_irg1, Mi.v_irg, Mi.v_rgTup3, Mi.v_rgTup2, Mi.v_rgTup1, Mi.v_rgTup, Mi.v_argsc2, Mi.v_argsc1, Mi.v_argsc, Mi.v_putc1, Mi.v_putc, Mi.v_takesc2, Mi.v_takesc1, Mi.v_takesc, Mi.v_contsc2, Mi.v_contsc1, Mi.v_contsc, Mi.v_backsI2, Mi.v_backsI1, Mi.v_backsI, Mi.v_ok, Mi.v_c, Mi.v_nil, Mi.v_next, Mi.v_yes, Mi.v_oN, Mi.v_gtup, Mi.v_var, Mi.v_for0, Mi.v_lc0, Mi.v_args0, Mi.v_put0, Mi.v_takes0, Mi.v_conts0, Mi.v_backs0, Mi.w_add, Mi.w_sub, Mi.w_neg, Mi.w_lt, Mi.w_le, Mi.w_gt, Mi.w_ge, Mi.w_intI, Mi.w_intB, Mi.w_abs, Mi.w_max, Mi.w_min, Mi.w_ix0, Mi.w_ix1, Mi.w_ix2, Mi.w_i0, Mi.w_i1, Mi.w_i2, Mi.pend, Mi.cont, Mi.take, Mi.frz, Mi.frzs, Mi.getP, Mi.setP, Mi.Res.of, Mi.boolOf, Mi.isPl, Mi.mutS, Mi.mutA, Mi.mutP, Mi.intOf, Mi.move, Mi.retOf, Mi.backs1, Mi.put1, Mi.fzT, Mi.ioOf, Mi.chk, Mi.early, Mi.shut, Mi.isTmp, Mi.flatB, Mi.scal, List.map_cons, List.map_nil, List.cons_append, List.nil_append, List.append_nil, List.replicate_succ, List.replicate_zero, List.replicate, List.length_cons, List.length_nil, List.getElem?_cons_zero, List.getElem?_cons_succ, List.set_cons_zero, List.set_cons_succ, List.all_cons, List.all_nil, List.contains_cons, List.contains_nil, List.elem_cons, List.elem_nil, List.isEmpty_nil, List.isEmpty_cons, Nat.reduceAdd, Nat.reduceSub, Nat.reduceBEq, Nat.reduceLT, Nat.reduceLeDiff, Nat.reduceEqDiff, decide_true, decide_false, Bool.and_true, Bool.true_and, Bool.or_true, Bool.true_or, Bool.or_false, Bool.false_or, Bool.and_false, Bool.false_and, Bool.not_true, Bool.not_false, Bool.false_eq_true, reduceIte, ite_true, ite_false, beq_self_eq_true, Nat.zero_add, reduceCtorEq, and_self, true_and, and_true, ge_iff_le, gt_iff_lt, Nat.succ_eq_add_one, Nat.add_one_sub_one, Nat.zero_lt_succ, Nat.lt_add_left_iff_pos, Mi.wipeE, Mi.restE, Mi.pick, List.filterMap_cons, List.filterMap_nil, i1, i2, i3, i4, i5, eq_int]
  exact defv rfl rfl c rfl
theorem same_body {F : Fn} {x y : D} {b1 b2 : List W} (h1 : F [.fz x, .fz x] = .ok (.fz (.bl true), b1)) (h2 : F [.fz y, .fz y] = .ok (.fz (.bl true), b2)) : m_law_same F [some (.fz (.lst [x, y])), some (.fz (.lst [x, y])), none, none] = .ok (.ret (.fz (.bl true)), [some (.fz (.lst [x, y])), some (.fz (.lst [x, y])), none, none]) := by
  have i1 : fIsi ["list", "tuple"] (.fz (.lst [x, y])) = .ok (.fz (.bl true)) := by kernel_rfl
  have i2 : fIsi ["list"] (.fz (.lst [x, y])) = .ok (.fz (.bl true)) := by kernel_rfl
  have i3 : fIsi ["tuple"] (.fz (.lst [x, y])) = .ok (.fz (.bl false)) := by kernel_rfl
  have n1 : fNe (.fz (.bl true)) (.fz (.bl true)) = .ok (.fz (.bl false)) := by kernel_rfl
  have n2 : fNe (.fz (.bl false)) (.fz (.bl false)) = .ok (.fz (.bl false)) := by kernel_rfl
  have l1 : fLen [.fz (.lst [x, y])] = .ok (.fz (.int 2)) := rfl
  have a1 : fAll [.fz (.lst [.bl true, .bl true])] = .ok (.fz (.bl true)) := rfl
  have z : iZipM (cCons true (cVar 0) (cCons true (cVar 1) cNil)) [some (.fz (.lst [x, y])), some (.fz (.lst [x, y])), none, none] = .ok ([.tup [x, x], .tup [y, y]], [some (.fz (.lst [x, y])), some (.fz (.lst [x, y])), none, none]) := rfl
  have lc : lcL [2, 3] (gTupG (gsCons (gSet 2) (gsCons (gSet 3) gsNil))) cYes (cCallV F (cCons true (cVar 2) (cCons true (cVar 3) cNil))) [.tup [x, x], .tup [y, y]] [some (.fz (.lst [x, y])), some (.fz (.lst [x, y])), none, none] = .ok ([.fz (.bl true), .fz (.bl true)], [some (.fz (.lst [x, y])), some (.fz (.lst [x, y])), none, none]) := by
    simp only [Mi.v_bin6, Mi.v_bin5, Mi.v_bin4, Mi.v_bin3, Mi.v_bin2, Mi.v_bin1, Mi.v_bin, Mi.v_un3, Mi.v_un2, Mi.v_un1, Mi.v_un, Mi.v_test2, Mi.v_test1, Mi.v_test, Mi.v_cons3, Mi.v_cons2, Mi.v_cons1, Mi.v_cons, Mi.v_star4, Mi.v_star3, Mi.v_star2, Mi.v_star1, Mi.v_star, Mi.v_tup4, Mi.v_tup3, Mi.v_tup2, Mi.v_tup1, Mi.v_lst4, Mi.v_lst3, Mi.v_lst2, Mi.v_lst1, Mi.v_callB3, Mi.v_callB2, Mi.v_callB1, Mi.v_callB, Mi.v_andT1, Mi.v_andT, Mi.v_orT1, Mi.v_orT, Mi.v_notT1, Mi.v_notT, Mi.v_and2, Mi.v_and1, Mi.v_and, Mi.v_or2, Mi.v_or1, Mi.v_or, Mi.v_not2, Mi.v_not1, Mi.v_not, Mi.v_if1, Mi.v_if, Mi.v_orL1, Mi.v_orL, Mi.v_seq1, Mi.v_seq, Mi.v_ifS1, Mi.v_ifS, Mi.v_ret2, Mi.v_ret1, Mi.v_ret, Mi.v_drop1, Mi.v_drop, Mi.v_asg3, Mi.v_asg2, Mi.v_asg1, Mi.v_asg, Mi.v_gset1, Mi.v_gset, Mi.v_gsub5, Mi.v_gsub4, Mi.v_gsub3, Mi.v_gsub2, Mi.v_gsub1, Mi.v_gsub, Mi.v_gsc1, Mi.v_gsc, Mi.v_gsn1, Mi.v_gsn, Mi.v_for1, Mi.v_for, Mi.v_forc2, Mi.v_forc1, Mi.v_forc, Mi.v_lcc2, Mi.v_lcc1, Mi.v_lcc, Mi.v_lcT3, Mi.v_lcT2, Mi.v_lcT1, Mi.v_lcT, Mi.v_lc4, Mi.v_lc3, Mi.v_lc2, Mi.v_lc1, Mi.v_def4, Mi.v_def3, Mi.v_def2, Mi.v_def1, Mi.v_def, Mi.v_callV4, Mi.v_callV3, Mi.v_callV2, Mi.v_callV1, Mi.v_callV, Mi.v_callP4, Mi.v_callP3, Mi.v_callP2, Mi.v_callP1, Mi.v_callP, Mi.v_callKV5, Mi.v_callKV4, Mi.v_callKV3, Mi.v_callKV2, Mi.v_callKV1, Mi.v_callKV, Mi.v_callKP5, Mi.v_callKP4, Mi.v_callKP3, Mi.v_callKP2, Mi.v_callKP1, Mi.v_callKP, Mi.v_callIO5, Mi.v_callIO4, Mi.v_callIO3, Mi.v_callIO2, Mi.v_callIO1, Mi.v_callIO, Mi.v_app7, Mi.v_app6, Mi.v_app5, Mi.v_app4, Mi.v_app3, Mi.v_app2, Mi.v_app1, Mi.v_app, Mi.v_sl6, Mi.v_sl5, Mi.v_sl4, Mi.v_sl3, Mi.v_sl2, Mi.v_sl1, Mi.v_sl, Mi.v_oS2, Mi.v_oS1, Mi.v_oS, Mi.v_iseq3, Mi.v_iseq2, Mi.v_iseq1, Mi.v_iseq, Mi.v_ienum3, Mi.v_ienum2, Mi.v_ienum1, Mi.v_ienum, Mi.v_irg3, Mi.v_irg2, Mi.v_irg1, Mi.v_irg, Mi.v_rgTup3, Mi.v_rgTup2, Mi.v_rgTup1, Mi.v_rgTup, Mi.v_argsc2, Mi.v_argsc1, Mi.v_argsc, Mi.v_putc1, Mi.v_putc, Mi.v_takesc2, Mi.v_takesc1, Mi.v_takesc, Mi.v_contsc2, Mi.v_contsc1, Mi.v_contsc, Mi.v_backsI2, Mi.v_backsI1, Mi.v_backsI, Mi.v_ok, Mi.v_c, Mi.v_nil, Mi.v_next, Mi.v_yes, Mi.v_oN, Mi.v_gtup, Mi.v_var, Mi.v_for0, Mi.v_lc0, Mi.v_args0, Mi.v_put0, Mi.v_takes0, Mi.v_conts0, Mi.v_backs0, Mi.w_add, Mi.w_sub, Mi.w_neg, Mi.w_lt, Mi.w_le, Mi.w_gt, Mi.w_ge, Mi.w_intI, Mi.w_intB, Mi.w_abs, Mi.w_max, Mi.w_min, Mi.w_ix0, Mi.w_ix1, Mi.w_ix2, Mi.w_i0, Mi.w_i1, Mi.w_i2, Mi.pend, Mi.cont, Mi.take, Mi.frz, Mi.frzs, Mi.getP, Mi.setP, Mi.Res.of, Mi.boolOf, Mi.isPl, Mi.mutS, Mi.mutA, Mi.mutP, Mi.intOf, Mi.move, Mi.retOf, Mi.backs1, Mi.put1, Mi.fzT, Mi.ioOf, Mi.chk, Mi.early, Mi.shut, Mi.isTmp, Mi.flatB, Mi.scal, List.map_cons, List.map_nil, List.cons_append, List.nil_append, List.append_nil, List.replicate_succ, List.replicate_zero, List.replicate, List.length_cons, List.length_nil, List.getElem?_cons_zero, List.getElem?_cons_succ, List.set_cons_zero, List.set_cons_succ, List.all_cons, List.all_nil, List.contains_cons, List.contains_nil, List.elem_cons, List.elem_nil, List.isEmpty_nil, List.isEmpty_cons, Nat.reduceAdd, Nat.reduceSub, Nat.reduceBEq, Nat.reduceLT, Nat.reduceLeDiff, Nat.reduceEqDiff, decide_true, decide_false, Bool.and_true, Bool.true_and, Bool.or_true, Bool.true_or, Bool.or_false, Bool.false_or, Bool.and_false, Bool.false_and, Bool.not_true, Bool.not_false, Bool.false_eq_true, reduceIte, ite_true, ite_false, beq_self_eq_true, Nat.zero_add, reduceCtorEq, and_self, true_and, and_true, ge_iff_le, gt_iff_lt, Nat.succ_eq_add_one, Nat.add_one_sub_one, Nat.zero_lt_succ, Nat.lt_add_left_iff_pos, Mi.wipeE, Mi.restE, Mi.pick, List.filterMap_cons, List.filterMap_nil, h1, h2]
  have c2 := lcv true [2, 3] (iZipM (cCons true (cVar 0) (cCons true (cVar 1) cNil))) (gTupG (gsCons (gSet 2) (gsCons (gSet 3) gsNil))) cYes (cCallV F (cCons true (cVar 2) (cCons true (cVar 3) cNil))) z rfl (Nat.lt_of_lt_of_le (show 2 < 1000 by decide) (by omega)) lc
  have c3 : ∀ a b : Option W, restE [a, b, none, none] [2, 3] [a, b, none, none] = [a, b, none, none] := fun _ _ => rfl
  rw [c3] at c2
  simp only [m_law_same, Mi.v_bin6, Mi.v_bin5, Mi.v_bin4, Mi.v_bin3, Mi.v_bin2, Mi.v_bin1, Mi.v_bin, Mi.v_un3, Mi.v_un2, Mi.v_un1, Mi.v_un, Mi.v_test2, Mi.v_test1, Mi.v_test, Mi.v_cons3, Mi.v_cons2, Mi.v_cons1, Mi.v_cons, Mi.v_star4, Mi.v_star3, Mi.v_star2, Mi.v_star1, Mi.v_star, Mi.v_tup4, Mi.v_tup3, Mi.v_tup2, Mi.v_tup1, Mi.v_lst4, Mi.v_lst3, Mi.v_lst2, Mi.v_lst1, Mi.v_callB3, Mi.v_callB2, Mi.v_callB1, Mi.v_callB, Mi.v_andT1, Mi.v_andT, Mi.v_orT1, Mi.v_orT, Mi.v_notT1, Mi.v_notT, Mi.v_and2, Mi.v_and1, Mi.v_and, Mi.v_or2, Mi.v_or1, Mi.v_or, Mi.v_not2, Mi.v_not1, Mi.v_not, Mi.v_if1, Mi.v_if, Mi.v_orL1, Mi.v_orL, Mi.v_seq1, Mi.v_seq, Mi.v_ifS1, Mi.v_ifS, Mi.v_ret2, Mi.v_ret1, Mi.v_ret, Mi.v_drop1, Mi.v_drop, Mi.v_asg3, Mi.v_asg2, Mi.v_asg1, Mi.v_asg, Mi.v_gset1, Mi.v_gset, Mi.v_gsub5, Mi.v_gsub4, Mi.v_gsub3, Mi.v_gsub2, Mi.v_gsub1, Mi.v_gsub, Mi.v_gsc1, Mi.v_gsc, Mi.v_gsn1, Mi.v_gsn, Mi.v_for1, Mi.v_for, Mi.v_forc2, Mi.v_forc1, Mi.v_forc, Mi.v_lcc2, Mi.v_lcc1, Mi.v_lcc, Mi.v_lcT3, Mi.v_lcT2, Mi.v_lcT1, Mi.v_lcT, Mi.v_lc4, Mi.v_lc3, Mi.v_lc2, Mi.v_lc1, Mi.v_def4, Mi.v_def3, Mi.v_def2, Mi.v_def1, Mi.v_def, Mi.v_callV4, Mi.v_callV3, Mi.v_callV2, Mi.v_callV1, Mi.v_callV, Mi.v_callP4, Mi.v_callP3, Mi.v_callP2, Mi.v_callP1, Mi.v_callP, Mi.v_callKV5, Mi.v_callKV4, Mi.v_callKV3, Mi.v_callKV2, Mi.v_callKV1, Mi.v_callKV, Mi.v_callKP5, Mi.v_callKP4, Mi.v_callKP3, Mi.v_callKP2, Mi.v_callKP1, Mi.v_callKP, Mi.v_callIO5, Mi.v_callIO4, Mi.v_callIO3, Mi.v_callIO2, Mi.v_callIO1, Mi.v_callIO, Mi.v_app7, Mi.v_app6, Mi.v_app5, Mi.v_app4, Mi.v_app3, Mi.v_app2, Mi.v_app1, Mi.v_app, Mi.v_sl6, Mi.v_sl5, Mi.v_sl4, Mi.v_sl3, Mi.v_sl2, Mi.v_sl1, Mi.v_sl, Mi.v_oS2, Mi.v_oS1, Mi.v_oS, Mi.v_iseq3, Mi.v_iseq2, Mi.v_iseq1, Mi.v_iseq, Mi.v_ienum3, Mi.v_ienum2, Mi.v_ienum1, Mi.v_ienum, Mi.v_irg3, Mi.v_irg2, Mi.v_irg1, Mi.v_irg, Mi.v_rgTup3, Mi.v_rgTup2, Mi.v_rgTup1, Mi.v_rgTup, Mi.v_argsc2, Mi.v_argsc1, Mi.v_argsc, Mi.v_putc1, Mi.v_putc, Mi.v_takesc2, Mi.v_takesc1, Mi.v_takesc, Mi.v_contsc2, Mi.v_contsc1, Mi.v_contsc, Mi.v_backsI2, Mi.v_backsI1, Mi.v_backsI, Mi.v_ok, Mi.v_c, Mi.v_nil, Mi.v_next, Mi.v_yes, Mi.v_oN, Mi.v_gtup, Mi.v_var, Mi.v_for0, Mi.v_lc0, Mi.v_args0, Mi.v_put0, Mi.v_takes0, Mi.v_conts0, Mi.v_backs0, Mi.w_add, Mi.w_sub, Mi.w_neg, Mi.w_lt, Mi.w_le, Mi.w_gt, Mi.w_ge, Mi.w_intI, Mi.w_intB, Mi.w_abs, Mi.w_max, Mi.w_min, Mi.w_ix0, Mi.w_ix1, Mi.w_ix2, Mi.w_i0, Mi.w_i1, Mi.w_i2, Mi.pend, Mi.cont, Mi.take, Mi.frz, Mi.frzs, Mi.getP, Mi.setP, Mi.Res.of, Mi.boolOf, Mi.isPl, Mi.mutS, Mi.mutA, Mi.mutP, Mi.intOf, Mi.move, Mi.retOf, Mi.backs1, Mi.put1, Mi.fzT, Mi.ioOf, Mi.chk, Mi.early, Mi.shut, Mi.isTmp, Mi.flatB, Mi.scal, List.map_cons, List.map_nil, List.cons_append, List.nil_append, List.append_nil, List.replicate_succ, List.replicate_zero, List.replicate, List.length_cons, List.length_nil, List.getElem?_cons_zero, List.getElem?_cons_succ, List.set_cons_zero, List.set_cons_succ, List.all_cons, List.all_nil, List.contains_cons, List.contains_nil, List.elem_cons, List.elem_nil, List.isEmpty_nil, List.isEmpty_cons, Nat.reduceAdd, Nat.reduceSub, Nat.reduceBEq, Nat.reduceLT, Nat.reduceLeDiff, Nat.reduceEqDiff, decide_true, decide_false, Bool.and_true, Bool.true_and, Bool.or_true, Bool.true_or, Bool.or_false, Bool.false_or, Bool.and_false, Bool.false_and, Bool.not_true, Bool.not_false, Bool.false_eq_true, reduceIte, ite_true, ite_false, beq_self_eq_true, Nat.zero_add, reduceCtorEq, and_self, true_and, and_true, ge_iff_le, gt_iff_lt, Nat.succ_eq_add_one, Nat.add_one_sub_one, Nat.zero_lt_succ, Nat.lt_add_left_iff_pos, Mi.wipeE, Mi.restE, Mi.pick, List.filterMap_cons, List.filterMap_nil, i1, i2, i3, n1, n2, l1, eq_int, c2, a1]
theorem same_two (n : Nat) {x y : D} {b1 b2 : List W} (h1 : F_law_same n [.fz x, .fz x] = .ok (.fz (.bl true), b1)) (h2 : F_law_same n [.fz y, .fz y] = .ok (.fz (.bl true), b2)) : F_law_same (n + 1) [.fz (.lst [x, y]), .fz (.lst [x, y])] = .ok (.fz (.bl true), [.fz (.lst [x, y]), .fz (.lst [x, y])]) :=
  defv rfl rfl (same_body h1 h2) rfl
theorem same_got (a b : Int) : ∃ bk, F_law_same 40 [.fz (.lst [.lst [.int a, .int b], .lst [.int a, .int b]]), .fz (.lst [.lst [.int a, .int b], .lst [.int a, .int b]])] = .ok (.fz (.bl true), bk) :=
  ⟨_, same_two 39 (same_two 38 (same_int 37 a) (same_int 37 b)) (same_two 38 (same_int 37 a) (same_int 37 b))⟩
theorem callPv {q : Bool} {F : Fn} {bs : CBs} {ρ ρ1 ρ2 : En} {r : List B} {ws bk : List W} {w : W} (h1 : bs ρ = .ok (r, ρ1)) (h2 : shut q r = true) (h3 : takes r ρ1 = .ok (ws, ρ2)) (h4 : F (ws.map fun w => .fz (frz w)) = .ok (w, bk)) : cCallP q F bs ρ = .ok (.tmp w, ρ2) := by
  rw [Mi.v_callP, h1, Mi.v_ok, Mi.v_callP1, h2, cT, Mi.v_ok, Mi.v_callP2, h3, Mi.v_ok, Mi.v_callP3, h4, Mi.v_ok, Mi.v_callP4]
theorem asgv {i : Nat} {ce : CE} {ρ ρ1 : En} {w : W} (h : ce ρ = .ok (.tmp w, ρ1)) (hi : i < ρ1.length) : cAsg (gSet i) ce ρ = .ok (.nx, ρ1.set i (some w)) := by
  have a : take (.tmp w) ρ1 = .ok (w, ρ1) := rfl
  have b : gSet i w ρ1 = .ok (ρ1.set i (some w)) := by show Res.bind (chk (decide (i < ρ1.length))) _ = _; rw [decide_eq_true hi]; rfl
  rw [Mi.v_asg, h, Mi.v_ok, Mi.v_asg1, a, Mi.v_ok, Mi.v_asg2, b, Mi.v_ok, Mi.v_asg3]
/-! ### one near -/
theorem mutA_ok {i : Nat} {ρ : En} {ws : List W} {w : W} (h : ρ[i]? = some (some (.lst ws))) (hl : ws.length < 16777216) : mutA i [] w ρ = .ok (ρ.set i (some (.lst (ws ++ [w])))) := by
  unfold mutA mutP
  rw [h]
  show Res.bind (Res.of (if ws.length < 16777216 then some (ws ++ [w]) else none)) _ = _
  rw [if_pos hl]; rfl
theorem one {a : W} : [a].length < 16777216 := Nat.lt_of_lt_of_le (show 1 < 1000 by decide) (by omega)
theorem lst_tup (gs : List Int) : fList [.fz (.tup (gs.map D.int))] = .ok (cw gs) := by
  show Res.ok (W.lst ((gs.map D.int).map W.fz)) = _
  rw [List.map_map]; rfl
section
variable {β : Bx} {tn tm o7 o8 o9 : Option W} {gs : List Int} {lo hi s t b : Int}
theorem n_7 (hn : gs.length ≤ 5) (h1 : lo ≤ s) (h2 : s ≤ hi) : cAsg (gSet 7) (cCallP false F_law_ends (cCons true (cVar 3) (cCons true (cVar 4) (cCons true (cVar 5) (cCons true (cVar 6) cNil))))) [some (bx β), tn, tm, some (.fz (.tup (gs.map D.int))), some (.fz (.int lo)), some (.fz (.int hi)), some (.fz (.int s)), o7, o8, o9, none] = .ok (.nx, [some (bx β), tn, tm, some (.fz (.tup (gs.map D.int))), some (.fz (.int lo)), some (.fz (.int hi)), some (.fz (.int s)), some (.lst [.fz (.int (topH lo hi gs s)), .fz (.int (botH lo hi gs s))]), o8, o9, none]) := by
  have e := ends_ok hn h1 h2
  generalize F_law_ends = F at *
  generalize topH lo hi gs s = t at *
  generalize botH lo hi gs s = b at *
  have a1 : (cCons true (cVar 3) (cCons true (cVar 4) (cCons true (cVar 5) (cCons true (cVar 6) cNil)))) [some (bx β), tn, tm, some (.fz (.tup (gs.map D.int))), some (.fz (.int lo)), some (.fz (.int hi)), some (.fz (.int s)), o7, o8, o9, none] = .ok ([.tmp (.fz (.tup (gs.map D.int))), .tmp (.fz (.int lo)), .tmp (.fz (.int hi)), .tmp (.fz (.int s))], [some (bx β), tn, tm, some (.fz (.tup (gs.map D.int))), some (.fz (.int lo)), some (.fz (.int hi)), some (.fz (.int s)), o7, o8, o9, none]) := rfl
  have a3 : takes [.tmp (.fz (.tup (gs.map D.int))), .tmp (.fz (.int lo)), .tmp (.fz (.int hi)), .tmp (.fz (.int s))] [some (bx β), tn, tm, some (.fz (.tup (gs.map D.int))), some (.fz (.int lo)), some (.fz (.int hi)), some (.fz (.int s)), o7, o8, o9, none] = .ok ([.fz (.tup (gs.map D.int)), .fz (.int lo), .fz (.int hi), .fz (.int s)], [some (bx β), tn, tm, some (.fz (.tup (gs.map D.int))), some (.fz (.int lo)), some (.fz (.int hi)), some (.fz (.int s)), o7, o8, o9, none]) := rfl
  have a4 := callPv (q := false) (F := F) a1 rfl a3 e
  exact asgv a4 (show 7 < 11 by decide)
theorem n_8 (hn : gs.length ≤ 5) : cAsg (gSet 8) (cLst true (cCons true (cCallV Fhighest_held (cCons true (cVar 3) (cCons true (cVar 4) (cCons true (cVar 5) (cCons true (cVar 6) cNil))))) (cCons true (cCallV Flowest_held (cCons true (cVar 3) (cCons true (cVar 4) (cCons true (cVar 5) (cCons true (cVar 6) cNil))))) cNil))) [some (bx β), tn, tm, some (.fz (.tup (gs.map D.int))), some (.fz (.int lo)), some (.fz (.int hi)), some (.fz (.int s)), o7, o8, o9, none] = .ok (.nx, [some (bx β), tn, tm, some (.fz (.tup (gs.map D.int))), some (.fz (.int lo)), some (.fz (.int hi)), some (.fz (.int s)), o7, some (.lst [.fz (.int (topH lo hi gs s)), .fz (.int (botH lo hi gs s))]), o9, none]) := by
  have e1 := highest_ok (x := .tup (gs.map D.int)) (gs := gs) (lo := lo) (hi := hi) (s := s) (.inl rfl) (by omega)
  have e2 := lowest_ok (x := .tup (gs.map D.int)) (gs := gs) (lo := lo) (hi := hi) (s := s) (.inl rfl) (by omega)
  generalize Fhighest_held = F at *
  generalize Flowest_held = F2 at *
  generalize topH lo hi gs s = t at *
  generalize botH lo hi gs s = b at *
  have h1 : (cCons true (cCallV F (cCons true (cVar 3) (cCons true (cVar 4) (cCons true (cVar 5) (cCons true (cVar 6) cNil))))) (cCons true (cCallV F2 (cCons true (cVar 3) (cCons true (cVar 4) (cCons true (cVar 5) (cCons true (cVar 6) cNil))))) cNil)) [some (bx β), tn, tm, some (.fz (.tup (gs.map D.int))), some (.fz (.int lo)), some (.fz (.int hi)), some (.fz (.int s)), o7, o8, o9, none] = .ok ([.tmp (.fz (.int t)), .tmp (.fz (.int b))], [some (bx β), tn, tm, some (.fz (.tup (gs.map D.int))), some (.fz (.int lo)), some (.fz (.int hi)), some (.fz (.int s)), o7, o8, o9, none]) := by
    simp only [Mi.v_bin6, Mi.v_bin5, Mi.v_bin4, Mi.v_bin3, Mi.v_bin2, Mi.v_bin1, Mi.v_bin, Mi.v_un3, Mi.v_un2, Mi.v_un1, Mi.v_un, Mi.v_test2, Mi.v_test1, Mi.v_test, Mi.v_cons3, Mi.v_cons2, Mi.v_cons1, Mi.v_cons, Mi.v_star4, Mi.v_star3, Mi.v_star2, Mi.v_star1, Mi.v_star, Mi.v_tup4, Mi.v_tup3, Mi.v_tup2, Mi.v_tup1, Mi.v_lst4, Mi.v_lst3, Mi.v_lst2, Mi.v_lst1, Mi.v_callB3, Mi.v_callB2, Mi.v_callB1, Mi.v_callB, Mi.v_andT1, Mi.v_andT, Mi.v_orT1, Mi.v_orT, Mi.v_notT1, Mi.v_notT, Mi.v_and2, Mi.v_and1, Mi.v_and, Mi.v_or2, Mi.v_or1, Mi.v_or, Mi.v_not2, Mi.v_not1, Mi.v_not, Mi.v_if1, Mi.v_if, Mi.v_orL1, Mi.v_orL, Mi.v_seq1, Mi.v_seq, Mi.v_ifS1, Mi.v_ifS, Mi.v_ret2, Mi.v_ret1, Mi.v_ret, Mi.v_drop1, Mi.v_drop, Mi.v_asg3, Mi.v_asg2, Mi.v_asg1, Mi.v_asg, Mi.v_gset1, Mi.v_gset, Mi.v_gsub5, Mi.v_gsub4, Mi.v_gsub3, Mi.v_gsub2, Mi.v_gsub1, Mi.v_gsub, Mi.v_gsc1, Mi.v_gsc, Mi.v_gsn1, Mi.v_gsn, Mi.v_for1, Mi.v_for, Mi.v_forc2, Mi.v_forc1, Mi.v_forc, Mi.v_lcc2, Mi.v_lcc1, Mi.v_lcc, Mi.v_lcT3, Mi.v_lcT2, Mi.v_lcT1, Mi.v_lcT, Mi.v_lc4, Mi.v_lc3, Mi.v_lc2, Mi.v_lc1, Mi.v_def4, Mi.v_def3, Mi.v_def2, Mi.v_def1, Mi.v_def, Mi.v_callV4, Mi.v_callV3, Mi.v_callV2, Mi.v_callV1, Mi.v_callV, Mi.v_callP4, Mi.v_callP3, Mi.v_callP2, Mi.v_callP1, Mi.v_callP, Mi.v_callKV5, Mi.v_callKV4, Mi.v_callKV3, Mi.v_callKV2, Mi.v_callKV1, Mi.v_callKV, Mi.v_callKP5, Mi.v_callKP4, Mi.v_callKP3, Mi.v_callKP2, Mi.v_callKP1, Mi.v_callKP, Mi.v_callIO5, Mi.v_callIO4, Mi.v_callIO3, Mi.v_callIO2, Mi.v_callIO1, Mi.v_callIO, Mi.v_app7, Mi.v_app6, Mi.v_app5, Mi.v_app4, Mi.v_app3, Mi.v_app2, Mi.v_app1, Mi.v_app, Mi.v_sl6, Mi.v_sl5, Mi.v_sl4, Mi.v_sl3, Mi.v_sl2, Mi.v_sl1, Mi.v_sl, Mi.v_oS2, Mi.v_oS1, Mi.v_oS, Mi.v_iseq3, Mi.v_iseq2, Mi.v_iseq1, Mi.v_iseq, Mi.v_ienum3, Mi.v_ienum2, Mi.v_ienum1, Mi.v_ienum, Mi.v_irg3, Mi.v_irg2, Mi.v_irg1, Mi.v_irg, Mi.v_rgTup3, Mi.v_rgTup2, Mi.v_rgTup1, Mi.v_rgTup, Mi.v_argsc2, Mi.v_argsc1, Mi.v_argsc, Mi.v_putc1, Mi.v_putc, Mi.v_takesc2, Mi.v_takesc1, Mi.v_takesc, Mi.v_contsc2, Mi.v_contsc1, Mi.v_contsc, Mi.v_backsI2, Mi.v_backsI1, Mi.v_backsI, Mi.v_ok, Mi.v_c, Mi.v_nil, Mi.v_next, Mi.v_yes, Mi.v_oN, Mi.v_gtup, Mi.v_var, Mi.v_for0, Mi.v_lc0, Mi.v_args0, Mi.v_put0, Mi.v_takes0, Mi.v_conts0, Mi.v_backs0, Mi.w_add, Mi.w_sub, Mi.w_neg, Mi.w_lt, Mi.w_le, Mi.w_gt, Mi.w_ge, Mi.w_intI, Mi.w_intB, Mi.w_abs, Mi.w_max, Mi.w_min, Mi.w_ix0, Mi.w_ix1, Mi.w_ix2, Mi.w_i0, Mi.w_i1, Mi.w_i2, Mi.pend, Mi.cont, Mi.take, Mi.frz, Mi.frzs, Mi.getP, Mi.setP, Mi.Res.of, Mi.boolOf, Mi.isPl, Mi.mutS, Mi.mutA, Mi.mutP, Mi.intOf, Mi.move, Mi.retOf, Mi.backs1, Mi.put1, Mi.fzT, Mi.ioOf, Mi.chk, Mi.early, Mi.shut, Mi.isTmp, Mi.flatB, Mi.scal, List.map_cons, List.map_nil, List.cons_append, List.nil_append, List.append_nil, List.replicate_succ, List.replicate_zero, List.replicate, List.length_cons, List.length_nil, List.getElem?_cons_zero, List.getElem?_cons_succ, List.set_cons_zero, List.set_cons_succ, List.all_cons, List.all_nil, List.contains_cons, List.contains_nil, List.elem_cons, List.elem_nil, List.isEmpty_nil, List.isEmpty_cons, Nat.reduceAdd, Nat.reduceSub, Nat.reduceBEq, Nat.reduceLT, Nat.reduceLeDiff, Nat.reduceEqDiff, decide_true, decide_false, Bool.and_true, Bool.true_and, Bool.or_true, Bool.true_or, Bool.or_false, Bool.false_or, Bool.and_false, Bool.false_and, Bool.not_true, Bool.not_false, Bool.false_eq_true, reduceIte, ite_true, ite_false, beq_self_eq_true, Nat.zero_add, reduceCtorEq, and_self, true_and, and_true, ge_iff_le, gt_iff_lt, Nat.succ_eq_add_one, Nat.add_one_sub_one, Nat.zero_lt_succ, Nat.lt_add_left_iff_pos, Mi.wipeE, Mi.restE, Mi.pick, List.filterMap_cons, List.filterMap_nil, e1, e2]
  rw [Mi.v_asg, lstv (q := true) h1 rfl rfl two]
  simp only [Mi.v_bin6, Mi.v_bin5, Mi.v_bin4, Mi.v_bin3, Mi.v_bin2, Mi.v_bin1, Mi.v_bin, Mi.v_un3, Mi.v_un2, Mi.v_un1, Mi.v_un, Mi.v_test2, Mi.v_test1, Mi.v_test, Mi.v_cons3, Mi.v_cons2, Mi.v_cons1, Mi.v_cons, Mi.v_star4, Mi.v_star3, Mi.v_star2, Mi.v_star1, Mi.v_star, Mi.v_tup4, Mi.v_tup3, Mi.v_tup2, Mi.v_tup1, Mi.v_lst4, Mi.v_lst3, Mi.v_lst2, Mi.v_lst1, Mi.v_callB3, Mi.v_callB2, Mi.v_callB1, Mi.v_callB, Mi.v_andT1, Mi.v_andT, Mi.v_orT1, Mi.v_orT, Mi.v_notT1, Mi.v_notT, Mi.v_and2, Mi.v_and1, Mi.v_and, Mi.v_or2, Mi.v_or1, Mi.v_or, Mi.v_not2, Mi.v_not1, Mi.v_not, Mi.v_if1, Mi.v_if, Mi.v_orL1, Mi.v_orL, Mi.v_seq1, Mi.v_seq, Mi.v_ifS1, Mi.v_ifS, Mi.v_ret2, Mi.v_ret1, Mi.v_ret, Mi.v_drop1, Mi.v_drop, Mi.v_asg3, Mi.v_asg2, Mi.v_asg1, Mi.v_asg, Mi.v_gset1, Mi.v_gset, Mi.v_gsub5, Mi.v_gsub4, Mi.v_gsub3, Mi.v_gsub2, Mi.v_gsub1, Mi.v_gsub, Mi.v_gsc1, Mi.v_gsc, Mi.v_gsn1, Mi.v_gsn, Mi.v_for1, Mi.v_for, Mi.v_forc2, Mi.v_forc1, Mi.v_forc, Mi.v_lcc2, Mi.v_lcc1, Mi.v_lcc, Mi.v_lcT3, Mi.v_lcT2, Mi.v_lcT1, Mi.v_lcT, Mi.v_lc4, Mi.v_lc3, Mi.v_lc2, Mi.v_lc1, Mi.v_def4, Mi.v_def3, Mi.v_def2, Mi.v_def1, Mi.v_def, Mi.v_callV4, Mi.v_callV3, Mi.v_callV2, Mi.v_callV1, Mi.v_callV, Mi.v_callP4, Mi.v_callP3, Mi.v_callP2, Mi.v_callP1, Mi.v_callP, Mi.v_callKV5, Mi.v_callKV4, Mi.v_callKV3, Mi.v_callKV2, Mi.v_callKV1, Mi.v_callKV, Mi.v_callKP5, Mi.v_callKP4, Mi.v_callKP3, Mi.v_callKP2, Mi.v_callKP1, Mi.v_callKP, Mi.v_callIO5, Mi.v_callIO4, Mi.v_callIO3, Mi.v_callIO2, Mi.v_callIO1, Mi.v_callIO, Mi.v_app7, Mi.v_app6, Mi.v_app5, Mi.v_app4, Mi.v_app3, Mi.v_app2, Mi.v_app1, Mi.v_app, Mi.v_sl6, Mi.v_sl5, Mi.v_sl4, Mi.v_sl3, Mi.v_sl2, Mi.v_sl1, Mi.v_sl, Mi.v_oS2, Mi.v_oS1, Mi.v_oS, Mi.v_iseq3, Mi.v_iseq2, Mi.v_iseq1, Mi.v_iseq, Mi.v_ienum3, Mi.v_ienum2, Mi.v_ienum1, Mi.v_ienum, Mi.v_irg3, Mi.v_irg2, Mi.v_irg1, Mi.v_irg, Mi.v_rgTup3, Mi.v_rgTup2, Mi.v_rgTup1, Mi.v_rgTup, Mi.v_argsc2, Mi.v_argsc1, Mi.v_argsc, Mi.v_putc1, Mi.v_putc, Mi.v_takesc2, Mi.v_takesc1, Mi.v_takesc, Mi.v_contsc2, Mi.v_contsc1, Mi.v_contsc, Mi.v_backsI2, Mi.v_backsI1, Mi.v_backsI, Mi.v_ok, Mi.v_c, Mi.v_nil, Mi.v_next, Mi.v_yes, Mi.v_oN, Mi.v_gtup, Mi.v_var, Mi.v_for0, Mi.v_lc0, Mi.v_args0, Mi.v_put0, Mi.v_takes0, Mi.v_conts0, Mi.v_backs0, Mi.w_add, Mi.w_sub, Mi.w_neg, Mi.w_lt, Mi.w_le, Mi.w_gt, Mi.w_ge, Mi.w_intI, Mi.w_intB, Mi.w_abs, Mi.w_max, Mi.w_min, Mi.w_ix0, Mi.w_ix1, Mi.w_ix2, Mi.w_i0, Mi.w_i1, Mi.w_i2, Mi.pend, Mi.cont, Mi.take, Mi.frz, Mi.frzs, Mi.getP, Mi.setP, Mi.Res.of, Mi.boolOf, Mi.isPl, Mi.mutS, Mi.mutA, Mi.mutP, Mi.intOf, Mi.move, Mi.retOf, Mi.backs1, Mi.put1, Mi.fzT, Mi.ioOf, Mi.chk, Mi.early, Mi.shut, Mi.isTmp, Mi.flatB, Mi.scal, List.map_cons, List.map_nil, List.cons_append, List.nil_append, List.append_nil, List.replicate_succ, List.replicate_zero, List.replicate, List.length_cons, List.length_nil, List.getElem?_cons_zero, List.getElem?_cons_succ, List.set_cons_zero, List.set_cons_succ, List.all_cons, List.all_nil, List.contains_cons, List.contains_nil, List.elem_cons, List.elem_nil, List.isEmpty_nil, List.isEmpty_cons, Nat.reduceAdd, Nat.reduceSub, Nat.reduceBEq, Nat.reduceLT, Nat.reduceLeDiff, Nat.reduceEqDiff, decide_true, decide_false, Bool.and_true, Bool.true_and, Bool.or_true, Bool.true_or, Bool.or_false, Bool.false_or, Bool.and_false, Bool.false_and, Bool.not_true, Bool.not_false, Bool.false_eq_true, reduceIte, ite_true, ite_false, beq_self_eq_true, Nat.zero_add, reduceCtorEq, and_self, true_and, and_true, ge_iff_le, gt_iff_lt, Nat.succ_eq_add_one, Nat.add_one_sub_one, Nat.zero_lt_succ, Nat.lt_add_left_iff_pos, Mi.wipeE, Mi.restE, Mi.pick, List.filterMap_cons, List.filterMap_nil]
theorem n_9 (hn : gs.length ≤ 5) : cAsg (gSet 9) (cLst true (cCons true (cCallKV Fhighest_held [3, 2, 1, 0] 4 (cCons true (cVar 6) (cCons true (cVar 5) (cCons true (cVar 4) (cCons true (cCallB fList (cCons true (cVar 3) cNil)) cNil))))) cNil)) [some (bx β), tn, tm, some (.fz (.tup (gs.map D.int))), some (.fz (.int lo)), some (.fz (.int hi)), some (.fz (.int s)), o7, o8, o9, none] = .ok (.nx, [some (bx β), tn, tm, some (.fz (.tup (gs.map D.int))), some (.fz (.int lo)), some (.fz (.int hi)), some (.fz (.int s)), o7, o8, some (.lst [.fz (.int (topH lo hi gs s))]), none]) := by
  have e1 := highest_ok (x := .lst (gs.map D.int)) (gs := gs) (lo := lo) (hi := hi) (s := s) (.inr rfl) (by omega)
  generalize Fhighest_held = F at *
  generalize topH lo hi gs s = t at *
  have h1 : (cCons true (cCallKV F [3, 2, 1, 0] 4 (cCons true (cVar 6) (cCons true (cVar 5) (cCons true (cVar 4) (cCons true (cCallB fList (cCons true (cVar 3) cNil)) cNil))))) cNil) [some (bx β), tn, tm, some (.fz (.tup (gs.map D.int))), some (.fz (.int lo)), some (.fz (.int hi)), some (.fz (.int s)), o7, o8, o9, none] = .ok ([.tmp (.fz (.int t))], [some (bx β), tn, tm, some (.fz (.tup (gs.map D.int))), some (.fz (.int lo)), some (.fz (.int hi)), some (.fz (.int s)), o7, o8, o9, none]) := by
    simp only [Mi.v_bin6, Mi.v_bin5, Mi.v_bin4, Mi.v_bin3, Mi.v_bin2, Mi.v_bin1, Mi.v_bin, Mi.v_un3, Mi.v_un2, Mi.v_un1, Mi.v_un, Mi.v_test2, Mi.v_test1, Mi.v_test, Mi.v_cons3, Mi.v_cons2, Mi.v_cons1, Mi.v_cons, Mi.v_star4, Mi.v_star3, Mi.v_star2, Mi.v_star1, Mi.v_star, Mi.v_tup4, Mi.v_tup3, Mi.v_tup2, Mi.v_tup1, Mi.v_lst4, Mi.v_lst3, Mi.v_lst2, Mi.v_lst1, Mi.v_callB3, Mi.v_callB2, Mi.v_callB1, Mi.v_callB, Mi.v_andT1, Mi.v_andT, Mi.v_orT1, Mi.v_orT, Mi.v_notT1, Mi.v_notT, Mi.v_and2, Mi.v_and1, Mi.v_and, Mi.v_or2, Mi.v_or1, Mi.v_or, Mi.v_not2, Mi.v_not1, Mi.v_not, Mi.v_if1, Mi.v_if, Mi.v_orL1, Mi.v_orL, Mi.v_seq1, Mi.v_seq, Mi.v_ifS1, Mi.v_ifS, Mi.v_ret2, Mi.v_ret1, Mi.v_ret, Mi.v_drop1, Mi.v_drop, Mi.v_asg3, Mi.v_asg2, Mi.v_asg1, Mi.v_asg, Mi.v_gset1, Mi.v_gset, Mi.v_gsub5, Mi.v_gsub4, Mi.v_gsub3, Mi.v_gsub2, Mi.v_gsub1, Mi.v_gsub, Mi.v_gsc1, Mi.v_gsc, Mi.v_gsn1, Mi.v_gsn, Mi.v_for1, Mi.v_for, Mi.v_forc2, Mi.v_forc1, Mi.v_forc, Mi.v_lcc2, Mi.v_lcc1, Mi.v_lcc, Mi.v_lcT3, Mi.v_lcT2, Mi.v_lcT1, Mi.v_lcT, Mi.v_lc4, Mi.v_lc3, Mi.v_lc2, Mi.v_lc1, Mi.v_def4, Mi.v_def3, Mi.v_def2, Mi.v_def1, Mi.v_def, Mi.v_callV4, Mi.v_callV3, Mi.v_callV2, Mi.v_callV1, Mi.v_callV, Mi.v_callP4, Mi.v_callP3, Mi.v_callP2, Mi.v_callP1, Mi.v_callP, Mi.v_callKV5, Mi.v_callKV4, Mi.v_callKV3, Mi.v_callKV2, Mi.v_callKV1, Mi.v_callKV, Mi.v_callKP5, Mi.v_callKP4, Mi.v_callKP3, Mi.v_callKP2, Mi.v_callKP1, Mi.v_callKP, Mi.v_callIO5, Mi.v_callIO4, Mi.v_callIO3, Mi.v_callIO2, Mi.v_callIO1, Mi.v_callIO, Mi.v_app7, Mi.v_app6, Mi.v_app5, Mi.v_app4, Mi.v_app3, Mi.v_app2, Mi.v_app1, Mi.v_app, Mi.v_sl6, Mi.v_sl5, Mi.v_sl4, Mi.v_sl3, Mi.v_sl2, Mi.v_sl1, Mi.v_sl, Mi.v_oS2, Mi.v_oS1, Mi.v_oS, Mi.v_iseq3, Mi.v_iseq2, Mi.v_iseq1, Mi.v_iseq, Mi.v_ienum3, Mi.v_ienum2, Mi.v_ienum1, Mi.v_ienum, Mi.v_irg3, Mi.v_irg2, Mi.v_irg1, Mi.v_irg, Mi.v_rgTup3, Mi.v_rgTup2, Mi.v_rgTup1, Mi.v_rgTup, Mi.v_argsc2, Mi.v_argsc1, Mi.v_argsc, Mi.v_putc1, Mi.v_putc, Mi.v_takesc2, Mi.v_takesc1, Mi.v_takesc, Mi.v_contsc2, Mi.v_contsc1, Mi.v_contsc, Mi.v_backsI2, Mi.v_backsI1, Mi.v_backsI, Mi.v_ok, Mi.v_c, Mi.v_nil, Mi.v_next, Mi.v_yes, Mi.v_oN, Mi.v_gtup, Mi.v_var, Mi.v_for0, Mi.v_lc0, Mi.v_args0, Mi.v_put0, Mi.v_takes0, Mi.v_conts0, Mi.v_backs0, Mi.w_add, Mi.w_sub, Mi.w_neg, Mi.w_lt, Mi.w_le, Mi.w_gt, Mi.w_ge, Mi.w_intI, Mi.w_intB, Mi.w_abs, Mi.w_max, Mi.w_min, Mi.w_ix0, Mi.w_ix1, Mi.w_ix2, Mi.w_i0, Mi.w_i1, Mi.w_i2, Mi.pend, Mi.cont, Mi.take, Mi.frz, Mi.frzs, Mi.getP, Mi.setP, Mi.Res.of, Mi.boolOf, Mi.isPl, Mi.mutS, Mi.mutA, Mi.mutP, Mi.intOf, Mi.move, Mi.retOf, Mi.backs1, Mi.put1, Mi.fzT, Mi.ioOf, Mi.chk, Mi.early, Mi.shut, Mi.isTmp, Mi.flatB, Mi.scal, List.map_cons, List.map_nil, List.cons_append, List.nil_append, List.append_nil, List.replicate_succ, List.replicate_zero, List.replicate, List.length_cons, List.length_nil, List.getElem?_cons_zero, List.getElem?_cons_succ, List.set_cons_zero, List.set_cons_succ, List.all_cons, List.all_nil, List.contains_cons, List.contains_nil, List.elem_cons, List.elem_nil, List.isEmpty_nil, List.isEmpty_cons, Nat.reduceAdd, Nat.reduceSub, Nat.reduceBEq, Nat.reduceLT, Nat.reduceLeDiff, Nat.reduceEqDiff, decide_true, decide_false, Bool.and_true, Bool.true_and, Bool.or_true, Bool.true_or, Bool.or_false, Bool.false_or, Bool.and_false, Bool.false_and, Bool.not_true, Bool.not_false, Bool.false_eq_true, reduceIte, ite_true, ite_false, beq_self_eq_true, Nat.zero_add, reduceCtorEq, and_self, true_and, and_true, ge_iff_le, gt_iff_lt, Nat.succ_eq_add_one, Nat.add_one_sub_one, Nat.zero_lt_succ, Nat.lt_add_left_iff_pos, Mi.wipeE, Mi.restE, Mi.pick, List.filterMap_cons, List.filterMap_nil, lst_tup, frzs_cw, e1]
  rw [Mi.v_asg, lstv (q := true) h1 rfl rfl one]
  simp only [Mi.v_bin6, Mi.v_bin5, Mi.v_bin4, Mi.v_bin3, Mi.v_bin2, Mi.v_bin1, Mi.v_bin, Mi.v_un3, Mi.v_un2, Mi.v_un1, Mi.v_un, Mi.v_test2, Mi.v_test1, Mi.v_test, Mi.v_cons3, Mi.v_cons2, Mi.v_cons1, Mi.v_cons, Mi.v_star4, Mi.v_star3, Mi.v_star2, Mi.v_star1, Mi.v_star, Mi.v_tup4, Mi.v_tup3, Mi.v_tup2, Mi.v_tup1, Mi.v_lst4, Mi.v_lst3, Mi.v_lst2, Mi.v_lst1, Mi.v_callB3, Mi.v_callB2, Mi.v_callB1, Mi.v_callB, Mi.v_andT1, Mi.v_andT, Mi.v_orT1, Mi.v_orT, Mi.v_notT1, Mi.v_notT, Mi.v_and2, Mi.v_and1, Mi.v_and, Mi.v_or2, Mi.v_or1, Mi.v_or, Mi.v_not2, Mi.v_not1, Mi.v_not, Mi.v_if1, Mi.v_if, Mi.v_orL1, Mi.v_orL, Mi.v_seq1, Mi.v_seq, Mi.v_ifS1, Mi.v_ifS, Mi.v_ret2, Mi.v_ret1, Mi.v_ret, Mi.v_drop1, Mi.v_drop, Mi.v_asg3, Mi.v_asg2, Mi.v_asg1, Mi.v_asg, Mi.v_gset1, Mi.v_gset, Mi.v_gsub5, Mi.v_gsub4, Mi.v_gsub3, Mi.v_gsub2, Mi.v_gsub1, Mi.v_gsub, Mi.v_gsc1, Mi.v_gsc, Mi.v_gsn1, Mi.v_gsn, Mi.v_for1, Mi.v_for, Mi.v_forc2, Mi.v_forc1, Mi.v_forc, Mi.v_lcc2, Mi.v_lcc1, Mi.v_lcc, Mi.v_lcT3, Mi.v_lcT2, Mi.v_lcT1, Mi.v_lcT, Mi.v_lc4, Mi.v_lc3, Mi.v_lc2, Mi.v_lc1, Mi.v_def4, Mi.v_def3, Mi.v_def2, Mi.v_def1, Mi.v_def, Mi.v_callV4, Mi.v_callV3, Mi.v_callV2, Mi.v_callV1, Mi.v_callV, Mi.v_callP4, Mi.v_callP3, Mi.v_callP2, Mi.v_callP1, Mi.v_callP, Mi.v_callKV5, Mi.v_callKV4, Mi.v_callKV3, Mi.v_callKV2, Mi.v_callKV1, Mi.v_callKV, Mi.v_callKP5, Mi.v_callKP4, Mi.v_callKP3, Mi.v_callKP2, Mi.v_callKP1, Mi.v_callKP, Mi.v_callIO5, Mi.v_callIO4, Mi.v_callIO3, Mi.v_callIO2, Mi.v_callIO1, Mi.v_callIO, Mi.v_app7, Mi.v_app6, Mi.v_app5, Mi.v_app4, Mi.v_app3, Mi.v_app2, Mi.v_app1, Mi.v_app, Mi.v_sl6, Mi.v_sl5, Mi.v_sl4, Mi.v_sl3, Mi.v_sl2, Mi.v_sl1, Mi.v_sl, Mi.v_oS2, Mi.v_oS1, Mi.v_oS, Mi.v_iseq3, Mi.v_iseq2, Mi.v_iseq1, Mi.v_iseq, Mi.v_ienum3, Mi.v_ienum2, Mi.v_ienum1, Mi.v_ienum, Mi.v_irg3, Mi.v_irg2, Mi.v_irg1, Mi.v_irg, Mi.v_rgTup3, Mi.v_rgTup2, Mi.v_rgTup1, Mi.v_rgTup, Mi.v_argsc2, Mi.v_argsc1, Mi.v_argsc, Mi.v_putc1, Mi.v_putc, Mi.v_takesc2, Mi.v_takesc1, Mi.v_takesc, Mi.v_contsc2, Mi.v_contsc1, Mi.v_contsc, Mi.v_backsI2, Mi.v_backsI1, Mi.v_backsI, Mi.v_ok, Mi.v_c, Mi.v_nil, Mi.v_next, Mi.v_yes, Mi.v_oN, Mi.v_gtup, Mi.v_var, Mi.v_for0, Mi.v_lc0, Mi.v_args0, Mi.v_put0, Mi.v_takes0, Mi.v_conts0, Mi.v_backs0, Mi.w_add, Mi.w_sub, Mi.w_neg, Mi.w_lt, Mi.w_le, Mi.w_gt, Mi.w_ge, Mi.w_intI, Mi.w_intB, Mi.w_abs, Mi.w_max, Mi.w_min, Mi.w_ix0, Mi.w_ix1, Mi.w_ix2, Mi.w_i0, Mi.w_i1, Mi.w_i2, Mi.pend, Mi.cont, Mi.take, Mi.frz, Mi.frzs, Mi.getP, Mi.setP, Mi.Res.of, Mi.boolOf, Mi.isPl, Mi.mutS, Mi.mutA, Mi.mutP, Mi.intOf, Mi.move, Mi.retOf, Mi.backs1, Mi.put1, Mi.fzT, Mi.ioOf, Mi.chk, Mi.early, Mi.shut, Mi.isTmp, Mi.flatB, Mi.scal, List.map_cons, List.map_nil, List.cons_append, List.nil_append, List.append_nil, List.replicate_succ, List.replicate_zero, List.replicate, List.length_cons, List.length_nil, List.getElem?_cons_zero, List.getElem?_cons_succ, List.set_cons_zero, List.set_cons_succ, List.all_cons, List.all_nil, List.contains_cons, List.contains_nil, List.elem_cons, List.elem_nil, List.isEmpty_nil, List.isEmpty_cons, Nat.reduceAdd, Nat.reduceSub, Nat.reduceBEq, Nat.reduceLT, Nat.reduceLeDiff, Nat.reduceEqDiff, decide_true, decide_false, Bool.and_true, Bool.true_and, Bool.or_true, Bool.true_or, Bool.or_false, Bool.false_or, Bool.and_false, Bool.false_and, Bool.not_true, Bool.not_false, Bool.false_eq_true, reduceIte, ite_true, ite_false, beq_self_eq_true, Nat.zero_add, reduceCtorEq, and_self, true_and, and_true, ge_iff_le, gt_iff_lt, Nat.succ_eq_add_one, Nat.add_one_sub_one, Nat.zero_lt_succ, Nat.lt_add_left_iff_pos, Mi.wipeE, Mi.restE, Mi.pick, List.filterMap_cons, List.filterMap_nil]
theorem n_10 {u : Int} (hn : gs.length ≤ 5) : cDrop (cApp true (cVar 9) (cCallKV Flowest_held [3, 2, 1, 0] 4 (cCons true (cVar 6) (cCons true (cVar 5) (cCons true (cVar 4) (cCons true (cCallB fList (cCons true (cVar 3) cNil)) cNil)))))) [some (bx β), tn, tm, some (.fz (.tup (gs.map D.int))), some (.fz (.int lo)), some (.fz (.int hi)), some (.fz (.int s)), o7, o8, some (.lst [.fz (.int u)]), none] = .ok (.nx, [some (bx β), tn, tm, some (.fz (.tup (gs.map D.int))), some (.fz (.int lo)), some (.fz (.int hi)), some (.fz (.int s)), o7, o8, some (.lst [.fz (.int u), .fz (.int (botH lo hi gs s))]), none]) := by
  have e1 := lowest_ok (x := .lst (gs.map D.int)) (gs := gs) (lo := lo) (hi := hi) (s := s) (.inr rfl) (by omega)
  generalize Flowest_held = F at *
  generalize botH lo hi gs s = b at *
  have h1 : cCallKV F [3, 2, 1, 0] 4 (cCons true (cVar 6) (cCons true (cVar 5) (cCons true (cVar 4) (cCons true (cCallB fList (cCons true (cVar 3) cNil)) cNil)))) [some (bx β), tn, tm, some (.fz (.tup (gs.map D.int))), some (.fz (.int lo)), some (.fz (.int hi)), some (.fz (.int s)), o7, o8, some (.lst [.fz (.int u)]), none] = .ok (.tmp (.fz (.int b)), [some (bx β), tn, tm, some (.fz (.tup (gs.map D.int))), some (.fz (.int lo)), some (.fz (.int hi)), some (.fz (.int s)), o7, o8, some (.lst [.fz (.int u)]), none]) := by
    simp only [Mi.v_bin6, Mi.v_bin5, Mi.v_bin4, Mi.v_bin3, Mi.v_bin2, Mi.v_bin1, Mi.v_bin, Mi.v_un3, Mi.v_un2, Mi.v_un1, Mi.v_un, Mi.v_test2, Mi.v_test1, Mi.v_test, Mi.v_cons3, Mi.v_cons2, Mi.v_cons1, Mi.v_cons, Mi.v_star4, Mi.v_star3, Mi.v_star2, Mi.v_star1, Mi.v_star, Mi.v_tup4, Mi.v_tup3, Mi.v_tup2, Mi.v_tup1, Mi.v_lst4, Mi.v_lst3, Mi.v_lst2, Mi.v_lst1, Mi.v_callB3, Mi.v_callB2, Mi.v_callB1, Mi.v_callB, Mi.v_andT1, Mi.v_andT, Mi.v_orT1, Mi.v_orT, Mi.v_notT1, Mi.v_notT, Mi.v_and2, Mi.v_and1, Mi.v_and, Mi.v_or2, Mi.v_or1, Mi.v_or, Mi.v_not2, Mi.v_not1, Mi.v_not, Mi.v_if1, Mi.v_if, Mi.v_orL1, Mi.v_orL, Mi.v_seq1, Mi.v_seq, Mi.v_ifS1, Mi.v_ifS, Mi.v_ret2, Mi.v_ret1, Mi.v_ret, Mi.v_drop1, Mi.v_drop, Mi.v_asg3, Mi.v_asg2, Mi.v_asg1, Mi.v_asg, Mi.v_gset1, Mi.v_gset, Mi.v_gsub5, Mi.v_gsub4, Mi.v_gsub3, Mi.v_gsub2, Mi.v_gsub1, Mi.v_gsub, Mi.v_gsc1, Mi.v_gsc, Mi.v_gsn1, Mi.v_gsn, Mi.v_for1, Mi.v_for, Mi.v_forc2, Mi.v_forc1, Mi.v_forc, Mi.v_lcc2, Mi.v_lcc1, Mi.v_lcc, Mi.v_lcT3, Mi.v_lcT2, Mi.v_lcT1, Mi.v_lcT, Mi.v_lc4, Mi.v_lc3, Mi.v_lc2, Mi.v_lc1, Mi.v_def4, Mi.v_def3, Mi.v_def2, Mi.v_def1, Mi.v_def, Mi.v_callV4, Mi.v_callV3, Mi.v_callV2, Mi.v_callV1, Mi.v_callV, Mi.v_callP4, Mi.v_callP3, Mi.v_callP2, Mi.v_callP1, Mi.v_callP, Mi.v_callKV5, Mi.v_callKV4, Mi.v_callKV3, Mi.v_callKV2, Mi.v_callKV1, Mi.v_callKV, Mi.v_callKP5, Mi.v_callKP4, Mi.v_callKP3, Mi.v_callKP2, Mi.v_callKP1, Mi.v_callKP, Mi.v_callIO5, Mi.v_callIO4, Mi.v_callIO3, Mi.v_callIO2, Mi.v_callIO1, Mi.v_callIO, Mi.v_app7, Mi.v_app6, Mi.v_app5, Mi.v_app4, Mi.v_app3, Mi.v_app2, Mi.v_app1, Mi.v_app, Mi.v_sl6, Mi.v_sl5, Mi.v_sl4, Mi.v_sl3, Mi.v_sl2, Mi.v_sl1, Mi.v_sl, Mi.v_oS2, Mi.v_oS1, Mi.v_oS, Mi.v_iseq3, Mi.v_iseq2, Mi.v_iseq1, Mi.v_iseq, Mi.v_ienum3, Mi.v_ienum2, Mi.v_ienum1, Mi.v_ienum, Mi.v_irg3, Mi.v_irg2, Mi.v_irg1, Mi.v_irg, Mi.v_rgTup3, Mi.v_rgTup2, Mi.v_rgTup1, Mi.v_rgTup, Mi.v_argsc2, Mi.v_argsc1, Mi.v_argsc, Mi.v_putc1, Mi.v_putc, Mi.v_takesc2, Mi.v_takesc1, Mi.v_takesc, Mi.v_contsc2, Mi.v_contsc1, Mi.v_contsc, Mi.v_backsI2, Mi.v_backsI1, Mi.v_backsI, Mi.v_ok, Mi.v_c, Mi.v_nil, Mi.v_next, Mi.v_yes, Mi.v_oN, Mi.v_gtup, Mi.v_var, Mi.v_for0, Mi.v_lc0, Mi.v_args0, Mi.v_put0, Mi.v_takes0, Mi.v_conts0, Mi.v_backs0, Mi.w_add, Mi.w_sub, Mi.w_neg, Mi.w_lt, Mi.w_le, Mi.w_gt, Mi.w_ge, Mi.w_intI, Mi.w_intB, Mi.w_abs, Mi.w_max, Mi.w_min, Mi.w_ix0, Mi.w_ix1, Mi.w_ix2, Mi.w_i0, Mi.w_i1, Mi.w_i2, Mi.pend, Mi.cont, Mi.take, Mi.frz, Mi.frzs, Mi.getP, Mi.setP, Mi.Res.of, Mi.boolOf, Mi.isPl, Mi.mutS, Mi.mutA, Mi.mutP, Mi.intOf, Mi.move, Mi.retOf, Mi.backs1, Mi.put1, Mi.fzT, Mi.ioOf, Mi.chk, Mi.early, Mi.shut, Mi.isTmp, Mi.flatB, Mi.scal, List.map_cons, List.map_nil, List.cons_append, List.nil_append, List.append_nil, List.replicate_succ, List.replicate_zero, List.replicate, List.length_cons, List.length_nil, List.getElem?_cons_zero, List.getElem?_cons_succ, List.set_cons_zero, List.set_cons_succ, List.all_cons, List.all_nil, List.contains_cons, List.contains_nil, List.elem_cons, List.elem_nil, List.isEmpty_nil, List.isEmpty_cons, Nat.reduceAdd, Nat.reduceSub, Nat.reduceBEq, Nat.reduceLT, Nat.reduceLeDiff, Nat.reduceEqDiff, decide_true, decide_false, Bool.and_true, Bool.true_and, Bool.or_true, Bool.true_or, Bool.or_false, Bool.false_or, Bool.and_false, Bool.false_and, Bool.not_true, Bool.not_false, Bool.false_eq_true, reduceIte, ite_true, ite_false, beq_self_eq_true, Nat.zero_add, reduceCtorEq, and_self, true_and, and_true, ge_iff_le, gt_iff_lt, Nat.succ_eq_add_one, Nat.add_one_sub_one, Nat.zero_lt_succ, Nat.lt_add_left_iff_pos, Mi.wipeE, Mi.restE, Mi.pick, List.filterMap_cons, List.filterMap_nil, lst_tup, frzs_cw, e1]
  have m1 : mutA 9 [] (.fz (.int b)) [some (bx β), tn, tm, some (.fz (.tup (gs.map D.int))), some (.fz (.int lo)), some (.fz (.int hi)), some (.fz (.int s)), o7, o8, some (.lst [.fz (.int u)]), none] = .ok _ := mutA_ok rfl one
  have a0 : cVar 9 [some (bx β), tn, tm, some (.fz (.tup (gs.map D.int))), some (.fz (.int lo)), some (.fz (.int hi)), some (.fz (.int s)), o7, o8, some (.lst [.fz (.int u)]), none] = .ok (.bor 9 [], [some (bx β), tn, tm, some (.fz (.tup (gs.map D.int))), some (.fz (.int lo)), some (.fz (.int hi)), some (.fz (.int s)), o7, o8, some (.lst [.fz (.int u)]), none]) := rfl
  have a1 : isPl (.bor 9 []) [some (bx β), tn, tm, some (.fz (.tup (gs.map D.int))), some (.fz (.int lo)), some (.fz (.int hi)), some (.fz (.int s)), o7, o8, some (.lst [.fz (.int u)]), none] = .ok (9, []) := rfl
  have a2 : pend true (.bor 9 []) = .ok () := rfl
  have a3 : chk (([] : List Nat).isEmpty || isTmp (.tmp (.fz (.int b)))) = .ok () := rfl
  have a4 : take (.tmp (.fz (.int b))) [some (bx β), tn, tm, some (.fz (.tup (gs.map D.int))), some (.fz (.int lo)), some (.fz (.int hi)), some (.fz (.int s)), o7, o8, some (.lst [.fz (.int u)]), none] = .ok (.fz (.int b), [some (bx β), tn, tm, some (.fz (.tup (gs.map D.int))), some (.fz (.int lo)), some (.fz (.int hi)), some (.fz (.int s)), o7, o8, some (.lst [.fz (.int u)]), none]) := rfl
  rw [Mi.v_drop, Mi.v_app, a0, Mi.v_ok, Mi.v_app1, a1, Mi.v_ok, Mi.v_app2, a2, Mi.v_ok, Mi.v_app3, h1, Mi.v_ok, Mi.v_app4, a3, Mi.v_ok, Mi.v_app5, a4, Mi.v_ok, Mi.v_app6, m1, Mi.v_ok, Mi.v_app7, Mi.v_ok, Mi.v_drop1]
  rfl
theorem n_11 : cIfS (cNotT (cTest (cCallV (F_law_same 40) (cCons false (cLst false (cCons true (cVar 8) (cCons true (cVar 9) cNil))) (cCons true (cLst false (cCons true (cVar 7) (cCons true (cVar 7) cNil))) cNil))))) (cRet (cC (.bl false))) cNext [some (bx β), tn, tm, some (.fz (.tup (gs.map D.int))), some (.fz (.int lo)), some (.fz (.int hi)), some (.fz (.int s)), some (.lst [.fz (.int t), .fz (.int b)]), some (.lst [.fz (.int t), .fz (.int b)]), some (.lst [.fz (.int t), .fz (.int b)]), none] = .ok (.nx, [some (bx β), tn, tm, some (.fz (.tup (gs.map D.int))), some (.fz (.int lo)), some (.fz (.int hi)), some (.fz (.int s)), some (.fz (.lst [.int t, .int b])), some (.fz (.lst [.int t, .int b])), some (.fz (.lst [.int t, .int b])), none]) := by
  obtain ⟨bk, e⟩ := same_got t b
  generalize F_law_same 40 = F at *
  have a1 : cLst false (cCons true (cVar 8) (cCons true (cVar 9) cNil)) [some (bx β), tn, tm, some (.fz (.tup (gs.map D.int))), some (.fz (.int lo)), some (.fz (.int hi)), some (.fz (.int s)), some (.lst [.fz (.int t), .fz (.int b)]), some (.lst [.fz (.int t), .fz (.int b)]), some (.lst [.fz (.int t), .fz (.int b)]), none] = .ok (.tmp (.lst [.fz (.lst [.int t, .int b]), .fz (.lst [.int t, .int b])]), [some (bx β), tn, tm, some (.fz (.tup (gs.map D.int))), some (.fz (.int lo)), some (.fz (.int hi)), some (.fz (.int s)), some (.lst [.fz (.int t), .fz (.int b)]), some (.fz (.lst [.int t, .int b])), some (.fz (.lst [.int t, .int b])), none]) := lstv rfl rfl rfl two
  have a2 : cLst false (cCons true (cVar 7) (cCons true (cVar 7) cNil)) [some (bx β), tn, tm, some (.fz (.tup (gs.map D.int))), some (.fz (.int lo)), some (.fz (.int hi)), some (.fz (.int s)), some (.lst [.fz (.int t), .fz (.int b)]), some (.fz (.lst [.int t, .int b])), some (.fz (.lst [.int t, .int b])), none] = .ok (.tmp (.lst [.fz (.lst [.int t, .int b]), .fz (.lst [.int t, .int b])]), [some (bx β), tn, tm, some (.fz (.tup (gs.map D.int))), some (.fz (.int lo)), some (.fz (.int hi)), some (.fz (.int s)), some (.fz (.lst [.int t, .int b])), some (.fz (.lst [.int t, .int b])), some (.fz (.lst [.int t, .int b])), none]) := lstv rfl rfl rfl two
  rw [Mi.v_ifS, Mi.v_notT, Mi.v_test, Mi.v_callV, Mi.v_cons, a1]
  simp only [Mi.v_bin6, Mi.v_bin5, Mi.v_bin4, Mi.v_bin3, Mi.v_bin2, Mi.v_bin1, Mi.v_bin, Mi.v_un3, Mi.v_un2, Mi.v_un1, Mi.v_un, Mi.v_test2, Mi.v_test1, Mi.v_test, Mi.v_cons3, Mi.v_cons2, Mi.v_cons1, Mi.v_cons, Mi.v_star4, Mi.v_star3, Mi.v_star2, Mi.v_star1, Mi.v_star, Mi.v_tup4, Mi.v_tup3, Mi.v_tup2, Mi.v_tup1, Mi.v_lst4, Mi.v_lst3, Mi.v_lst2, Mi.v_lst1, Mi.v_callB3, Mi.v_callB2, Mi.v_callB1, Mi.v_callB, Mi.v_andT1, Mi.v_andT, Mi.v_orT1, Mi.v_orT, Mi.v_notT1, Mi.v_notT, Mi.v_and2, Mi.v_and1, Mi.v_and, Mi.v_or2, Mi.v_or1, Mi.v_or, Mi.v_not2, Mi.v_not1, Mi.v_not, Mi.v_if1, Mi.v_if, Mi.v_orL1, Mi.v_orL, Mi.v_seq1, Mi.v_seq, Mi.v_ifS1, Mi.v_ifS, Mi.v_ret2, Mi.v_ret1, Mi.v_ret, Mi.v_drop1, Mi.v_drop, Mi.v_asg3, Mi.v_asg2, Mi.v_asg1, Mi.v_asg, Mi.v_gset1, Mi.v_gset, Mi.v_gsub5, Mi.v_gsub4, Mi.v_gsub3, Mi.v_gsub2, Mi.v_gsub1, Mi.v_gsub, Mi.v_gsc1, Mi.v_gsc, Mi.v_gsn1, Mi.v_gsn, Mi.v_for1, Mi.v_for, Mi.v_forc2, Mi.v_forc1, Mi.v_forc, Mi.v_lcc2, Mi.v_lcc1, Mi.v_lcc, Mi.v_lcT3, Mi.v_lcT2, Mi.v_lcT1, Mi.v_lcT, Mi.v_lc4, Mi.v_lc3, Mi.v_lc2, Mi.v_lc1, Mi.v_def4, Mi.v_def3, Mi.v_def2, Mi.v_def1, Mi.v_def, Mi.v_callV4, Mi.v_callV3, Mi.v_callV2, Mi.v_callV1, Mi.v_callV, Mi.v_callP4, Mi.v_callP3, Mi.v_callP2, Mi.v_callP1, Mi.v_callP, Mi.v_callKV5, Mi.v_callKV4, Mi.v_callKV3, Mi.v_callKV2, Mi.v_callKV1, Mi.v_callKV, Mi.v_callKP5, Mi.v_callKP4, Mi.v_callKP3, Mi.v_callKP2, Mi.v_callKP1, Mi.v_callKP, Mi.v_callIO5, Mi.v_callIO4, Mi.v_callIO3, Mi.v_callIO2, Mi.v_callIO1, Mi.v_callIO, Mi.v_app7, Mi.v_app6, Mi.v_app5, Mi.v_app4, Mi.v_app3, Mi.v_app2, Mi.v_app1, Mi.v_app, Mi.v_sl6, Mi.v_sl5, Mi.v_sl4, Mi.v_sl3, Mi.v_sl2, Mi.v_sl1, Mi.v_sl, Mi.v_oS2, Mi.v_oS1, Mi.v_oS, Mi.v_iseq3, Mi.v_iseq2, Mi.v_iseq1, Mi.v_iseq, Mi.v_ienum3, Mi.v_ienum2, Mi.v_ienum1, Mi.v_ienum, Mi.v_irg3, Mi.v_irg2, Mi.v_irg1, Mi.v_irg, Mi.v_rgTup3, Mi.v_rgTup2, Mi.v_rgTup1, Mi.v_rgTup, Mi.v_argsc2, Mi.v_argsc1, Mi.v_argsc, Mi.v_putc1, Mi.v_putc, Mi.v_takesc2, Mi.v_takesc1, Mi.v_takesc, Mi.v_contsc2, Mi.v_contsc1, Mi.v_contsc, Mi.v_backsI2, Mi.v_backsI1, Mi.v_backsI, Mi.v_ok, Mi.v_c, Mi.v_nil, Mi.v_next, Mi.v_yes, Mi.v_oN, Mi.v_gtup, Mi.v_var, Mi.v_for0, Mi.v_lc0, Mi.v_args0, Mi.v_put0, Mi.v_takes0, Mi.v_conts0, Mi.v_backs0, Mi.w_add, Mi.w_sub, Mi.w_neg, Mi.w_lt, Mi.w_le, Mi.w_gt, Mi.w_ge, Mi.w_intI, Mi.w_intB, Mi.w_abs, Mi.w_max, Mi.w_min, Mi.w_ix0, Mi.w_ix1, Mi.w_ix2, Mi.w_i0, Mi.w_i1, Mi.w_i2, Mi.pend, Mi.cont, Mi.take, Mi.frz, Mi.frzs, Mi.getP, Mi.setP, Mi.Res.of, Mi.boolOf, Mi.isPl, Mi.mutS, Mi.mutA, Mi.mutP, Mi.intOf, Mi.move, Mi.retOf, Mi.backs1, Mi.put1, Mi.fzT, Mi.ioOf, Mi.chk, Mi.early, Mi.shut, Mi.isTmp, Mi.flatB, Mi.scal, List.map_cons, List.map_nil, List.cons_append, List.nil_append, List.append_nil, List.replicate_succ, List.replicate_zero, List.replicate, List.length_cons, List.length_nil, List.getElem?_cons_zero, List.getElem?_cons_succ, List.set_cons_zero, List.set_cons_succ, List.all_cons, List.all_nil, List.contains_cons, List.contains_nil, List.elem_cons, List.elem_nil, List.isEmpty_nil, List.isEmpty_cons, Nat.reduceAdd, Nat.reduceSub, Nat.reduceBEq, Nat.reduceLT, Nat.reduceLeDiff, Nat.reduceEqDiff, decide_true, decide_false, Bool.and_true, Bool.true_and, Bool.or_true, Bool.true_or, Bool.or_false, Bool.false_or, Bool.and_false, Bool.false_and, Bool.not_true, Bool.not_false, Bool.false_eq_true, reduceIte, ite_true, ite_false, beq_self_eq_true, Nat.zero_add, reduceCtorEq, and_self, true_and, and_true, ge_iff_le, gt_iff_lt, Nat.succ_eq_add_one, Nat.add_one_sub_one, Nat.zero_lt_succ, Nat.lt_add_left_iff_pos, Mi.wipeE, Mi.restE, Mi.pick, List.filterMap_cons, List.filterMap_nil, a2, e]
end
end Gn
namespace Gn
open Mi PySem PySem.Spec PyProof.Rows L2
abbrev bodyN : CS := (cSeq
  (cAsg (gSet 7) (cCallP false F_law_ends (cCons true (cVar 3) (cCons true (cVar 4) (cCons true (cVar 5) (cCons true (cVar 6) cNil))))))
  (cSeq
  (cAsg (gSet 8) (cLst true (cCons true (cCallV Fhighest_held (cCons true (cVar 3) (cCons true (cVar 4) (cCons true (cVar 5) (cCons true (cVar 6) cNil))))) (cCons true (cCallV Flowest_held (cCons true (cVar 3) (cCons true (cVar 4) (cCons true (cVar 5) (cCons true (cVar 6) cNil))))) cNil))))
  (cSeq
  (cAsg (gSet 9) (cLst true (cCons true (cCallKV Fhighest_held [3, 2, 1, 0] 4 (cCons true (cVar 6) (cCons true (cVar 5) (cCons true (cVar 4) (cCons true (cCallB fList (cCons true (cVar 3) cNil)) cNil))))) cNil)))
  (cSeq
  (cDrop (cApp true (cVar 9) (cCallKV Flowest_held [3, 2, 1, 0] 4 (cCons true (cVar 6) (cCons true (cVar 5) (cCons true (cVar 4) (cCons true (cCallB fList (cCons true (cVar 3) cNil)) cNil)))))))
  (cIfS (cNotT (cTest (cCallV (F_law_same 40) (cCons false (cLst false (cCons true (cVar 8) (cCons true (cVar 9) cNil))) (cCons true (cLst false (cCons true (cVar 7) (cCons true (cVar 7) cNil))) cNil))))) (cRet (cC (.bl false))) cNext)))))
section
variable {β : Bx} {tn tm : Option W} {gs : List Int} {lo hi : Int}
theorem near_ok {s : Int} {o7 o8 o9 : Option W} (hn : gs.length ≤ 5) (h1 : lo ≤ s) (h2 : s ≤ hi) : ∃ x y z : Option W, bodyN [some (bx β), tn, tm, some (.fz (.tup (gs.map D.int))), some (.fz (.int lo)), some (.fz (.int hi)), some (.fz (.int s)), o7, o8, o9, none] = .ok (.nx, [some (bx β), tn, tm, some (.fz (.tup (gs.map D.int))), some (.fz (.int lo)), some (.fz (.int hi)), some (.fz (.int s)), x, y, z, none]) :=
  ⟨_, _, _, (seqN (n_7 hn h1 h2)).trans ((seqN (n_8 hn)).trans ((seqN (n_9 hn)).trans ((seqN (n_10 hn)).trans n_11)))⟩
theorem near_loop (hn : gs.length ≤ 5) : ∀ (ss : List Int) (o6 o7 o8 o9 : Option W), (∀ s ∈ ss, lo ≤ s ∧ s ≤ hi) → ∃ v x y z : Option W, forL (gSet 6) bodyN (ss.map D.int) [some (bx β), tn, tm, some (.fz (.tup (gs.map D.int))), some (.fz (.int lo)), some (.fz (.int hi)), o6, o7, o8, o9, none] = .ok (.nx, [some (bx β), tn, tm, some (.fz (.tup (gs.map D.int))), some (.fz (.int lo)), some (.fz (.int hi)), v, x, y, z, none])
  | [], o6, o7, o8, o9, _ => ⟨o6, o7, o8, o9, rfl⟩
  | s :: ss, o6, o7, o8, o9, h => by
    obtain ⟨x, y, z, e⟩ := near_ok (β := β) (tn := tn) (tm := tm) (gs := gs) (lo := lo) (hi := hi) (s := s) (o7 := o7) (o8 := o8) (o9 := o9) hn (h s (by simp)).1 (h s (by simp)).2
    obtain ⟨v', x', y', z', e'⟩ := near_loop hn ss (some (.fz (.int s))) x y z (fun q hq => h q (by simp [hq]))
    refine ⟨v', x', y', z', ?_⟩
    generalize bodyN = bd at *
    have g : gSet 6 (.fz (.int s)) [some (bx β), tn, tm, some (.fz (.tup (gs.map D.int))), some (.fz (.int lo)), some (.fz (.int hi)), o6, o7, o8, o9, none] = .ok [some (bx β), tn, tm, some (.fz (.tup (gs.map D.int))), some (.fz (.int lo)), some (.fz (.int hi)), some (.fz (.int s)), o7, o8, o9, none] := rfl
    rw [List.map_cons, Mi.v_forc, g, Mi.v_ok, Mi.v_forc1, e, Mi.v_ok, Mi.v_forc2]
    exact e'
end
/-! ### the draws -/
theorem callTake {β β' : Bx} {n r : Int} {ρ : En} {cn : CE} (te : F_law_take [bx β, .fz (.int n)] = .ok (.fz (.int r), [bx β', .fz (.int n)])) (hn : cn (some (bx β) :: ρ) = .ok (.tmp (.fz (.int n)), some (bx β) :: ρ)) :
    cCallIO F_law_take (ioOf [0]) (cCons true (cVar 0) (cCons true cn cNil)) (some (bx β) :: ρ) = .ok (.tmp (.fz (.int r)), some (bx β') :: ρ) := by
  generalize F_law_take = F at *
  simp only [Mi.v_bin6, Mi.v_bin5, Mi.v_bin4, Mi.v_bin3, Mi.v_bin2, Mi.v_bin1, Mi.v_bin, Mi.v_un3, Mi.v_un2, Mi.v_un1, Mi.v_un, Mi.v_test2, Mi.v_test1, Mi.v_test, Mi.v_cons3, Mi.v_cons2, Mi.v_cons1, Mi.v_cons, Mi.v_star4, Mi.v_star3, Mi.v_star2, Mi.v_star1, Mi.v_star, Mi.v_tup4, Mi.v_tup3, Mi.v_tup2, Mi.v_tup1, Mi.v_lst4, Mi.v_lst3, Mi.v_lst2, Mi.v_lst1, Mi.v_callB3, Mi.v_callB2, Mi.v_callB1, Mi.v_callB, Mi.v_andT1, Mi.v_andT, Mi.v_orT1, Mi.v_orT, Mi.v_notT1, Mi.v_notT, Mi.v_and2, Mi.v_and1, Mi.v_and, Mi.v_or2, Mi.v_or1, Mi.v_or, Mi.v_not2, Mi.v_not1, Mi.v_not, Mi.v_if1, Mi.v_if, Mi.v_orL1, Mi.v_orL, Mi.v_seq1, Mi.v_seq, Mi.v_ifS1, Mi.v_ifS, Mi.v_ret2, Mi.v_ret1, Mi.v_ret, Mi.v_drop1, Mi.v_drop, Mi.v_asg3, Mi.v_asg2, Mi.v_asg1, Mi.v_asg, Mi.v_gset1, Mi.v_gset, Mi.v_gsub5, Mi.v_gsub4, Mi.v_gsub3, Mi.v_gsub2, Mi.v_gsub1, Mi.v_gsub, Mi.v_gsc1, Mi.v_gsc, Mi.v_gsn1, Mi.v_gsn, Mi.v_for1, Mi.v_for, Mi.v_forc2, Mi.v_forc1, Mi.v_forc, Mi.v_lcc2, Mi.v_lcc1, Mi.v_lcc, Mi.v_lcT3, Mi.v_lcT2, Mi.v_lcT1, Mi.v_lcT, Mi.v_lc4, Mi.v_lc3, Mi.v_lc2, Mi.v_lc1, Mi.v_def4, Mi.v_def3, Mi.v_def2, Mi.v_def1, Mi.v_def, Mi.v_callV4, Mi.v_callV3, Mi.v_callV2, Mi.v_callV1, Mi.v_callV, Mi.v_callP4, Mi.v_callP3, Mi.v_callP2, Mi.v_callP1, Mi.v_callP, Mi.v_callKV5, Mi.v_callKV4, Mi.v_callKV3, Mi.v_callKV2, Mi.v_callKV1, Mi.v_callKV, Mi.v_callKP5, Mi.v_callKP4, Mi.v_callKP3, Mi.v_callKP2, Mi.v_callKP1, Mi.v_callKP, Mi.v_callIO5, Mi.v_callIO4, Mi.v_callIO3, Mi.v_callIO2, Mi.v_callIO1, Mi.v_callIO, Mi.v_app7, Mi.v_app6, Mi.v_app5, Mi.v_app4, Mi.v_app3, Mi.v_app2, Mi.v_app1, Mi.v_app, Mi.v_sl6, Mi.v_sl5, Mi.v_sl4, Mi.v_sl3, Mi.v_sl2, Mi.v_sl1, Mi.v_sl, Mi.v_oS2, Mi.v_oS1, Mi.v_oS, Mi.v_iseq3, Mi.v_iseq2, Mi.v_iseq1, Mi.v_iseq, Mi.v_ienum3, Mi.v_ienum2, Mi.v_ienum1, Mi.v_ienum, Mi.v_irg3, Mi.v_irg2, Mi.v_irg1, Mi.v_irg, Mi.v_rgTup3, Mi.v_rgTup2, Mi.v_rgTup1, Mi.v_rgTup, Mi.v_argsc2, Mi.v_argsc1, Mi.v_argsc, Mi.v_putc1, Mi.v_putc, Mi.v_takesc2, Mi.v_takesc1, Mi.v_takesc, Mi.v_contsc2, Mi.v_contsc1, Mi.v_contsc, Mi.v_backsI2, Mi.v_backsI1, Mi.v_backsI, Mi.v_ok, Mi.v_c, Mi.v_nil, Mi.v_next, Mi.v_yes, Mi.v_oN, Mi.v_gtup, Mi.v_var, Mi.v_for0, Mi.v_lc0, Mi.v_args0, Mi.v_put0, Mi.v_takes0, Mi.v_conts0, Mi.v_backs0, Mi.w_add, Mi.w_sub, Mi.w_neg, Mi.w_lt, Mi.w_le, Mi.w_gt, Mi.w_ge, Mi.w_intI, Mi.w_intB, Mi.w_abs, Mi.w_max, Mi.w_min, Mi.w_ix0, Mi.w_ix1, Mi.w_ix2, Mi.w_i0, Mi.w_i1, Mi.w_i2, Mi.pend, Mi.cont, Mi.take, Mi.frz, Mi.frzs, Mi.getP, Mi.setP, Mi.Res.of, Mi.boolOf, Mi.isPl, Mi.mutS, Mi.mutA, Mi.mutP, Mi.intOf, Mi.move, Mi.retOf, Mi.backs1, Mi.put1, Mi.fzT, Mi.ioOf, Mi.chk, Mi.early, Mi.shut, Mi.isTmp, Mi.flatB, Mi.scal, List.map_cons, List.map_nil, List.cons_append, List.nil_append, List.append_nil, List.replicate_succ, List.replicate_zero, List.replicate, List.length_cons, List.length_nil, List.getElem?_cons_zero, List.getElem?_cons_succ, List.set_cons_zero, List.set_cons_succ, List.all_cons, List.all_nil, List.contains_cons, List.contains_nil, List.elem_cons, List.elem_nil, List.isEmpty_nil, List.isEmpty_cons, Nat.reduceAdd, Nat.reduceSub, Nat.reduceBEq, Nat.reduceLT, Nat.reduceLeDiff, Nat.reduceEqDiff, decide_true, decide_false, Bool.and_true, Bool.true_and, Bool.or_true, Bool.true_or, Bool.or_false, Bool.false_or, Bool.and_false, Bool.false_and, Bool.not_true, Bool.not_false, Bool.false_eq_true, reduceIte, ite_true, ite_false, beq_self_eq_true, Nat.zero_add, reduceCtorEq, and_self, true_and, and_true, ge_iff_le, gt_iff_lt, Nat.succ_eq_add_one, Nat.add_one_sub_one, Nat.zero_lt_succ, Nat.lt_add_left_iff_pos, Mi.wipeE, Mi.restE, Mi.pick, List.filterMap_cons, List.filterMap_nil, hn, te]
theorem of_ok {m : Nat} {β : Bx} (g : Gd (m + 1) β) : ∃ (r : Int) (β' : Bx), (r = 1 ∨ r = 100000000000000000000000000000) ∧ Gd m β' ∧ F_law_of [bx β, .fz (.lst [.int 1, .int 1, .int 100000000000000000000000000000])] = .ok (.fz (.int r), [bx β', .fz (.lst [.int 1, .int 1, .int 100000000000000000000000000000])]) := by
  obtain ⟨r0, β', h0, h1, g', te⟩ := take_ok (n := 3) g (by decide) (by decide)
  have l3 : fLen [.fz (.lst [.int 1, .int 1, .int 100000000000000000000000000000])] = .ok (.fz (.int 3)) := rfl
  have ix : ∃ r : Int, (r = 1 ∨ r = 100000000000000000000000000000) ∧ fIdx (.fz (.lst [.int 1, .int 1, .int 100000000000000000000000000000])) (.fz (.int r0)) = .ok (.fz (.int r)) := by
    have : r0 = 0 ∨ r0 = 1 ∨ r0 = 2 := by omega
    rcases this with z | z | z <;> subst z
    · exact ⟨1, .inl rfl, rfl⟩
    · exact ⟨1, .inl rfl, rfl⟩
    · exact ⟨_, .inr rfl, rfl⟩
  obtain ⟨r, hr, ix⟩ := ix
  refine ⟨r, β', hr, g', ?_⟩
  have c1 := callTake (ρ := [some (.fz (.lst [.int 1, .int 1, .int 100000000000000000000000000000]))]) (cn := cCallB fLen (cCons true (cVar 1) cNil)) te (by simp only [Mi.v_bin6, Mi.v_bin5, Mi.v_bin4, Mi.v_bin3, Mi.v_bin2, Mi.v_bin1, Mi.v_bin, Mi.v_un3, Mi.v_un2, Mi.v_un1, Mi.v_un, Mi.v_test2, Mi.v_test1, Mi.v_test, Mi.v_cons3, Mi.v_cons2, Mi.v_cons1, Mi.v_cons, Mi.v_star4, Mi.v_star3, Mi.v_star2, Mi.v_star1, Mi.v_star, Mi.v_tup4, Mi.v_tup3, Mi.v_tup2, Mi.v_tup1, Mi.v_lst4, Mi.v_lst3, Mi.v_lst2, Mi.v_lst1, Mi.v_callB3, Mi.v_callB2, Mi.v_callB1, Mi.v_callB, Mi.v_andT1, Mi.v_andT, Mi.v_orT1, Mi.v_orT, Mi.v_notT1, Mi.v_notT, Mi.v_and2, Mi.v_and1, Mi.v_and, Mi.v_or2, Mi.v_or1, Mi.v_or, Mi.v_not2, Mi.v_not1, Mi.v_not, Mi.v_if1, Mi.v_if, Mi.v_orL1, Mi.v_orL, Mi.v_seq1, Mi.v_seq, Mi.v_ifS1, Mi.v_ifS, Mi.v_ret2, Mi.v_ret1, Mi.v_ret, Mi.v_drop1, Mi.v_drop, Mi.v_asg3, Mi.v_asg2, Mi.v_asg1, Mi.v_asg, Mi.v_gset1, Mi.v_gset, Mi.v_gsub5, Mi.v_gsub4, Mi.v_gsub3, Mi.v_gsub2, Mi.v_gsub1, Mi.v_gsub, Mi.v_gsc1, Mi.v_gsc, Mi.v_gsn1, Mi.v_gsn, Mi.v_for1, Mi.v_for, Mi.v_forc2, Mi.v_forc1, Mi.v_forc, Mi.v_lcc2, Mi.v_lcc1, Mi.v_lcc, Mi.v_lcT3, Mi.v_lcT2, Mi.v_lcT1, Mi.v_lcT, Mi.v_lc4, Mi.v_lc3, Mi.v_lc2, Mi.v_lc1, Mi.v_def4, Mi.v_def3, Mi.v_def2, Mi.v_def1, Mi.v_def, Mi.v_callV4, Mi.v_callV3, Mi.v_callV2, Mi.v_callV1, Mi.v_callV, Mi.v_callP4, Mi.v_callP3, Mi.v_callP2, Mi.v_callP1, Mi.v_callP, Mi.v_callKV5, Mi.v_callKV4, Mi.v_callKV3, Mi.v_callKV2, Mi.v_callKV1, Mi.v_callKV, Mi.v_callKP5, Mi.v_callKP4, Mi.v_callKP3, Mi.v_callKP2, Mi.v_callKP1, Mi.v_callKP, Mi.v_callIO5, Mi.v_callIO4, Mi.v_callIO3, Mi.v_callIO2, Mi.v_callIO1, Mi.v_callIO, Mi.v_app7, Mi.v_app6, Mi.v_app5, Mi.v_app4, Mi.v_app3, Mi.v_app2, Mi.v_app1, Mi.v_app, Mi.v_sl6, Mi.v_sl5, Mi.v_sl4, Mi.v_sl3, Mi.v_sl2, Mi.v_sl1, Mi.v_sl, Mi.v_oS2, Mi.v_oS1, Mi.v_oS, Mi.v_iseq3, Mi.v_iseq2, Mi.v_iseq1, Mi.v_iseq, Mi.v_ienum3, Mi.v_ienum2, Mi.v_ienum1, Mi.v_ienum, Mi.v_irg3, Mi.v_irg2, Mi.v_irg1, Mi.v_irg, Mi.v_rgTup3, Mi.v_rgTup2, Mi.v_rgTup1, Mi.v_rgTup, Mi.v_argsc2, Mi.v_argsc1, Mi.v_argsc, Mi.v_putc1, Mi.v_putc, Mi.v_takesc2, Mi.v_takesc1, Mi.v_takesc, Mi.v_contsc2, Mi.v_contsc1, Mi.v_contsc, Mi.v_backsI2, Mi.v_backsI1, Mi.v_backsI, Mi.v_ok, Mi.v_c, Mi.v_nil, Mi.v_next, Mi.v_yes, Mi.v_oN, Mi.v_gtup, Mi.v_var, Mi.v_for0, Mi.v_lc0, Mi.v_args0, Mi.v_put0, Mi.v_takes0, Mi.v_conts0, Mi.v_backs0, Mi.w_add, Mi.w_sub, Mi.w_neg, Mi.w_lt, Mi.w_le, Mi.w_gt, Mi.w_ge, Mi.w_intI, Mi.w_intB, Mi.w_abs, Mi.w_max, Mi.w_min, Mi.w_ix0, Mi.w_ix1, Mi.w_ix2, Mi.w_i0, Mi.w_i1, Mi.w_i2, Mi.pend, Mi.cont, Mi.take, Mi.frz, Mi.frzs, Mi.getP, Mi.setP, Mi.Res.of, Mi.boolOf, Mi.isPl, Mi.mutS, Mi.mutA, Mi.mutP, Mi.intOf, Mi.move, Mi.retOf, Mi.backs1, Mi.put1, Mi.fzT, Mi.ioOf, Mi.chk, Mi.early, Mi.shut, Mi.isTmp, Mi.flatB, Mi.scal, List.map_cons, List.map_nil, List.cons_append, List.nil_append, List.append_nil, List.replicate_succ, List.replicate_zero, List.replicate, List.length_cons, List.length_nil, List.getElem?_cons_zero, List.getElem?_cons_succ, List.set_cons_zero, List.set_cons_succ, List.all_cons, List.all_nil, List.contains_cons, List.contains_nil, List.elem_cons, List.elem_nil, List.isEmpty_nil, List.isEmpty_cons, Nat.reduceAdd, Nat.reduceSub, Nat.reduceBEq, Nat.reduceLT, Nat.reduceLeDiff, Nat.reduceEqDiff, decide_true, decide_false, Bool.and_true, Bool.true_and, Bool.or_true, Bool.true_or, Bool.or_false, Bool.false_or, Bool.and_false, Bool.false_and, Bool.not_true, Bool.not_false, Bool.false_eq_true, reduceIte, ite_true, ite_false, beq_self_eq_true, Nat.zero_add, reduceCtorEq, and_self, true_and, and_true, ge_iff_le, gt_iff_lt, Nat.succ_eq_add_one, Nat.add_one_sub_one, Nat.zero_lt_succ, Nat.lt_add_left_iff_pos, Mi.wipeE, Mi.restE, Mi.pick, List.filterMap_cons, List.filterMap_nil, l3])
  have c : m_law_of [some (bx β), some (.fz (.lst [.int 1, .int 1, .int 100000000000000000000000000000]))] = .ok (.ret (.fz (.int r)), [some (bx β'), some (.fz (.lst [.int 1, .int 1, .int 100000000000000000000000000000]))]) := by
    simp only [m_law_of, Mi.v_bin6, Mi.v_bin5, Mi.v_bin4, Mi.v_bin3, Mi.v_bin2, Mi.v_bin1, Mi.v_bin, Mi.v_un3, Mi.v_un2, Mi.v_un1, Mi.v_un, Mi.v_test2, Mi.v_test1, Mi.v_test, Mi.v_cons3, Mi.v_cons2, Mi.v_cons1, Mi.v_cons, Mi.v_star4, Mi.v_star3, Mi.v_star2, Mi.v_star1, Mi.v_star, Mi.v_tup4, Mi.v_tup3, Mi.v_tup2, Mi.v_tup1, Mi.v_lst4, Mi.v_lst3, Mi.v_lst2, Mi.v_lst1, Mi.v_callB3, Mi.v_callB2, Mi.v_callB1, Mi.v_callB, Mi.v_andT1, Mi.v_andT, Mi.v_orT1, Mi.v_orT, Mi.v_notT1, Mi.v_notT, Mi.v_and2, Mi.v_and1, Mi.v_and, Mi.v_or2, Mi.v_or1, Mi.v_or, Mi.v_not2, Mi.v_not1, Mi.v_not, Mi.v_if1, Mi.v_if, Mi.v_orL1, Mi.v_orL, Mi.v_seq1, Mi.v_seq, Mi.v_ifS1, Mi.v_ifS, Mi.v_ret2, Mi.v_ret1, Mi.v_ret, Mi.v_drop1, Mi.v_drop, Mi.v_asg3, Mi.v_asg2, Mi.v_asg1, Mi.v_asg, Mi.v_gset1, Mi.v_gset, Mi.v_gsub5, Mi.v_gsub4, Mi.v_gsub3, Mi.v_gsub2, Mi.v_gsub1, Mi.v_gsub, Mi.v_gsc1, Mi.v_gsc, Mi.v_gsn1, Mi.v_gsn, Mi.v_for1, Mi.v_for, Mi.v_forc2, Mi.v_forc1, Mi.v_forc, Mi.v_lcc2, Mi.v_lcc1, Mi.v_lcc, Mi.v_lcT3, Mi.v_lcT2, Mi.v_lcT1, Mi.v_lcT, Mi.v_lc4, Mi.v_lc3, Mi.v_lc2, Mi.v_lc1, Mi.v_def4, Mi.v_def3, Mi.v_def2, Mi.v_def1, Mi.v_def, Mi.v_callV4, Mi.v_callV3, Mi.v_callV2, Mi.v_callV1, Mi.v_callV, Mi.v_callP4, Mi.v_callP3, Mi.v_callP2, Mi.v_callP1, Mi.v_callP, Mi.v_callKV5, Mi.v_callKV4, Mi.v_callKV3, Mi.v_callKV2, Mi.v_callKV1, Mi.v_callKV, Mi.v_callKP5, Mi.v_callKP4, Mi.v_callKP3, Mi.v_callKP2, Mi.v_callKP1, Mi.v_callKP, Mi.v_callIO5, Mi.v_callIO4, Mi.v_callIO3, Mi.v_callIO2, Mi.v_callIO1, Mi.v_app7, Mi.v_app6, Mi.v_app5, Mi.v_app4, Mi.v_app3, Mi.v_app2, Mi.v_app1, Mi.v_app, Mi.v_sl6, Mi.v_sl5, Mi.v_sl4, Mi.v_sl3, Mi.v_sl2, Mi.v_sl1, Mi.v_sl, Mi.v_oS2, Mi.v_oS1, Mi.v_oS, Mi.v_iseq3, Mi.v_iseq2, Mi.v_iseq1, Mi.v_iseq, Mi.v_ienum3, Mi.v_ienum2, Mi.v_ienum1, Mi.v_ienum, Mi.v_irg3, Mi.v_irg2, Mi.v_irg1, Mi.v_irg, Mi.v_rgTup3, Mi.v_rgTup2, Mi.v_rgTup1, Mi.v_rgTup, Mi.v_argsc2, Mi.v_argsc1, Mi.v_argsc, Mi.v_putc1, Mi.v_putc, Mi.v_takesc2, Mi.v_takesc1, Mi.v_takesc, Mi.v_contsc2, Mi.v_contsc1, Mi.v_contsc, Mi.v_backsI2, Mi.v_backsI1, Mi.v_backsI, Mi.v_ok, Mi.v_c, Mi.v_nil, Mi.v_next, Mi.v_yes, Mi.v_oN, Mi.v_gtup, Mi.v_var, Mi.v_for0, Mi.v_lc0, Mi.v_args0, Mi.v_put0, Mi.v_takes0, Mi.v_conts0, Mi.v_backs0, Mi.w_add, Mi.w_sub, Mi.w_neg, Mi.w_lt, Mi.w_le, Mi.w_gt, Mi.w_ge, Mi.w_intI, Mi.w_intB, Mi.w_abs, Mi.w_max, Mi.w_min, Mi.w_ix0, Mi.w_ix1, Mi.w_ix2, Mi.w_i0, Mi.w_i1, Mi.w_i2, Mi.pend, Mi.cont, Mi.take, Mi.frz, Mi.frzs, Mi.getP, Mi.setP, Mi.Res.of, Mi.boolOf, Mi.isPl, Mi.mutS, Mi.mutP, Mi.intOf, Mi.move, Mi.retOf, Mi.backs1, Mi.put1, Mi.fzT, Mi.ioOf, Mi.chk, Mi.early, Mi.shut, Mi.isTmp, Mi.flatB, Mi.scal, List.map_cons, List.map_nil, List.cons_append, List.nil_append, List.append_nil, List.replicate_succ, List.replicate_zero, List.replicate, List.length_cons, List.length_nil, List.getElem?_cons_zero, List.getElem?_cons_succ, List.set_cons_zero, List.set_cons_succ, List.all_cons, List.all_nil, List.contains_cons, List.contains_nil, List.elem_cons, List.elem_nil, List.isEmpty_nil, List.isEmpty_cons, Nat.reduceAdd, Nat.reduceSub, Nat.reduceBEq, Nat.reduceLT, Nat.reduceLeDiff, Nat.reduceEqDiff, decide_true, decide_false, Bool.and_true, Bool.true_and, Bool.or_true, Bool.true_or, Bool.or_false, Bool.false_or, Bool.and_false, Bool.false_and, Bool.not_true, Bool.not_false, Bool.false_eq_true, reduceIte, ite_true, ite_false, beq_self_eq_true, Nat.zero_add, reduceCtorEq, and_self, true_and, and_true, ge_iff_le, gt_iff_lt, Nat.succ_eq_add_one, Nat.add_one_sub_one, Nat.zero_lt_succ, Nat.lt_add_left_iff_pos, Mi.wipeE, Mi.restE, Mi.pick, List.filterMap_cons, List.filterMap_nil, c1, ix]
  exact defv rfl rfl c rfl
theorem p29 : fPow (.fz (.int 10)) (.fz (.int 29)) = .ok (.fz (.int 100000000000000000000000000000)) := by kernel_rfl
abbrev eltG : CE := cBin fMul true (cBin fSub true (cCallIO F_law_take (ioOf [0]) (cCons true (cVar 0) (cCons true (cC (.int 17)) cNil))) (cC (.int 8))) (cVar 2)
theorem goods_loop {tm : Int} {e1 e3 e4 e5 e6 e7 e8 e9 : Option W} : ∀ (l : List D) (m : Nat) (β : Bx), Gd (m + l.length) β → ∃ (gs : List Int) (β' : Bx), gs.length = l.length ∧ Gd m β' ∧ lcL [10] (gSet 10) cYes eltG l [some (bx β), e1, some (.fz (.int tm)), e3, e4, e5, e6, e7, e8, e9, none] = .ok (gs.map fun n => W.fz (.int n), [some (bx β'), e1, some (.fz (.int tm)), e3, e4, e5, e6, e7, e8, e9, none])
  | [], m, β, g => ⟨[], β, rfl, g, rfl⟩
  | d :: l, m, β, g => by
    obtain ⟨r, β1, h0, h1, g1, te⟩ := take_ok (m := m + l.length) (n := 17) (g.le (by simp only [List.length_cons]; omega)) (by decide) (by decide)
    obtain ⟨gs, β', hl, g', e⟩ := goods_loop (tm := tm) (e1 := e1) (e3 := e3) (e4 := e4) (e5 := e5) (e6 := e6) (e7 := e7) (e8 := e8) (e9 := e9) l m β1 g1
    refine ⟨(r - 8) * tm :: gs, β', by simp only [List.length_cons]; omega, g', ?_⟩
    have c1 := callTake (ρ := [e1, some (.fz (.int tm)), e3, e4, e5, e6, e7, e8, e9, some (.fz d)]) (cn := cC (.int 17)) te rfl
    have m1 : fMul (.fz (.int (r - 8))) (.fz (.int tm)) = .ok (.fz (.int ((r - 8) * tm))) := w_mulL (by omega)
    simp only [eltG] at e
    simp only [eltG, Mi.v_bin6, Mi.v_bin5, Mi.v_bin4, Mi.v_bin3, Mi.v_bin2, Mi.v_bin1, Mi.v_bin, Mi.v_un3, Mi.v_un2, Mi.v_un1, Mi.v_un, Mi.v_test2, Mi.v_test1, Mi.v_test, Mi.v_cons3, Mi.v_cons2, Mi.v_cons1, Mi.v_cons, Mi.v_star4, Mi.v_star3, Mi.v_star2, Mi.v_star1, Mi.v_star, Mi.v_tup4, Mi.v_tup3, Mi.v_tup2, Mi.v_tup1, Mi.v_lst4, Mi.v_lst3, Mi.v_lst2, Mi.v_lst1, Mi.v_callB3, Mi.v_callB2, Mi.v_callB1, Mi.v_callB, Mi.v_andT1, Mi.v_andT, Mi.v_orT1, Mi.v_orT, Mi.v_notT1, Mi.v_notT, Mi.v_and2, Mi.v_and1, Mi.v_and, Mi.v_or2, Mi.v_or1, Mi.v_or, Mi.v_not2, Mi.v_not1, Mi.v_not, Mi.v_if1, Mi.v_if, Mi.v_orL1, Mi.v_orL, Mi.v_seq1, Mi.v_seq, Mi.v_ifS1, Mi.v_ifS, Mi.v_ret2, Mi.v_ret1, Mi.v_ret, Mi.v_drop1, Mi.v_drop, Mi.v_asg3, Mi.v_asg2, Mi.v_asg1, Mi.v_asg, Mi.v_gset1, Mi.v_gset, Mi.v_gsub5, Mi.v_gsub4, Mi.v_gsub3, Mi.v_gsub2, Mi.v_gsub1, Mi.v_gsub, Mi.v_gsc1, Mi.v_gsc, Mi.v_gsn1, Mi.v_gsn, Mi.v_for1, Mi.v_for, Mi.v_forc2, Mi.v_forc1, Mi.v_forc, Mi.v_lcc2, Mi.v_lcc1, Mi.v_lcc, Mi.v_lcT3, Mi.v_lcT2, Mi.v_lcT1, Mi.v_lcT, Mi.v_lc4, Mi.v_lc3, Mi.v_lc2, Mi.v_lc1, Mi.v_def4, Mi.v_def3, Mi.v_def2, Mi.v_def1, Mi.v_def, Mi.v_callV4, Mi.v_callV3, Mi.v_callV2, Mi.v_callV1, Mi.v_callV, Mi.v_callP4, Mi.v_callP3, Mi.v_callP2, Mi.v_callP1, Mi.v_callP, Mi.v_callKV5, Mi.v_callKV4, Mi.v_callKV3, Mi.v_callKV2, Mi.v_callKV1, Mi.v_callKV, Mi.v_callKP5, Mi.v_callKP4, Mi.v_callKP3, Mi.v_callKP2, Mi.v_callKP1, Mi.v_callKP, Mi.v_callIO5, Mi.v_callIO4, Mi.v_callIO3, Mi.v_callIO2, Mi.v_callIO1, Mi.v_app7, Mi.v_app6, Mi.v_app5, Mi.v_app4, Mi.v_app3, Mi.v_app2, Mi.v_app1, Mi.v_app, Mi.v_sl6, Mi.v_sl5, Mi.v_sl4, Mi.v_sl3, Mi.v_sl2, Mi.v_sl1, Mi.v_sl, Mi.v_oS2, Mi.v_oS1, Mi.v_oS, Mi.v_iseq3, Mi.v_iseq2, Mi.v_iseq1, Mi.v_iseq, Mi.v_ienum3, Mi.v_ienum2, Mi.v_ienum1, Mi.v_ienum, Mi.v_irg3, Mi.v_irg2, Mi.v_irg1, Mi.v_irg, Mi.v_rgTup3, Mi.v_rgTup2, Mi.v_rgTup1, Mi.v_rgTup, Mi.v_argsc2, Mi.v_argsc1, Mi.v_argsc, Mi.v_putc1, Mi.v_putc, Mi.v_takesc2, Mi.v_takesc1, Mi.v_takesc, Mi.v_contsc2, Mi.v_contsc1, Mi.v_contsc, Mi.v_backsI2, Mi.v_backsI1, Mi.v_backsI, Mi.v_ok, Mi.v_c, Mi.v_nil, Mi.v_next, Mi.v_yes, Mi.v_oN, Mi.v_gtup, Mi.v_var, Mi.v_for0, Mi.v_lc0, Mi.v_args0, Mi.v_put0, Mi.v_takes0, Mi.v_conts0, Mi.v_backs0, Mi.w_add, Mi.w_sub, Mi.w_neg, Mi.w_lt, Mi.w_le, Mi.w_gt, Mi.w_ge, Mi.w_intI, Mi.w_intB, Mi.w_abs, Mi.w_max, Mi.w_min, Mi.w_ix0, Mi.w_ix1, Mi.w_ix2, Mi.w_i0, Mi.w_i1, Mi.w_i2, Mi.pend, Mi.cont, Mi.take, Mi.frz, Mi.frzs, Mi.getP, Mi.setP, Mi.Res.of, Mi.boolOf, Mi.isPl, Mi.mutS, Mi.mutP, Mi.intOf, Mi.move, Mi.retOf, Mi.backs1, Mi.put1, Mi.fzT, Mi.ioOf, Mi.chk, Mi.early, Mi.shut, Mi.isTmp, Mi.flatB, Mi.scal, List.map_cons, List.map_nil, List.cons_append, List.nil_append, List.append_nil, List.replicate_succ, List.replicate_zero, List.replicate, List.length_cons, List.length_nil, List.getElem?_cons_zero, List.getElem?_cons_succ, List.set_cons_zero, List.set_cons_succ, List.all_cons, List.all_nil, List.contains_cons, List.contains_nil, List.elem_cons, List.elem_nil, List.isEmpty_nil, List.isEmpty_cons, Nat.reduceAdd, Nat.reduceSub, Nat.reduceBEq, Nat.reduceLT, Nat.reduceLeDiff, Nat.reduceEqDiff, decide_true, decide_false, Bool.and_true, Bool.true_and, Bool.or_true, Bool.true_or, Bool.or_false, Bool.false_or, Bool.and_false, Bool.false_and, Bool.not_true, Bool.not_false, Bool.false_eq_true, reduceIte, ite_true, ite_false, beq_self_eq_true, Nat.zero_add, reduceCtorEq, and_self, true_and, and_true, ge_iff_le, gt_iff_lt, Nat.succ_eq_add_one, Nat.add_one_sub_one, Nat.zero_lt_succ, Nat.lt_add_left_iff_pos, Mi.wipeE, Mi.restE, Mi.pick, List.filterMap_cons, List.filterMap_nil, c1, m1, e]
theorem goods_ok {m : Nat} {β : Bx} {tm : Int} {e1 e3 e4 e5 e6 e7 e8 e9 : Option W} (g : Gd (m + 6) β) : ∃ (gs : List Int) (β' : Bx), gs.length ≤ 5 ∧ Gd m β' ∧ cLc [10] (iRange1 (cCallIO F_law_take (ioOf [0]) (cCons true (cVar 0) (cCons true (cC (.int 6)) cNil)))) (gSet 10) cYes eltG [some (bx β), e1, some (.fz (.int tm)), e3, e4, e5, e6, e7, e8, e9, none] = .ok (.tmp (cw gs), [some (bx β'), e1, some (.fz (.int tm)), e3, e4, e5, e6, e7, e8, e9, none]) := by
  obtain ⟨r, β1, h0, h1, g1, te⟩ := take_ok (m := m + 5) (n := 6) g (by decide) (by decide)
  have ll : (rangeD 0 r.toNat).length = r.toNat := by unfold rangeD; rw [List.length_map, List.length_range]
  obtain ⟨gs, β', hl, g', e⟩ := goods_loop (tm := tm) (e1 := e1) (e3 := e3) (e4 := e4) (e5 := e5) (e6 := e6) (e7 := e7) (e8 := e8) (e9 := e9) (rangeD 0 r.toNat) m β1 (g1.le (by rw [ll]; omega))
  have c1 := callTake (ρ := [e1, some (.fz (.int tm)), e3, e4, e5, e6, e7, e8, e9, none]) (cn := cC (.int 6)) te rfl
  have cb : decide (-(2 ^ 62) ≤ r ∧ r < 2 ^ 62) = true := decide_eq_true (by omega)
  have ci : intOf (.tmp (.fz (.int r))) = .ok r := rfl
  have c2 : iRange1 (cCallIO F_law_take (ioOf [0]) (cCons true (cVar 0) (cCons true (cC (.int 6)) cNil))) [some (bx β), e1, some (.fz (.int tm)), e3, e4, e5, e6, e7, e8, e9, none] = .ok (rangeD 0 r.toNat, [some (bx β1), e1, some (.fz (.int tm)), e3, e4, e5, e6, e7, e8, e9, none]) := by
    rw [Mi.v_irg, c1, Mi.v_ok, Mi.v_irg1, ci, Mi.v_ok, Mi.v_irg2, cb, cT, Mi.v_ok, Mi.v_irg3]
  refine ⟨gs, β', by omega, g', ?_⟩
  exact lcv true [10] (iRange1 (cCallIO F_law_take (ioOf [0]) (cCons true (cVar 0) (cCons true (cC (.int 6)) cNil)))) (gSet 10) cYes eltG c2 rfl (by rw [ll]; omega) e
end Gn
namespace Gn
open Mi PySem PySem.Spec PyProof.Rows L2
abbrev big : Int := 100000000000000000000000000000
abbrev T2 : CS := cAsg (gSet 2) (cCallIO F_law_of (ioOf [0]) (cCons true (cVar 0) (cCons true (cLst true (cCons true (cC (.int 1)) (cCons true (cC (.int 1)) (cCons true (cBin fPow true (cC (.int 10)) (cC (.int 29))) cNil)))) cNil)))
abbrev T3 : CS := cAsg (gSet 3) (cCallB fTuple (cCons true (cLc [10] (iRange1 (cCallIO F_law_take (ioOf [0]) (cCons true (cVar 0) (cCons true (cC (.int 6)) cNil)))) (gSet 10) cYes eltG) cNil))
abbrev T4 : CS := cAsg (gSet 4) (cBin fMul true (cUn fNeg (cCallIO F_law_take (ioOf [0]) (cCons true (cVar 0) (cCons true (cC (.int 7)) cNil)))) (cVar 2))
abbrev T5 : CS := cAsg (gSet 5) (cBin fAdd false (cVar 4) (cBin fMul true (cCallIO F_law_take (ioOf [0]) (cCons true (cVar 0) (cCons true (cC (.int 11)) cNil))) (cVar 2)))
abbrev T6a : CE := cTup false (cCons false (cVar 4) (cCons false (cVar 5) (cCons true (cBin fAdd false (cVar 4) (cBin fMul true (cCallIO F_law_take (ioOf [0]) (cCons true (cVar 0) (cCons true (cBin fAdd true (cBin fDiv true (cBin fSub true (cVar 5) (cVar 4)) (cVar 2)) (cC (.int 1))) cNil))) (cVar 2))) cNil)))
abbrev T6 : CS := cFor (iSeq T6a) (gSet 6) bodyN
abbrev bodyT : CS := cSeq T2 (cSeq T3 (cSeq T4 (cSeq T5 T6)))
section
variable {m : Nat} {β : Bx} {e1 e2 e3 e4 e5 e6 e7 e8 e9 : Option W} {tm : Int} {gs : List Int} {lo hi : Int}
theorem t_2 (g : Gd (m + 1) β) : ∃ (r : Int) (β' : Bx), (r = 1 ∨ r = big) ∧ Gd m β' ∧ T2 [some (bx β), e1, e2, e3, e4, e5, e6, e7, e8, e9, none] = .ok (.nx, [some (bx β'), e1, some (.fz (.int r)), e3, e4, e5, e6, e7, e8, e9, none]) := by
  obtain ⟨r, β', hr, g', e⟩ := of_ok g
  refine ⟨r, β', hr, g', ?_⟩
  have h1 : (cCons true (cC (.int 1)) (cCons true (cC (.int 1)) (cCons true (cBin fPow true (cC (.int 10)) (cC (.int 29))) cNil))) [some (bx β), e1, e2, e3, e4, e5, e6, e7, e8, e9, none] = .ok ([.tmp (.fz (.int 1)), .tmp (.fz (.int 1)), .tmp (.fz (.int 100000000000000000000000000000))], [some (bx β), e1, e2, e3, e4, e5, e6, e7, e8, e9, none]) := by
    simp only [Mi.v_bin6, Mi.v_bin5, Mi.v_bin4, Mi.v_bin3, Mi.v_bin2, Mi.v_bin1, Mi.v_bin, Mi.v_un3, Mi.v_un2, Mi.v_un1, Mi.v_un, Mi.v_test2, Mi.v_test1, Mi.v_test, Mi.v_cons3, Mi.v_cons2, Mi.v_cons1, Mi.v_cons, Mi.v_star4, Mi.v_star3, Mi.v_star2, Mi.v_star1, Mi.v_star, Mi.v_tup4, Mi.v_tup3, Mi.v_tup2, Mi.v_tup1, Mi.v_lst4, Mi.v_lst3, Mi.v_lst2, Mi.v_lst1, Mi.v_callB3, Mi.v_callB2, Mi.v_callB1, Mi.v_callB, Mi.v_andT1, Mi.v_andT, Mi.v_orT1, Mi.v_orT, Mi.v_notT1, Mi.v_notT, Mi.v_and2, Mi.v_and1, Mi.v_and, Mi.v_or2, Mi.v_or1, Mi.v_or, Mi.v_not2, Mi.v_not1, Mi.v_not, Mi.v_if1, Mi.v_if, Mi.v_orL1, Mi.v_orL, Mi.v_seq1, Mi.v_seq, Mi.v_ifS1, Mi.v_ifS, Mi.v_ret2, Mi.v_ret1, Mi.v_ret, Mi.v_drop1, Mi.v_drop, Mi.v_asg3, Mi.v_asg2, Mi.v_asg1, Mi.v_asg, Mi.v_gset1, Mi.v_gset, Mi.v_gsub5, Mi.v_gsub4, Mi.v_gsub3, Mi.v_gsub2, Mi.v_gsub1, Mi.v_gsub, Mi.v_gsc1, Mi.v_gsc, Mi.v_gsn1, Mi.v_gsn, Mi.v_for1, Mi.v_for, Mi.v_forc2, Mi.v_forc1, Mi.v_forc, Mi.v_lcc2, Mi.v_lcc1, Mi.v_lcc, Mi.v_lcT3, Mi.v_lcT2, Mi.v_lcT1, Mi.v_lcT, Mi.v_lc4, Mi.v_lc3, Mi.v_lc2, Mi.v_lc1, Mi.v_def4, Mi.v_def3, Mi.v_def2, Mi.v_def1, Mi.v_def, Mi.v_callV4, Mi.v_callV3, Mi.v_callV2, Mi.v_callV1, Mi.v_callV, Mi.v_callP4, Mi.v_callP3, Mi.v_callP2, Mi.v_callP1, Mi.v_callP, Mi.v_callKV5, Mi.v_callKV4, Mi.v_callKV3, Mi.v_callKV2, Mi.v_callKV1, Mi.v_callKV, Mi.v_callKP5, Mi.v_callKP4, Mi.v_callKP3, Mi.v_callKP2, Mi.v_callKP1, Mi.v_callKP, Mi.v_callIO5, Mi.v_callIO4, Mi.v_callIO3, Mi.v_callIO2, Mi.v_callIO1, Mi.v_app7, Mi.v_app6, Mi.v_app5, Mi.v_app4, Mi.v_app3, Mi.v_app2, Mi.v_app1, Mi.v_app, Mi.v_sl6, Mi.v_sl5, Mi.v_sl4, Mi.v_sl3, Mi.v_sl2, Mi.v_sl1, Mi.v_sl, Mi.v_oS2, Mi.v_oS1, Mi.v_oS, Mi.v_iseq3, Mi.v_iseq2, Mi.v_iseq1, Mi.v_iseq, Mi.v_ienum3, Mi.v_ienum2, Mi.v_ienum1, Mi.v_ienum, Mi.v_irg3, Mi.v_irg2, Mi.v_irg1, Mi.v_irg, Mi.v_rgTup3, Mi.v_rgTup2, Mi.v_rgTup1, Mi.v_rgTup, Mi.v_argsc2, Mi.v_argsc1, Mi.v_argsc, Mi.v_putc1, Mi.v_putc, Mi.v_takesc2, Mi.v_takesc1, Mi.v_takesc, Mi.v_contsc2, Mi.v_contsc1, Mi.v_contsc, Mi.v_backsI2, Mi.v_backsI1, Mi.v_backsI, Mi.v_ok, Mi.v_c, Mi.v_nil, Mi.v_next, Mi.v_yes, Mi.v_oN, Mi.v_gtup, Mi.v_var, Mi.v_for0, Mi.v_lc0, Mi.v_args0, Mi.v_put0, Mi.v_takes0, Mi.v_conts0, Mi.v_backs0, Mi.w_add, Mi.w_sub, Mi.w_neg, Mi.w_lt, Mi.w_le, Mi.w_gt, Mi.w_ge, Mi.w_intI, Mi.w_intB, Mi.w_abs, Mi.w_max, Mi.w_min, Mi.w_ix0, Mi.w_ix1, Mi.w_ix2, Mi.w_i0, Mi.w_i1, Mi.w_i2, Mi.pend, Mi.cont, Mi.take, Mi.frz, Mi.frzs, Mi.getP, Mi.setP, Mi.Res.of, Mi.boolOf, Mi.isPl, Mi.mutS, Mi.mutP, Mi.intOf, Mi.move, Mi.retOf, Mi.backs1, Mi.put1, Mi.fzT, Mi.ioOf, Mi.chk, Mi.early, Mi.shut, Mi.isTmp, Mi.flatB, Mi.scal, List.map_cons, List.map_nil, List.cons_append, List.nil_append, List.append_nil, List.replicate_succ, List.replicate_zero, List.replicate, List.length_cons, List.length_nil, List.getElem?_cons_zero, List.getElem?_cons_succ, List.set_cons_zero, List.set_cons_succ, List.all_cons, List.all_nil, List.contains_cons, List.contains_nil, List.elem_cons, List.elem_nil, List.isEmpty_nil, List.isEmpty_cons, Nat.reduceAdd, Nat.reduceSub, Nat.reduceBEq, Nat.reduceLT, Nat.reduceLeDiff, Nat.reduceEqDiff, decide_true, decide_false, Bool.and_true, Bool.true_and, Bool.or_true, Bool.true_or, Bool.or_false, Bool.false_or, Bool.and_false, Bool.false_and, Bool.not_true, Bool.not_false, Bool.false_eq_true, reduceIte, ite_true, ite_false, beq_self_eq_true, Nat.zero_add, reduceCtorEq, and_self, true_and, and_true, ge_iff_le, gt_iff_lt, Nat.succ_eq_add_one, Nat.add_one_sub_one, Nat.zero_lt_succ, Nat.lt_add_left_iff_pos, Mi.wipeE, Mi.restE, Mi.pick, List.filterMap_cons, List.filterMap_nil, p29]
  have h2 := lstv (q := true) h1 rfl (ws := [.fz (.int 1), .fz (.int 1), .fz (.int 100000000000000000000000000000)]) (ρ2 := [some (bx β), e1, e2, e3, e4, e5, e6, e7, e8, e9, none]) rfl (Nat.lt_of_lt_of_le (show 3 < 1000 by decide) (by omega))
  simp only [T2, Mi.v_bin6, Mi.v_bin5, Mi.v_bin4, Mi.v_bin3, Mi.v_bin2, Mi.v_bin1, Mi.v_bin, Mi.v_un3, Mi.v_un2, Mi.v_un1, Mi.v_un, Mi.v_test2, Mi.v_test1, Mi.v_test, Mi.v_cons3, Mi.v_cons2, Mi.v_cons1, Mi.v_cons, Mi.v_star4, Mi.v_star3, Mi.v_star2, Mi.v_star1, Mi.v_star, Mi.v_tup4, Mi.v_tup3, Mi.v_tup2, Mi.v_tup1, Mi.v_lst4, Mi.v_lst3, Mi.v_lst2, Mi.v_lst1, Mi.v_callB3, Mi.v_callB2, Mi.v_callB1, Mi.v_callB, Mi.v_andT1, Mi.v_andT, Mi.v_orT1, Mi.v_orT, Mi.v_notT1, Mi.v_notT, Mi.v_and2, Mi.v_and1, Mi.v_and, Mi.v_or2, Mi.v_or1, Mi.v_or, Mi.v_not2, Mi.v_not1, Mi.v_not, Mi.v_if1, Mi.v_if, Mi.v_orL1, Mi.v_orL, Mi.v_seq1, Mi.v_seq, Mi.v_ifS1, Mi.v_ifS, Mi.v_ret2, Mi.v_ret1, Mi.v_ret, Mi.v_drop1, Mi.v_drop, Mi.v_asg3, Mi.v_asg2, Mi.v_asg1, Mi.v_asg, Mi.v_gset1, Mi.v_gset, Mi.v_gsub5, Mi.v_gsub4, Mi.v_gsub3, Mi.v_gsub2, Mi.v_gsub1, Mi.v_gsub, Mi.v_gsc1, Mi.v_gsc, Mi.v_gsn1, Mi.v_gsn, Mi.v_for1, Mi.v_for, Mi.v_forc2, Mi.v_forc1, Mi.v_forc, Mi.v_lcc2, Mi.v_lcc1, Mi.v_lcc, Mi.v_lcT3, Mi.v_lcT2, Mi.v_lcT1, Mi.v_lcT, Mi.v_lc4, Mi.v_lc3, Mi.v_lc2, Mi.v_lc1, Mi.v_def4, Mi.v_def3, Mi.v_def2, Mi.v_def1, Mi.v_def, Mi.v_callV4, Mi.v_callV3, Mi.v_callV2, Mi.v_callV1, Mi.v_callV, Mi.v_callP4, Mi.v_callP3, Mi.v_callP2, Mi.v_callP1, Mi.v_callP, Mi.v_callKV5, Mi.v_callKV4, Mi.v_callKV3, Mi.v_callKV2, Mi.v_callKV1, Mi.v_callKV, Mi.v_callKP5, Mi.v_callKP4, Mi.v_callKP3, Mi.v_callKP2, Mi.v_callKP1, Mi.v_callKP, Mi.v_callIO5, Mi.v_callIO4, Mi.v_callIO3, Mi.v_callIO2, Mi.v_callIO1, Mi.v_callIO, Mi.v_app7, Mi.v_app6, Mi.v_app5, Mi.v_app4, Mi.v_app3, Mi.v_app2, Mi.v_app1, Mi.v_app, Mi.v_sl6, Mi.v_sl5, Mi.v_sl4, Mi.v_sl3, Mi.v_sl2, Mi.v_sl1, Mi.v_sl, Mi.v_oS2, Mi.v_oS1, Mi.v_oS, Mi.v_iseq3, Mi.v_iseq2, Mi.v_iseq1, Mi.v_iseq, Mi.v_ienum3, Mi.v_ienum2, Mi.v_ienum1, Mi.v_ienum, Mi.v_irg3, Mi.v_irg2, Mi.v_irg1, Mi.v_irg, Mi.v_rgTup3, Mi.v_rgTup2, Mi.v_rgTup1, Mi.v_rgTup, Mi.v_argsc2, Mi.v_argsc1, Mi.v_argsc, Mi.v_putc1, Mi.v_putc, Mi.v_takesc2, Mi.v_takesc1, Mi.v_takesc, Mi.v_contsc2, Mi.v_contsc1, Mi.v_contsc, Mi.v_backsI2, Mi.v_backsI1, Mi.v_backsI, Mi.v_ok, Mi.v_c, Mi.v_nil, Mi.v_next, Mi.v_yes, Mi.v_oN, Mi.v_gtup, Mi.v_var, Mi.v_for0, Mi.v_lc0, Mi.v_args0, Mi.v_put0, Mi.v_takes0, Mi.v_conts0, Mi.v_backs0, Mi.w_add, Mi.w_sub, Mi.w_neg, Mi.w_lt, Mi.w_le, Mi.w_gt, Mi.w_ge, Mi.w_intI, Mi.w_intB, Mi.w_abs, Mi.w_max, Mi.w_min, Mi.w_ix0, Mi.w_ix1, Mi.w_ix2, Mi.w_i0, Mi.w_i1, Mi.w_i2, Mi.pend, Mi.cont, Mi.take, Mi.frz, Mi.frzs, Mi.getP, Mi.setP, Mi.Res.of, Mi.boolOf, Mi.isPl, Mi.mutS, Mi.mutA, Mi.mutP, Mi.intOf, Mi.move, Mi.retOf, Mi.backs1, Mi.put1, Mi.fzT, Mi.ioOf, Mi.chk, Mi.early, Mi.shut, Mi.isTmp, Mi.flatB, Mi.scal, List.map_cons, List.map_nil, List.cons_append, List.nil_append, List.append_nil, List.replicate_succ, List.replicate_zero, List.replicate, List.length_cons, List.length_nil, List.getElem?_cons_zero, List.getElem?_cons_succ, List.set_cons_zero, List.set_cons_succ, List.all_cons, List.all_nil, List.contains_cons, List.contains_nil, List.elem_cons, List.elem_nil, List.isEmpty_nil, List.isEmpty_cons, Nat.reduceAdd, Nat.reduceSub, Nat.reduceBEq, Nat.reduceLT, Nat.reduceLeDiff, Nat.reduceEqDiff, decide_true, decide_false, Bool.and_true, Bool.true_and, Bool.or_true, Bool.true_or, Bool.or_false, Bool.false_or, Bool.and_false, Bool.false_and, Bool.not_true, Bool.not_false, Bool.false_eq_true, reduceIte, ite_true, ite_false, beq_self_eq_true, Nat.zero_add, reduceCtorEq, and_self, true_and, and_true, ge_iff_le, gt_iff_lt, Nat.succ_eq_add_one, Nat.add_one_sub_one, Nat.zero_lt_succ, Nat.lt_add_left_iff_pos, Mi.wipeE, Mi.restE, Mi.pick, List.filterMap_cons, List.filterMap_nil, h2, e]
theorem tup_cw (gs : List Int) : fTuple [.fz (.lst (gs.map D.int))] = .ok (.fz (.tup (gs.map D.int))) := rfl
theorem t_3 (g : Gd (m + 6) β) : ∃ (gs : List Int) (β' : Bx), gs.length ≤ 5 ∧ Gd m β' ∧ T3 [some (bx β), e1, some (.fz (.int tm)), e3, e4, e5, e6, e7, e8, e9, none] = .ok (.nx, [some (bx β'), e1, some (.fz (.int tm)), some (.fz (.tup (gs.map D.int))), e4, e5, e6, e7, e8, e9, none]) := by
  obtain ⟨gs, β', hl, g', e⟩ := goods_ok (tm := tm) (e1 := e1) (e3 := e3) (e4 := e4) (e5 := e5) (e6 := e6) (e7 := e7) (e8 := e8) (e9 := e9) g
  refine ⟨gs, β', hl, g', ?_⟩
  simp only [T3, Mi.v_bin6, Mi.v_bin5, Mi.v_bin4, Mi.v_bin3, Mi.v_bin2, Mi.v_bin1, Mi.v_bin, Mi.v_un3, Mi.v_un2, Mi.v_un1, Mi.v_un, Mi.v_test2, Mi.v_test1, Mi.v_test, Mi.v_cons3, Mi.v_cons2, Mi.v_cons1, Mi.v_cons, Mi.v_star4, Mi.v_star3, Mi.v_star2, Mi.v_star1, Mi.v_star, Mi.v_tup4, Mi.v_tup3, Mi.v_tup2, Mi.v_tup1, Mi.v_lst4, Mi.v_lst3, Mi.v_lst2, Mi.v_lst1, Mi.v_callB3, Mi.v_callB2, Mi.v_callB1, Mi.v_callB, Mi.v_andT1, Mi.v_andT, Mi.v_orT1, Mi.v_orT, Mi.v_notT1, Mi.v_notT, Mi.v_and2, Mi.v_and1, Mi.v_and, Mi.v_or2, Mi.v_or1, Mi.v_or, Mi.v_not2, Mi.v_not1, Mi.v_not, Mi.v_if1, Mi.v_if, Mi.v_orL1, Mi.v_orL, Mi.v_seq1, Mi.v_seq, Mi.v_ifS1, Mi.v_ifS, Mi.v_ret2, Mi.v_ret1, Mi.v_ret, Mi.v_drop1, Mi.v_drop, Mi.v_asg3, Mi.v_asg2, Mi.v_asg1, Mi.v_asg, Mi.v_gset1, Mi.v_gset, Mi.v_gsub5, Mi.v_gsub4, Mi.v_gsub3, Mi.v_gsub2, Mi.v_gsub1, Mi.v_gsub, Mi.v_gsc1, Mi.v_gsc, Mi.v_gsn1, Mi.v_gsn, Mi.v_for1, Mi.v_for, Mi.v_forc2, Mi.v_forc1, Mi.v_forc, Mi.v_lcc2, Mi.v_lcc1, Mi.v_lcc, Mi.v_lcT3, Mi.v_lcT2, Mi.v_lcT1, Mi.v_lcT, Mi.v_lc4, Mi.v_lc3, Mi.v_lc2, Mi.v_lc1, Mi.v_def4, Mi.v_def3, Mi.v_def2, Mi.v_def1, Mi.v_def, Mi.v_callV4, Mi.v_callV3, Mi.v_callV2, Mi.v_callV1, Mi.v_callV, Mi.v_callP4, Mi.v_callP3, Mi.v_callP2, Mi.v_callP1, Mi.v_callP, Mi.v_callKV5, Mi.v_callKV4, Mi.v_callKV3, Mi.v_callKV2, Mi.v_callKV1, Mi.v_callKV, Mi.v_callKP5, Mi.v_callKP4, Mi.v_callKP3, Mi.v_callKP2, Mi.v_callKP1, Mi.v_callKP, Mi.v_callIO5, Mi.v_callIO4, Mi.v_callIO3, Mi.v_callIO2, Mi.v_callIO1, Mi.v_app7, Mi.v_app6, Mi.v_app5, Mi.v_app4, Mi.v_app3, Mi.v_app2, Mi.v_app1, Mi.v_app, Mi.v_sl6, Mi.v_sl5, Mi.v_sl4, Mi.v_sl3, Mi.v_sl2, Mi.v_sl1, Mi.v_sl, Mi.v_oS2, Mi.v_oS1, Mi.v_oS, Mi.v_iseq3, Mi.v_iseq2, Mi.v_iseq1, Mi.v_iseq, Mi.v_ienum3, Mi.v_ienum2, Mi.v_ienum1, Mi.v_ienum, Mi.v_irg3, Mi.v_irg2, Mi.v_irg1, Mi.v_irg, Mi.v_rgTup3, Mi.v_rgTup2, Mi.v_rgTup1, Mi.v_rgTup, Mi.v_argsc2, Mi.v_argsc1, Mi.v_argsc, Mi.v_putc1, Mi.v_putc, Mi.v_takesc2, Mi.v_takesc1, Mi.v_takesc, Mi.v_contsc2, Mi.v_contsc1, Mi.v_contsc, Mi.v_backsI2, Mi.v_backsI1, Mi.v_backsI, Mi.v_ok, Mi.v_c, Mi.v_nil, Mi.v_next, Mi.v_yes, Mi.v_oN, Mi.v_gtup, Mi.v_var, Mi.v_for0, Mi.v_lc0, Mi.v_args0, Mi.v_put0, Mi.v_takes0, Mi.v_conts0, Mi.v_backs0, Mi.w_add, Mi.w_sub, Mi.w_neg, Mi.w_lt, Mi.w_le, Mi.w_gt, Mi.w_ge, Mi.w_intI, Mi.w_intB, Mi.w_abs, Mi.w_max, Mi.w_min, Mi.w_ix0, Mi.w_ix1, Mi.w_ix2, Mi.w_i0, Mi.w_i1, Mi.w_i2, Mi.pend, Mi.cont, Mi.take, Mi.frz, Mi.frzs, Mi.getP, Mi.setP, Mi.Res.of, Mi.boolOf, Mi.isPl, Mi.mutS, Mi.mutP, Mi.intOf, Mi.move, Mi.retOf, Mi.backs1, Mi.put1, Mi.fzT, Mi.ioOf, Mi.chk, Mi.early, Mi.shut, Mi.isTmp, Mi.flatB, Mi.scal, List.map_cons, List.map_nil, List.cons_append, List.nil_append, List.append_nil, List.replicate_succ, List.replicate_zero, List.replicate, List.length_cons, List.length_nil, List.getElem?_cons_zero, List.getElem?_cons_succ, List.set_cons_zero, List.set_cons_succ, List.all_cons, List.all_nil, List.contains_cons, List.contains_nil, List.elem_cons, List.elem_nil, List.isEmpty_nil, List.isEmpty_cons, Nat.reduceAdd, Nat.reduceSub, Nat.reduceBEq, Nat.reduceLT, Nat.reduceLeDiff, Nat.reduceEqDiff, decide_true, decide_false, Bool.and_true, Bool.true_and, Bool.or_true, Bool.true_or, Bool.or_false, Bool.false_or, Bool.and_false, Bool.false_and, Bool.not_true, Bool.not_false, Bool.false_eq_true, reduceIte, ite_true, ite_false, beq_self_eq_true, Nat.zero_add, reduceCtorEq, and_self, true_and, and_true, ge_iff_le, gt_iff_lt, Nat.succ_eq_add_one, Nat.add_one_sub_one, Nat.zero_lt_succ, Nat.lt_add_left_iff_pos, Mi.wipeE, Mi.restE, Mi.pick, List.filterMap_cons, List.filterMap_nil, e, frzs_cw, tup_cw]
theorem t_4 (g : Gd (m + 1) β) : ∃ (lo : Int) (β' : Bx), Gd m β' ∧ T4 [some (bx β), e1, some (.fz (.int tm)), e3, e4, e5, e6, e7, e8, e9, none] = .ok (.nx, [some (bx β'), e1, some (.fz (.int tm)), e3, some (.fz (.int lo)), e5, e6, e7, e8, e9, none]) := by
  obtain ⟨r, β1, h0, h1, g1, te⟩ := take_ok (n := 7) g (by decide) (by decide)
  have c1 := callTake (ρ := [e1, some (.fz (.int tm)), e3, e4, e5, e6, e7, e8, e9, none]) (cn := cC (.int 7)) te rfl
  have m1 : fMul (.fz (.int (-r))) (.fz (.int tm)) = .ok (.fz (.int (-r * tm))) := w_mulL (by omega)
  refine ⟨-r * tm, β1, g1, ?_⟩
  simp only [T4, Mi.v_bin6, Mi.v_bin5, Mi.v_bin4, Mi.v_bin3, Mi.v_bin2, Mi.v_bin1, Mi.v_bin, Mi.v_un3, Mi.v_un2, Mi.v_un1, Mi.v_un, Mi.v_test2, Mi.v_test1, Mi.v_test, Mi.v_cons3, Mi.v_cons2, Mi.v_cons1, Mi.v_cons, Mi.v_star4, Mi.v_star3, Mi.v_star2, Mi.v_star1, Mi.v_star, Mi.v_tup4, Mi.v_tup3, Mi.v_tup2, Mi.v_tup1, Mi.v_lst4, Mi.v_lst3, Mi.v_lst2, Mi.v_lst1, Mi.v_callB3, Mi.v_callB2, Mi.v_callB1, Mi.v_callB, Mi.v_andT1, Mi.v_andT, Mi.v_orT1, Mi.v_orT, Mi.v_notT1, Mi.v_notT, Mi.v_and2, Mi.v_and1, Mi.v_and, Mi.v_or2, Mi.v_or1, Mi.v_or, Mi.v_not2, Mi.v_not1, Mi.v_not, Mi.v_if1, Mi.v_if, Mi.v_orL1, Mi.v_orL, Mi.v_seq1, Mi.v_seq, Mi.v_ifS1, Mi.v_ifS, Mi.v_ret2, Mi.v_ret1, Mi.v_ret, Mi.v_drop1, Mi.v_drop, Mi.v_asg3, Mi.v_asg2, Mi.v_asg1, Mi.v_asg, Mi.v_gset1, Mi.v_gset, Mi.v_gsub5, Mi.v_gsub4, Mi.v_gsub3, Mi.v_gsub2, Mi.v_gsub1, Mi.v_gsub, Mi.v_gsc1, Mi.v_gsc, Mi.v_gsn1, Mi.v_gsn, Mi.v_for1, Mi.v_for, Mi.v_forc2, Mi.v_forc1, Mi.v_forc, Mi.v_lcc2, Mi.v_lcc1, Mi.v_lcc, Mi.v_lcT3, Mi.v_lcT2, Mi.v_lcT1, Mi.v_lcT, Mi.v_lc4, Mi.v_lc3, Mi.v_lc2, Mi.v_lc1, Mi.v_def4, Mi.v_def3, Mi.v_def2, Mi.v_def1, Mi.v_def, Mi.v_callV4, Mi.v_callV3, Mi.v_callV2, Mi.v_callV1, Mi.v_callV, Mi.v_callP4, Mi.v_callP3, Mi.v_callP2, Mi.v_callP1, Mi.v_callP, Mi.v_callKV5, Mi.v_callKV4, Mi.v_callKV3, Mi.v_callKV2, Mi.v_callKV1, Mi.v_callKV, Mi.v_callKP5, Mi.v_callKP4, Mi.v_callKP3, Mi.v_callKP2, Mi.v_callKP1, Mi.v_callKP, Mi.v_callIO5, Mi.v_callIO4, Mi.v_callIO3, Mi.v_callIO2, Mi.v_callIO1, Mi.v_app7, Mi.v_app6, Mi.v_app5, Mi.v_app4, Mi.v_app3, Mi.v_app2, Mi.v_app1, Mi.v_app, Mi.v_sl6, Mi.v_sl5, Mi.v_sl4, Mi.v_sl3, Mi.v_sl2, Mi.v_sl1, Mi.v_sl, Mi.v_oS2, Mi.v_oS1, Mi.v_oS, Mi.v_iseq3, Mi.v_iseq2, Mi.v_iseq1, Mi.v_iseq, Mi.v_ienum3, Mi.v_ienum2, Mi.v_ienum1, Mi.v_ienum, Mi.v_irg3, Mi.v_irg2, Mi.v_irg1, Mi.v_irg, Mi.v_rgTup3, Mi.v_rgTup2, Mi.v_rgTup1, Mi.v_rgTup, Mi.v_argsc2, Mi.v_argsc1, Mi.v_argsc, Mi.v_putc1, Mi.v_putc, Mi.v_takesc2, Mi.v_takesc1, Mi.v_takesc, Mi.v_contsc2, Mi.v_contsc1, Mi.v_contsc, Mi.v_backsI2, Mi.v_backsI1, Mi.v_backsI, Mi.v_ok, Mi.v_c, Mi.v_nil, Mi.v_next, Mi.v_yes, Mi.v_oN, Mi.v_gtup, Mi.v_var, Mi.v_for0, Mi.v_lc0, Mi.v_args0, Mi.v_put0, Mi.v_takes0, Mi.v_conts0, Mi.v_backs0, Mi.w_add, Mi.w_sub, Mi.w_neg, Mi.w_lt, Mi.w_le, Mi.w_gt, Mi.w_ge, Mi.w_intI, Mi.w_intB, Mi.w_abs, Mi.w_max, Mi.w_min, Mi.w_ix0, Mi.w_ix1, Mi.w_ix2, Mi.w_i0, Mi.w_i1, Mi.w_i2, Mi.pend, Mi.cont, Mi.take, Mi.frz, Mi.frzs, Mi.getP, Mi.setP, Mi.Res.of, Mi.boolOf, Mi.isPl, Mi.mutS, Mi.mutP, Mi.intOf, Mi.move, Mi.retOf, Mi.backs1, Mi.put1, Mi.fzT, Mi.ioOf, Mi.chk, Mi.early, Mi.shut, Mi.isTmp, Mi.flatB, Mi.scal, List.map_cons, List.map_nil, List.cons_append, List.nil_append, List.append_nil, List.replicate_succ, List.replicate_zero, List.replicate, List.length_cons, List.length_nil, List.getElem?_cons_zero, List.getElem?_cons_succ, List.set_cons_zero, List.set_cons_succ, List.all_cons, List.all_nil, List.contains_cons, List.contains_nil, List.elem_cons, List.elem_nil, List.isEmpty_nil, List.isEmpty_cons, Nat.reduceAdd, Nat.reduceSub, Nat.reduceBEq, Nat.reduceLT, Nat.reduceLeDiff, Nat.reduceEqDiff, decide_true, decide_false, Bool.and_true, Bool.true_and, Bool.or_true, Bool.true_or, Bool.or_false, Bool.false_or, Bool.and_false, Bool.false_and, Bool.not_true, Bool.not_false, Bool.false_eq_true, reduceIte, ite_true, ite_false, beq_self_eq_true, Nat.zero_add, reduceCtorEq, and_self, true_and, and_true, ge_iff_le, gt_iff_lt, Nat.succ_eq_add_one, Nat.add_one_sub_one, Nat.zero_lt_succ, Nat.lt_add_left_iff_pos, Mi.wipeE, Mi.restE, Mi.pick, List.filterMap_cons, List.filterMap_nil, c1, m1]
theorem t_5 (g : Gd (m + 1) β) : ∃ (q : Int) (β' : Bx), 0 ≤ q ∧ q < 11 ∧ Gd m β' ∧ T5 [some (bx β), e1, some (.fz (.int tm)), e3, some (.fz (.int lo)), e5, e6, e7, e8, e9, none] = .ok (.nx, [some (bx β'), e1, some (.fz (.int tm)), e3, some (.fz (.int lo)), some (.fz (.int (lo + q * tm))), e6, e7, e8, e9, none]) := by
  obtain ⟨r, β1, h0, h1, g1, te⟩ := take_ok (n := 11) g (by decide) (by decide)
  have c1 := callTake (ρ := [e1, some (.fz (.int tm)), e3, some (.fz (.int lo)), e5, e6, e7, e8, e9, none]) (cn := cC (.int 11)) te rfl
  have m1 : fMul (.fz (.int r)) (.fz (.int tm)) = .ok (.fz (.int (r * tm))) := w_mulL (by omega)
  refine ⟨r, β1, h0, h1, g1, ?_⟩
  simp only [T5, Mi.v_bin6, Mi.v_bin5, Mi.v_bin4, Mi.v_bin3, Mi.v_bin2, Mi.v_bin1, Mi.v_bin, Mi.v_un3, Mi.v_un2, Mi.v_un1, Mi.v_un, Mi.v_test2, Mi.v_test1, Mi.v_test, Mi.v_cons3, Mi.v_cons2, Mi.v_cons1, Mi.v_cons, Mi.v_star4, Mi.v_star3, Mi.v_star2, Mi.v_star1, Mi.v_star, Mi.v_tup4, Mi.v_tup3, Mi.v_tup2, Mi.v_tup1, Mi.v_lst4, Mi.v_lst3, Mi.v_lst2, Mi.v_lst1, Mi.v_callB3, Mi.v_callB2, Mi.v_callB1, Mi.v_callB, Mi.v_andT1, Mi.v_andT, Mi.v_orT1, Mi.v_orT, Mi.v_notT1, Mi.v_notT, Mi.v_and2, Mi.v_and1, Mi.v_and, Mi.v_or2, Mi.v_or1, Mi.v_or, Mi.v_not2, Mi.v_not1, Mi.v_not, Mi.v_if1, Mi.v_if, Mi.v_orL1, Mi.v_orL, Mi.v_seq1, Mi.v_seq, Mi.v_ifS1, Mi.v_ifS, Mi.v_ret2, Mi.v_ret1, Mi.v_ret, Mi.v_drop1, Mi.v_drop, Mi.v_asg3, Mi.v_asg2, Mi.v_asg1, Mi.v_asg, Mi.v_gset1, Mi.v_gset, Mi.v_gsub5, Mi.v_gsub4, Mi.v_gsub3, Mi.v_gsub2, Mi.v_gsub1, Mi.v_gsub, Mi.v_gsc1, Mi.v_gsc, Mi.v_gsn1, Mi.v_gsn, Mi.v_for1, Mi.v_for, Mi.v_forc2, Mi.v_forc1, Mi.v_forc, Mi.v_lcc2, Mi.v_lcc1, Mi.v_lcc, Mi.v_lcT3, Mi.v_lcT2, Mi.v_lcT1, Mi.v_lcT, Mi.v_lc4, Mi.v_lc3, Mi.v_lc2, Mi.v_lc1, Mi.v_def4, Mi.v_def3, Mi.v_def2, Mi.v_def1, Mi.v_def, Mi.v_callV4, Mi.v_callV3, Mi.v_callV2, Mi.v_callV1, Mi.v_callV, Mi.v_callP4, Mi.v_callP3, Mi.v_callP2, Mi.v_callP1, Mi.v_callP, Mi.v_callKV5, Mi.v_callKV4, Mi.v_callKV3, Mi.v_callKV2, Mi.v_callKV1, Mi.v_callKV, Mi.v_callKP5, Mi.v_callKP4, Mi.v_callKP3, Mi.v_callKP2, Mi.v_callKP1, Mi.v_callKP, Mi.v_callIO5, Mi.v_callIO4, Mi.v_callIO3, Mi.v_callIO2, Mi.v_callIO1, Mi.v_app7, Mi.v_app6, Mi.v_app5, Mi.v_app4, Mi.v_app3, Mi.v_app2, Mi.v_app1, Mi.v_app, Mi.v_sl6, Mi.v_sl5, Mi.v_sl4, Mi.v_sl3, Mi.v_sl2, Mi.v_sl1, Mi.v_sl, Mi.v_oS2, Mi.v_oS1, Mi.v_oS, Mi.v_iseq3, Mi.v_iseq2, Mi.v_iseq1, Mi.v_iseq, Mi.v_ienum3, Mi.v_ienum2, Mi.v_ienum1, Mi.v_ienum, Mi.v_irg3, Mi.v_irg2, Mi.v_irg1, Mi.v_irg, Mi.v_rgTup3, Mi.v_rgTup2, Mi.v_rgTup1, Mi.v_rgTup, Mi.v_argsc2, Mi.v_argsc1, Mi.v_argsc, Mi.v_putc1, Mi.v_putc, Mi.v_takesc2, Mi.v_takesc1, Mi.v_takesc, Mi.v_contsc2, Mi.v_contsc1, Mi.v_contsc, Mi.v_backsI2, Mi.v_backsI1, Mi.v_backsI, Mi.v_ok, Mi.v_c, Mi.v_nil, Mi.v_next, Mi.v_yes, Mi.v_oN, Mi.v_gtup, Mi.v_var, Mi.v_for0, Mi.v_lc0, Mi.v_args0, Mi.v_put0, Mi.v_takes0, Mi.v_conts0, Mi.v_backs0, Mi.w_add, Mi.w_sub, Mi.w_neg, Mi.w_lt, Mi.w_le, Mi.w_gt, Mi.w_ge, Mi.w_intI, Mi.w_intB, Mi.w_abs, Mi.w_max, Mi.w_min, Mi.w_ix0, Mi.w_ix1, Mi.w_ix2, Mi.w_i0, Mi.w_i1, Mi.w_i2, Mi.pend, Mi.cont, Mi.take, Mi.frz, Mi.frzs, Mi.getP, Mi.setP, Mi.Res.of, Mi.boolOf, Mi.isPl, Mi.mutS, Mi.mutP, Mi.intOf, Mi.move, Mi.retOf, Mi.backs1, Mi.put1, Mi.fzT, Mi.ioOf, Mi.chk, Mi.early, Mi.shut, Mi.isTmp, Mi.flatB, Mi.scal, List.map_cons, List.map_nil, List.cons_append, List.nil_append, List.append_nil, List.replicate_succ, List.replicate_zero, List.replicate, List.length_cons, List.length_nil, List.getElem?_cons_zero, List.getElem?_cons_succ, List.set_cons_zero, List.set_cons_succ, List.all_cons, List.all_nil, List.contains_cons, List.contains_nil, List.elem_cons, List.elem_nil, List.isEmpty_nil, List.isEmpty_cons, Nat.reduceAdd, Nat.reduceSub, Nat.reduceBEq, Nat.reduceLT, Nat.reduceLeDiff, Nat.reduceEqDiff, decide_true, decide_false, Bool.and_true, Bool.true_and, Bool.or_true, Bool.true_or, Bool.or_false, Bool.false_or, Bool.and_false, Bool.false_and, Bool.not_true, Bool.not_false, Bool.false_eq_true, reduceIte, ite_true, ite_false, beq_self_eq_true, Nat.zero_add, reduceCtorEq, and_self, true_and, and_true, ge_iff_le, gt_iff_lt, Nat.succ_eq_add_one, Nat.add_one_sub_one, Nat.zero_lt_succ, Nat.lt_add_left_iff_pos, Mi.wipeE, Mi.restE, Mi.pick, List.filterMap_cons, List.filterMap_nil, c1, m1]
theorem t_6a {q : Int} (ht : tm = 1 ∨ tm = big) (h0 : 0 ≤ q) (h1 : q < 11) (g : Gd (m + 1) β) : ∃ (s : Int) (β' : Bx), lo ≤ s ∧ s ≤ lo + q * tm ∧ Gd m β' ∧ T6a [some (bx β), e1, some (.fz (.int tm)), e3, some (.fz (.int lo)), some (.fz (.int (lo + q * tm))), e6, e7, e8, e9, none] = .ok (.tmp (.fz (.tup [.int lo, .int (lo + q * tm), .int s])), [some (bx β'), e1, some (.fz (.int tm)), e3, some (.fz (.int lo)), some (.fz (.int (lo + q * tm))), e6, e7, e8, e9, none]) := by
  have tp : 0 < tm := by rcases ht with z | z <;> subst z <;> decide
  have tl : tm ≤ big := by rcases ht with z | z <;> subst z <;> decide
  have tb : tm.natAbs < 2 ^ 9000 := Nat.lt_of_lt_of_le (show tm.natAbs < 2 ^ 100 by unfold big at tl; omega) (Nat.pow_le_pow_right (by decide) (by decide))
  have qd : (lo + q * tm - lo) / tm = q := by
    rw [show lo + q * tm - lo = q * tm by omega]
    exact Int.mul_ediv_cancel q (by omega)
  obtain ⟨r, β1, r0, r1, g1, te⟩ := take_ok (n := q + 1) g (by omega) (by omega)
  have d1 : fDiv (.fz (.int (lo + q * tm - lo))) (.fz (.int tm)) = .ok (.fz (.int q)) := by rw [w_divB tp tb, qd]
  have cn : cBin fAdd true (cBin fDiv true (cBin fSub true (cVar 5) (cVar 4)) (cVar 2)) (cC (.int 1)) [some (bx β), e1, some (.fz (.int tm)), e3, some (.fz (.int lo)), some (.fz (.int (lo + q * tm))), e6, e7, e8, e9, none] = .ok (.tmp (.fz (.int (q + 1))), [some (bx β), e1, some (.fz (.int tm)), e3, some (.fz (.int lo)), some (.fz (.int (lo + q * tm))), e6, e7, e8, e9, none]) := by
    simp only [Mi.v_bin6, Mi.v_bin5, Mi.v_bin4, Mi.v_bin3, Mi.v_bin2, Mi.v_bin1, Mi.v_bin, Mi.v_un3, Mi.v_un2, Mi.v_un1, Mi.v_un, Mi.v_test2, Mi.v_test1, Mi.v_test, Mi.v_cons3, Mi.v_cons2, Mi.v_cons1, Mi.v_cons, Mi.v_star4, Mi.v_star3, Mi.v_star2, Mi.v_star1, Mi.v_star, Mi.v_tup4, Mi.v_tup3, Mi.v_tup2, Mi.v_tup1, Mi.v_lst4, Mi.v_lst3, Mi.v_lst2, Mi.v_lst1, Mi.v_callB3, Mi.v_callB2, Mi.v_callB1, Mi.v_callB, Mi.v_andT1, Mi.v_andT, Mi.v_orT1, Mi.v_orT, Mi.v_notT1, Mi.v_notT, Mi.v_and2, Mi.v_and1, Mi.v_and, Mi.v_or2, Mi.v_or1, Mi.v_or, Mi.v_not2, Mi.v_not1, Mi.v_not, Mi.v_if1, Mi.v_if, Mi.v_orL1, Mi.v_orL, Mi.v_seq1, Mi.v_seq, Mi.v_ifS1, Mi.v_ifS, Mi.v_ret2, Mi.v_ret1, Mi.v_ret, Mi.v_drop1, Mi.v_drop, Mi.v_asg3, Mi.v_asg2, Mi.v_asg1, Mi.v_asg, Mi.v_gset1, Mi.v_gset, Mi.v_gsub5, Mi.v_gsub4, Mi.v_gsub3, Mi.v_gsub2, Mi.v_gsub1, Mi.v_gsub, Mi.v_gsc1, Mi.v_gsc, Mi.v_gsn1, Mi.v_gsn, Mi.v_for1, Mi.v_for, Mi.v_forc2, Mi.v_forc1, Mi.v_forc, Mi.v_lcc2, Mi.v_lcc1, Mi.v_lcc, Mi.v_lcT3, Mi.v_lcT2, Mi.v_lcT1, Mi.v_lcT, Mi.v_lc4, Mi.v_lc3, Mi.v_lc2, Mi.v_lc1, Mi.v_def4, Mi.v_def3, Mi.v_def2, Mi.v_def1, Mi.v_def, Mi.v_callV4, Mi.v_callV3, Mi.v_callV2, Mi.v_callV1, Mi.v_callV, Mi.v_callP4, Mi.v_callP3, Mi.v_callP2, Mi.v_callP1, Mi.v_callP, Mi.v_callKV5, Mi.v_callKV4, Mi.v_callKV3, Mi.v_callKV2, Mi.v_callKV1, Mi.v_callKV, Mi.v_callKP5, Mi.v_callKP4, Mi.v_callKP3, Mi.v_callKP2, Mi.v_callKP1, Mi.v_callKP, Mi.v_callIO5, Mi.v_callIO4, Mi.v_callIO3, Mi.v_callIO2, Mi.v_callIO1, Mi.v_app7, Mi.v_app6, Mi.v_app5, Mi.v_app4, Mi.v_app3, Mi.v_app2, Mi.v_app1, Mi.v_app, Mi.v_sl6, Mi.v_sl5, Mi.v_sl4, Mi.v_sl3, Mi.v_sl2, Mi.v_sl1, Mi.v_sl, Mi.v_oS2, Mi.v_oS1, Mi.v_oS, Mi.v_iseq3, Mi.v_iseq2, Mi.v_iseq1, Mi.v_iseq, Mi.v_ienum3, Mi.v_ienum2, Mi.v_ienum1, Mi.v_ienum, Mi.v_irg3, Mi.v_irg2, Mi.v_irg1, Mi.v_irg, Mi.v_rgTup3, Mi.v_rgTup2, Mi.v_rgTup1, Mi.v_rgTup, Mi.v_argsc2, Mi.v_argsc1, Mi.v_argsc, Mi.v_putc1, Mi.v_putc, Mi.v_takesc2, Mi.v_takesc1, Mi.v_takesc, Mi.v_contsc2, Mi.v_contsc1, Mi.v_contsc, Mi.v_backsI2, Mi.v_backsI1, Mi.v_backsI, Mi.v_ok, Mi.v_c, Mi.v_nil, Mi.v_next, Mi.v_yes, Mi.v_oN, Mi.v_gtup, Mi.v_var, Mi.v_for0, Mi.v_lc0, Mi.v_args0, Mi.v_put0, Mi.v_takes0, Mi.v_conts0, Mi.v_backs0, Mi.w_add, Mi.w_sub, Mi.w_neg, Mi.w_lt, Mi.w_le, Mi.w_gt, Mi.w_ge, Mi.w_intI, Mi.w_intB, Mi.w_abs, Mi.w_max, Mi.w_min, Mi.w_ix0, Mi.w_ix1, Mi.w_ix2, Mi.w_i0, Mi.w_i1, Mi.w_i2, Mi.pend, Mi.cont, Mi.take, Mi.frz, Mi.frzs, Mi.getP, Mi.setP, Mi.Res.of, Mi.boolOf, Mi.isPl, Mi.mutS, Mi.mutP, Mi.intOf, Mi.move, Mi.retOf, Mi.backs1, Mi.put1, Mi.fzT, Mi.ioOf, Mi.chk, Mi.early, Mi.shut, Mi.isTmp, Mi.flatB, Mi.scal, List.map_cons, List.map_nil, List.cons_append, List.nil_append, List.append_nil, List.replicate_succ, List.replicate_zero, List.replicate, List.length_cons, List.length_nil, List.getElem?_cons_zero, List.getElem?_cons_succ, List.set_cons_zero, List.set_cons_succ, List.all_cons, List.all_nil, List.contains_cons, List.contains_nil, List.elem_cons, List.elem_nil, List.isEmpty_nil, List.isEmpty_cons, Nat.reduceAdd, Nat.reduceSub, Nat.reduceBEq, Nat.reduceLT, Nat.reduceLeDiff, Nat.reduceEqDiff, decide_true, decide_false, Bool.and_true, Bool.true_and, Bool.or_true, Bool.true_or, Bool.or_false, Bool.false_or, Bool.and_false, Bool.false_and, Bool.not_true, Bool.not_false, Bool.false_eq_true, reduceIte, ite_true, ite_false, beq_self_eq_true, Nat.zero_add, reduceCtorEq, and_self, true_and, and_true, ge_iff_le, gt_iff_lt, Nat.succ_eq_add_one, Nat.add_one_sub_one, Nat.zero_lt_succ, Nat.lt_add_left_iff_pos, Mi.wipeE, Mi.restE, Mi.pick, List.filterMap_cons, List.filterMap_nil, d1]
  have c1 := callTake (ρ := [e1, some (.fz (.int tm)), e3, some (.fz (.int lo)), some (.fz (.int (lo + q * tm))), e6, e7, e8, e9, none]) te cn
  have m1 : fMul (.fz (.int r)) (.fz (.int tm)) = .ok (.fz (.int (r * tm))) := w_mulL (by omega)
  have k0 : 0 ≤ r * tm := Int.mul_nonneg r0 (by omega)
  have k1 : r * tm ≤ q * tm := Int.mul_le_mul_of_nonneg_right (by omega) (by omega)
  refine ⟨lo + r * tm, β1, by omega, by omega, g1, ?_⟩
  have h1 : (cCons false (cVar 4) (cCons false (cVar 5) (cCons true (cBin fAdd false (cVar 4) (cBin fMul true (cCallIO F_law_take (ioOf [0]) (cCons true (cVar 0) (cCons true (cBin fAdd true (cBin fDiv true (cBin fSub true (cVar 5) (cVar 4)) (cVar 2)) (cC (.int 1))) cNil))) (cVar 2))) cNil))) [some (bx β), e1, some (.fz (.int tm)), e3, some (.fz (.int lo)), some (.fz (.int (lo + q * tm))), e6, e7, e8, e9, none] = .ok ([.tmp (.fz (.int lo)), .tmp (.fz (.int (lo + q * tm))), .tmp (.fz (.int (lo + r * tm)))], [some (bx β1), e1, some (.fz (.int tm)), e3, some (.fz (.int lo)), some (.fz (.int (lo + q * tm))), e6, e7, e8, e9, none]) := by
    simp only [Mi.v_bin6, Mi.v_bin5, Mi.v_bin4, Mi.v_bin3, Mi.v_bin2, Mi.v_bin1, Mi.v_bin, Mi.v_un3, Mi.v_un2, Mi.v_un1, Mi.v_un, Mi.v_test2, Mi.v_test1, Mi.v_test, Mi.v_cons3, Mi.v_cons2, Mi.v_cons1, Mi.v_cons, Mi.v_star4, Mi.v_star3, Mi.v_star2, Mi.v_star1, Mi.v_star, Mi.v_tup4, Mi.v_tup3, Mi.v_tup2, Mi.v_tup1, Mi.v_lst4, Mi.v_lst3, Mi.v_lst2, Mi.v_lst1, Mi.v_callB3, Mi.v_callB2, Mi.v_callB1, Mi.v_callB, Mi.v_andT1, Mi.v_andT, Mi.v_orT1, Mi.v_orT, Mi.v_notT1, Mi.v_notT, Mi.v_and2, Mi.v_and1, Mi.v_and, Mi.v_or2, Mi.v_or1, Mi.v_or, Mi.v_not2, Mi.v_not1, Mi.v_not, Mi.v_if1, Mi.v_if, Mi.v_orL1, Mi.v_orL, Mi.v_seq1, Mi.v_seq, Mi.v_ifS1, Mi.v_ifS, Mi.v_ret2, Mi.v_ret1, Mi.v_ret, Mi.v_drop1, Mi.v_drop, Mi.v_asg3, Mi.v_asg2, Mi.v_asg1, Mi.v_asg, Mi.v_gset1, Mi.v_gset, Mi.v_gsub5, Mi.v_gsub4, Mi.v_gsub3, Mi.v_gsub2, Mi.v_gsub1, Mi.v_gsub, Mi.v_gsc1, Mi.v_gsc, Mi.v_gsn1, Mi.v_gsn, Mi.v_for1, Mi.v_for, Mi.v_forc2, Mi.v_forc1, Mi.v_forc, Mi.v_lcc2, Mi.v_lcc1, Mi.v_lcc, Mi.v_lcT3, Mi.v_lcT2, Mi.v_lcT1, Mi.v_lcT, Mi.v_lc4, Mi.v_lc3, Mi.v_lc2, Mi.v_lc1, Mi.v_def4, Mi.v_def3, Mi.v_def2, Mi.v_def1, Mi.v_def, Mi.v_callV4, Mi.v_callV3, Mi.v_callV2, Mi.v_callV1, Mi.v_callV, Mi.v_callP4, Mi.v_callP3, Mi.v_callP2, Mi.v_callP1, Mi.v_callP, Mi.v_callKV5, Mi.v_callKV4, Mi.v_callKV3, Mi.v_callKV2, Mi.v_callKV1, Mi.v_callKV, Mi.v_callKP5, Mi.v_callKP4, Mi.v_callKP3, Mi.v_callKP2, Mi.v_callKP1, Mi.v_callKP, Mi.v_callIO5, Mi.v_callIO4, Mi.v_callIO3, Mi.v_callIO2, Mi.v_callIO1, Mi.v_app7, Mi.v_app6, Mi.v_app5, Mi.v_app4, Mi.v_app3, Mi.v_app2, Mi.v_app1, Mi.v_app, Mi.v_sl6, Mi.v_sl5, Mi.v_sl4, Mi.v_sl3, Mi.v_sl2, Mi.v_sl1, Mi.v_sl, Mi.v_oS2, Mi.v_oS1, Mi.v_oS, Mi.v_iseq3, Mi.v_iseq2, Mi.v_iseq1, Mi.v_iseq, Mi.v_ienum3, Mi.v_ienum2, Mi.v_ienum1, Mi.v_ienum, Mi.v_irg3, Mi.v_irg2, Mi.v_irg1, Mi.v_irg, Mi.v_rgTup3, Mi.v_rgTup2, Mi.v_rgTup1, Mi.v_rgTup, Mi.v_argsc2, Mi.v_argsc1, Mi.v_argsc, Mi.v_putc1, Mi.v_putc, Mi.v_takesc2, Mi.v_takesc1, Mi.v_takesc, Mi.v_contsc2, Mi.v_contsc1, Mi.v_contsc, Mi.v_backsI2, Mi.v_backsI1, Mi.v_backsI, Mi.v_ok, Mi.v_c, Mi.v_nil, Mi.v_next, Mi.v_yes, Mi.v_oN, Mi.v_gtup, Mi.v_var, Mi.v_for0, Mi.v_lc0, Mi.v_args0, Mi.v_put0, Mi.v_takes0, Mi.v_conts0, Mi.v_backs0, Mi.w_add, Mi.w_sub, Mi.w_neg, Mi.w_lt, Mi.w_le, Mi.w_gt, Mi.w_ge, Mi.w_intI, Mi.w_intB, Mi.w_abs, Mi.w_max, Mi.w_min, Mi.w_ix0, Mi.w_ix1, Mi.w_ix2, Mi.w_i0, Mi.w_i1, Mi.w_i2, Mi.pend, Mi.cont, Mi.take, Mi.frz, Mi.frzs, Mi.getP, Mi.setP, Mi.Res.of, Mi.boolOf, Mi.isPl, Mi.mutS, Mi.mutP, Mi.intOf, Mi.move, Mi.retOf, Mi.backs1, Mi.put1, Mi.fzT, Mi.ioOf, Mi.chk, Mi.early, Mi.shut, Mi.isTmp, Mi.flatB, Mi.scal, List.map_cons, List.map_nil, List.cons_append, List.nil_append, List.append_nil, List.replicate_succ, List.replicate_zero, List.replicate, List.length_cons, List.length_nil, List.getElem?_cons_zero, List.getElem?_cons_succ, List.set_cons_zero, List.set_cons_succ, List.all_cons, List.all_nil, List.contains_cons, List.contains_nil, List.elem_cons, List.elem_nil, List.isEmpty_nil, List.isEmpty_cons, Nat.reduceAdd, Nat.reduceSub, Nat.reduceBEq, Nat.reduceLT, Nat.reduceLeDiff, Nat.reduceEqDiff, decide_true, decide_false, Bool.and_true, Bool.true_and, Bool.or_true, Bool.true_or, Bool.or_false, Bool.false_or, Bool.and_false, Bool.false_and, Bool.not_true, Bool.not_false, Bool.false_eq_true, reduceIte, ite_true, ite_false, beq_self_eq_true, Nat.zero_add, reduceCtorEq, and_self, true_and, and_true, ge_iff_le, gt_iff_lt, Nat.succ_eq_add_one, Nat.add_one_sub_one, Nat.zero_lt_succ, Nat.lt_add_left_iff_pos, Mi.wipeE, Mi.restE, Mi.pick, List.filterMap_cons, List.filterMap_nil, c1, m1]
  exact tupv (q := false) h1 rfl (ws := [.fz (.int lo), .fz (.int (lo + q * tm)), .fz (.int (lo + r * tm))]) rfl (Nat.lt_of_lt_of_le (show 3 < 1000 by decide) (by omega))
theorem t_6 {q : Int} (hn : gs.length ≤ 5) (ht : tm = 1 ∨ tm = big) (h0 : 0 ≤ q) (h1 : q < 11) (g : Gd (m + 1) β) : ∃ (β' : Bx) (v x y z : Option W), Gd m β' ∧ T6 [some (bx β), e1, some (.fz (.int tm)), some (.fz (.tup (gs.map D.int))), some (.fz (.int lo)), some (.fz (.int (lo + q * tm))), e6, e7, e8, e9, none] = .ok (.nx, [some (bx β'), e1, some (.fz (.int tm)), some (.fz (.tup (gs.map D.int))), some (.fz (.int lo)), some (.fz (.int (lo + q * tm))), v, x, y, z, none]) := by
  obtain ⟨s, β', a1, a2, g', e⟩ := t_6a (e1 := e1) (e3 := some (.fz (.tup (gs.map D.int)))) (e6 := e6) (e7 := e7) (e8 := e8) (e9 := e9) (lo := lo) ht h0 h1 g
  obtain ⟨v, x, y, z, lp⟩ := near_loop (β := β') (tn := e1) (tm := some (.fz (.int tm))) (gs := gs) (lo := lo) (hi := lo + q * tm) hn [lo, lo + q * tm, s] e6 e7 e8 e9 (fun u hu => by
    have tp : 0 < tm := by rcases ht with z | z <;> subst z <;> decide
    have k0 : 0 ≤ q * tm := Int.mul_nonneg h0 (by omega)
    simp only [List.mem_cons, List.not_mem_nil, or_false] at hu
    rcases hu with z | z | z <;> subst z <;> omega)
  refine ⟨β', v, x, y, z, g', ?_⟩
  generalize hB : bodyN = bd at *
  have tk : ∀ ρ : En, take (.tmp (.fz (.tup [.int lo, .int (lo + q * tm), .int s]))) ρ = .ok (.fz (.tup [.int lo, .int (lo + q * tm), .int s]), ρ) := fun _ => rfl
  have sr : Res.of (srcV (.fz (.tup [.int lo, .int (lo + q * tm), .int s]))) = .ok ([lo, lo + q * tm, s].map D.int) := rfl
  show cFor (iSeq T6a) (gSet 6) bodyN _ = _
  rw [hB, Mi.v_for, Mi.v_iseq, e, Mi.v_ok, Mi.v_iseq1, tk, Mi.v_ok, Mi.v_iseq2, sr, Mi.v_ok, Mi.v_iseq3, Mi.v_ok, Mi.v_for1]
  exact lp
theorem turn_ok (g : Gd (m + 20) β) : ∃ (β' : Bx) (f2 f3 f4 f5 f6 f7 f8 f9 : Option W), Gd m β' ∧ bodyT [some (bx β), e1, e2, e3, e4, e5, e6, e7, e8, e9, none] = .ok (.nx, [some (bx β'), e1, f2, f3, f4, f5, f6, f7, f8, f9, none]) := by
  obtain ⟨tm, β2, ht, g2, c2⟩ := t_2 (m := m + 19) (e1 := e1) (e2 := e2) (e3 := e3) (e4 := e4) (e5 := e5) (e6 := e6) (e7 := e7) (e8 := e8) (e9 := e9) g
  obtain ⟨gs, β3, hn, g3, c3⟩ := t_3 (m := m + 13) (tm := tm) (e1 := e1) (e3 := e3) (e4 := e4) (e5 := e5) (e6 := e6) (e7 := e7) (e8 := e8) (e9 := e9) g2
  obtain ⟨lo, β4, g4, c4⟩ := t_4 (m := m + 12) (tm := tm) (e1 := e1) (e3 := some (.fz (.tup (gs.map D.int)))) (e4 := e4) (e5 := e5) (e6 := e6) (e7 := e7) (e8 := e8) (e9 := e9) g3
  obtain ⟨q, β5, q0, q1, g5, c5⟩ := t_5 (m := m + 11) (tm := tm) (lo := lo) (e1 := e1) (e3 := some (.fz (.tup (gs.map D.int)))) (e5 := e5) (e6 := e6) (e7 := e7) (e8 := e8) (e9 := e9) g4
  obtain ⟨β6, v, x, y, z, g6, c6⟩ := t_6 (m := m + 10) (tm := tm) (lo := lo) (e1 := e1) (e6 := e6) (e7 := e7) (e8 := e8) (e9 := e9) hn ht q0 q1 g5
  exact ⟨β6, _, _, _, _, _, _, _, _, g6.le (by omega), (seqN c2).trans ((seqN c3).trans ((seqN c4).trans ((seqN c5).trans c6)))⟩
end
theorem turns : ∀ (l : List D) (β : Bx) (e1 e2 e3 e4 e5 e6 e7 e8 e9 : Option W), Gd (20 * l.length) β → ∃ (β' : Bx) (f1 f2 f3 f4 f5 f6 f7 f8 f9 : Option W), forL (gSet 1) bodyT l [some (bx β), e1, e2, e3, e4, e5, e6, e7, e8, e9, none] = .ok (.nx, [some (bx β'), f1, f2, f3, f4, f5, f6, f7, f8, f9, none])
  | [], β, e1, e2, e3, e4, e5, e6, e7, e8, e9, g => ⟨β, e1, e2, e3, e4, e5, e6, e7, e8, e9, rfl⟩
  | d :: l, β, e1, e2, e3, e4, e5, e6, e7, e8, e9, g => by
    obtain ⟨β1, f2, f3, f4, f5, f6, f7, f8, f9, g1, c⟩ := turn_ok (m := 20 * l.length) (e1 := some (.fz d)) (e2 := e2) (e3 := e3) (e4 := e4) (e5 := e5) (e6 := e6) (e7 := e7) (e8 := e8) (e9 := e9) (β := β) (g.le (by simp only [List.length_cons]; omega))
    obtain ⟨β', h1, h2, h3, h4, h5, h6, h7, h8, h9, c'⟩ := turns l β1 (some (.fz d)) f2 f3 f4 f5 f6 f7 f8 f9 g1
    refine ⟨β', h1, h2, h3, h4, h5, h6, h7, h8, h9, ?_⟩
    generalize bodyT = bd at *
    have gg : gSet 1 (.fz d) [some (bx β), e1, e2, e3, e4, e5, e6, e7, e8, e9, none] = .ok [some (bx β), some (.fz d), e2, e3, e4, e5, e6, e7, e8, e9, none] := rfl
    rw [Mi.v_forc, gg, Mi.v_ok, Mi.v_forc1, c, Mi.v_ok, Mi.v_forc2]
    exact c'
theorem right_ok : Rk := fun β h => by
  obtain ⟨β', f1, f2, f3, f4, f5, f6, f7, f8, f9, c⟩ := turns (rangeD 0 6) β none none none none none none none none none ⟨by omega, by show β.c + ((20 * 6 : Nat) : Int) < 2 ^ 60; omega⟩
  have c0 : iRange1 (cC (.int 6)) [some (bx β), none, none, none, none, none, none, none, none, none, none] = .ok (rangeD 0 6, [some (bx β), none, none, none, none, none, none, none, none, none, none]) := by
    have cb : decide (-(2 ^ 62) ≤ (6 : Int) ∧ (6 : Int) < 2 ^ 62) = true := decide_eq_true (by omega)
    have ci : intOf (.tmp (.fz (.int 6))) = .ok (6 : Int) := rfl
    rw [Mi.v_irg, Mi.v_c, Mi.v_ok, Mi.v_irg1, ci, Mi.v_ok, Mi.v_irg2, cb, cT, Mi.v_ok, Mi.v_irg3]
    rfl
  have c1 : cFor (iRange1 (cC (.int 6))) (gSet 1) bodyT [some (bx β), none, none, none, none, none, none, none, none, none, none] = .ok (.nx, [some (bx β'), f1, f2, f3, f4, f5, f6, f7, f8, f9, none]) := by
    rw [Mi.v_for, c0, Mi.v_ok, Mi.v_for1]; exact c
  have c2 : cRet (cC (.bl true)) [some (bx β'), f1, f2, f3, f4, f5, f6, f7, f8, f9, none] = .ok (.ret (.fz (.bl true)), [some (bx β'), f1, f2, f3, f4, f5, f6, f7, f8, f9, none]) := rfl
  have c3 : m_law_right [some (bx β), none, none, none, none, none, none, none, none, none, none] = .ok (.ret (.fz (.bl true)), [some (bx β'), f1, f2, f3, f4, f5, f6, f7, f8, f9, none]) := (seqN c1).trans c2
  exact ⟨β', defv rfl rfl c3 rfl⟩
theorem hand : F_law_by_hand_right [] = .ok (.fz (.bl true), []) := by kernel_rfl
end Gn
theorem PySem.Challenge.cw_boundedlevels_k45_held_additions_holds : PySem.Challenge.rw_boundedlevels_k45_held_additions.Holds :=
  Gn.law_holds (Gn.law_all Gn.hand Gn.right_ok)
