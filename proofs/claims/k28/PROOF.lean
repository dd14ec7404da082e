import PyProof.Rows.All
import HandS.ForMost
import HandS.Star
import HandS.Defaults
import HandS.Slots
import HandS.SlotsOwn
import HandS.Wide
import HandS.TupAny
import HandS.TupMul
import HandS.IsInst
import HandS.Flow
import KE.GoesEnum
import HandS.Zip
import HandS.Conv
import HandS.Style
import HandS.NoneIn
import KE.KOpsOwn
import HandS.HeadHook1
import HandS.HeadHook2
import HandS.Head2
import HandS.Set
import HandS.Strs
import HandS.SetFor
import HandS.SortInts
import HandS.Exc
import HandS.ExcOwn
import HandS.ExcInit
import HandS.ExcField
import KE.KExcIs
import HandS.TryOnly
import HandS.ExcValue
import HandS.Iter
import HandS.HeadHook3
import HandS.TupSets
import HandS.Deep
import HandS.MakeKw
import HandS.ListItems
import HandS.TupLe
import HandS.FStr
import HandS.SortRule
import HandS.ReplaceLit
import HandS.More
import HandS.SortOrd
import KE.SortData
import KE.GoesNew
import PySem.Challenge.RW_boundedlevels_k28_events_rows_and_their
import Wide.All
import OpenK.AllK
import Wide.FinOn
import KE.KStateDown
import Lean
import HandS.Ends
import HandS.Head0
import HandS.Head1
import HandS.HeadEnd
set_option Elab.async false
set_option linter.all false
set_option maxRecDepth 100000
set_option maxHeartbeats 0
namespace Mi
open PySem PySem.Spec PyProof.Rows L2
inductive D where
  | non | bl (b : Bool) | int (i : Int) | str (s : Str)
  | tup (xs : List D) | lst (xs : List D) | obj (c : Nat) (fs : List D)
  /-- the script: a list that is only read -/
  | scr (xs : List D)
  /-- a caught exception of a class of the text, with those of its fields that hold numbers -/
  | exc (c : Nat) (fs : List (Str × Int))
  /-- a dict that is only read: its keys, what they lead to -/
  | dct (ks : List Key) (ds : List D)
structure Cfg where
  K : PySem.W.Frag
  cl : Nat → Addr
abbrev AP := Addr → Prop
abbrev Sg := L2.St
def Keep (H : Hp) (O : AP) (H' : Hp) (O' : AP) : Prop := ∀ a o, H a = some o → ¬ O a → H' a = some o ∧ ¬ O' a
def Tp (C : Cfg) (H : Hp) (O : AP) (a : Addr) (xs : List V) : Prop :=
  (Rd H a (.tup xs) ∧ ¬ O a) ∨
    ∃ (o : Obj) (its : Array Value) (n : Nat), C.K.lookup a = some o ∧ o.cls = .type "tuple" ∧ o.data = .seq its n ∧ its.size ≤ sizeLine ∧ Vals xs its.toList
theorem Tp.sq {C : Cfg} {H : Hp} {O : AP} {a : Addr} {xs : List V} (h : Tp C H O a xs) : SqT C.K H a xs := by
  rcases h with ⟨h, _⟩ | h
  · exact .inl h
  · exact .inr h
theorem Rd.keep {H H' : Hp} {O O' : AP} {a : Addr} {u : HO} (k : Keep H O H' O') (h : Rd H a u) (n : ¬ O a) : Rd H' a u ∧ ¬ O' a := by
  rcases h with h | ⟨o, h⟩
  · obtain ⟨q, r⟩ := k _ _ h n; exact ⟨.inl q, r⟩
  · obtain ⟨q, r⟩ := k _ _ h n; exact ⟨.inr ⟨o, q⟩, r⟩
theorem Tp.keep {C : Cfg} {H H' : Hp} {O O' : AP} {a : Addr} {xs : List V} (k : Keep H O H' O') (h : Tp C H O a xs) : Tp C H' O' a xs := by
  rcases h with ⟨h, n⟩ | h
  · exact .inl (Rd.keep k h n)
  · exact .inr h
def Sc (C : Cfg) (H : Hp) (O : AP) (a : Addr) (xs : List V) : Prop :=
  (Rd H a (.lst xs) ∧ ¬ O a) ∨
    ∃ (o : Obj) (its : Array Value) (n : Nat), C.K.lookup a = some o ∧ o.cls = .type "list" ∧ o.dict = none ∧ o.data = .seq its n ∧ its.size ≤ sizeLine ∧ Vals xs its.toList
theorem Sc.sq {C : Cfg} {H : Hp} {O : AP} {a : Addr} {xs : List V} (h : Sc C H O a xs) : SqL C.K H a xs := by
  rcases h with ⟨h, _⟩ | h
  · exact .inl h
  · exact .inr h
theorem Sc.keep {C : Cfg} {H H' : Hp} {O O' : AP} {a : Addr} {xs : List V} (k : Keep H O H' O') (h : Sc C H O a xs) : Sc C H' O' a xs := by
  rcases h with ⟨h, n⟩ | h
  · exact .inl (Rd.keep k h n)
  · exact .inr h
def exk (a C dd : Addr) : HO := .ext fun h => ∃ (oe : Obj) (vs : Array Value), h.get? a = some oe ∧ oe.cls = .ref C ∧ oe.dict = some dd ∧ oe.data = .fields vs
mutual
def RepD (C : Cfg) (H : Hp) (O : AP) : D → V → Prop
  | .non, v => v = .non
  | .bl b, v => v = .bl b
  | .int i, v => v = .int i
  | .str s, v => v = .str s
  | .tup ds, v => ∃ a xs, v = .ref a ∧ Tp C H O a xs ∧ RepDs C H O ds xs
  | .lst ds, v => ∃ a xs, v = .ref a ∧ H a = some (.lst xs) ∧ ¬ O a ∧ RepDs C H O ds xs
  | .scr ds, v => ∃ a xs, v = .ref a ∧ Sc C H O a xs ∧ RepDs C H O ds xs
  | .obj c fs, v => ∃ a dx xs, v = .ref a ∧ H dx = some (.xd []) ∧ dx ≠ a ∧ H a = some (SlX.SlO a (C.cl c) dx (xs.map some)) ∧ ¬ O a ∧ ¬ O dx ∧ RepDs C H O fs xs
  | .exc c fs, v => ∃ (a dd : Addr) (gs : List (Str × V)), v = .ref a ∧ H a = some (exk a (C.cl c) dd) ∧ H dd = some (.xd gs) ∧ ¬ O a ∧ ¬ O dd ∧ ∀ p ∈ fs, gs.lookup p.1 = some (V.int p.2)
  | .dct ks ds, v => ∃ a xs, v = .ref a ∧ H a = some (.dK (ks.zip xs)) ∧ ¬ O a ∧ RepDs C H O ds xs
def RepDs (C : Cfg) (H : Hp) (O : AP) : List D → List V → Prop
  | [], xs => xs = []
  | d :: ds, xs => ∃ x r, xs = x :: r ∧ RepD C H O d x ∧ RepDs C H O ds r
end
mutual
theorem RepD.keep {C : Cfg} {H H' : Hp} {O O' : AP} (k : Keep H O H' O') : ∀ (d : D) (v : V), RepD C H O d v → RepD C H' O' d v
  | .non, v, h => h
  | .bl b, v, h => h
  | .int i, v, h => h
  | .str s, v, h => h
  | .tup ds, v, h => by
    obtain ⟨a, xs, e, t, r⟩ := h
    exact ⟨a, xs, e, t.keep k, RepDs.keep k ds xs r⟩
  | .lst ds, v, h => by
    obtain ⟨a, xs, e, t, n, r⟩ := h
    obtain ⟨t', n'⟩ := k _ _ t n
    exact ⟨a, xs, e, t', n', RepDs.keep k ds xs r⟩
  | .scr ds, v, h => by
    obtain ⟨a, xs, e, t, r⟩ := h
    exact ⟨a, xs, e, t.keep k, RepDs.keep k ds xs r⟩
  | .obj c fs, v, h => by
    obtain ⟨a, dx, xs, e, h1, h2, h3, n1, n2, r⟩ := h
    exact ⟨a, dx, xs, e, (k _ _ h1 n2).1, h2, (k _ _ h3 n1).1, (k _ _ h3 n1).2, (k _ _ h1 n2).2, RepDs.keep k fs xs r⟩
  | .exc c fs, v, h => by
    obtain ⟨a, dd, gs, e, h1, h2, n1, n2, r⟩ := h
    exact ⟨a, dd, gs, e, (k _ _ h1 n1).1, (k _ _ h2 n2).1, (k _ _ h1 n1).2, (k _ _ h2 n2).2, r⟩
  | .dct ks ds, v, h => by
    obtain ⟨a, xs, e, t, n, r⟩ := h
    obtain ⟨t', n'⟩ := k _ _ t n
    exact ⟨a, xs, e, t', n', RepDs.keep k ds xs r⟩
theorem RepDs.keep {C : Cfg} {H H' : Hp} {O O' : AP} (k : Keep H O H' O') : ∀ (ds : List D) (xs : List V), RepDs C H O ds xs → RepDs C H' O' ds xs
  | [], xs, h => h
  | d :: ds, xs, h => by
    obtain ⟨x, r, e, h1, h2⟩ := h
    exact ⟨x, r, e, RepD.keep k d x h1, RepDs.keep k ds r h2⟩
end
theorem RepDs.length {C : Cfg} {H : Hp} {O : AP} : ∀ {ds : List D} {xs : List V}, RepDs C H O ds xs → xs.length = ds.length
  | [], _, h => by rw [show _ = [] from h]; rfl
  | d :: ds, xs, h => by
    obtain ⟨x, r, e, _, h2⟩ := h
    rw [e, List.length_cons, List.length_cons, RepDs.length h2]
theorem RepDs.get {C : Cfg} {H : Hp} {O : AP} : ∀ {ds : List D} {xs : List V} {i : Nat} {d : D}, RepDs C H O ds xs → ds[i]? = some d → ∃ x, xs[i]? = some x ∧ RepD C H O d x
  | [], _, _, _, _, e => by simp at e
  | d :: ds, xs, 0, d', h, e => by
    obtain ⟨x, r, e1, h1, h2⟩ := h
    simp at e; subst e; subst e1
    exact ⟨x, by simp, h1⟩
  | d :: ds, xs, i + 1, d', h, e => by
    obtain ⟨x, r, e1, h1, h2⟩ := h
    subst e1
    obtain ⟨y, q1, q2⟩ := RepDs.get (i := i) h2 (by simpa using e)
    exact ⟨y, by simpa using q1, q2⟩
theorem RepDs.nil {C : Cfg} {H : Hp} {O : AP} : RepDs C H O [] [] := rfl
theorem RepDs.cons {C : Cfg} {H : Hp} {O : AP} {d : D} {x : V} {ds : List D} {xs : List V} (h : RepD C H O d x) (r : RepDs C H O ds xs) : RepDs C H O (d :: ds) (x :: xs) := ⟨x, xs, rfl, h, r⟩
theorem RepDs.append {C : Cfg} {H : Hp} {O : AP} : ∀ {ds : List D} {xs : List V} {es : List D} {ys : List V}, RepDs C H O ds xs → RepDs C H O es ys → RepDs C H O (ds ++ es) (xs ++ ys)
  | [], xs, es, ys, h, g => by rw [show xs = [] from h]; exact g
  | d :: ds, xs, es, ys, h, g => by
    obtain ⟨x, r, e, h1, h2⟩ := h
    subst e
    exact .cons h1 (RepDs.append h2 g)
theorem RepDs.take {C : Cfg} {H : Hp} {O : AP} : ∀ {ds : List D} {xs : List V} (n : Nat), RepDs C H O ds xs → RepDs C H O (ds.take n) (xs.take n)
  | [], xs, n, h => by rw [show xs = [] from h]; simp [RepDs]
  | d :: ds, xs, 0, h => by simp [RepDs]
  | d :: ds, xs, n + 1, h => by
    obtain ⟨x, r, e, h1, h2⟩ := h
    subst e
    exact .cons h1 (RepDs.take n h2)
theorem RepDs.drop {C : Cfg} {H : Hp} {O : AP} : ∀ {ds : List D} {xs : List V} (n : Nat), RepDs C H O ds xs → RepDs C H O (ds.drop n) (xs.drop n)
  | [], xs, n, h => by rw [show xs = [] from h]; simp [RepDs]
  | d :: ds, xs, 0, h => by simpa using h
  | d :: ds, xs, n + 1, h => by
    obtain ⟨x, r, e, h1, h2⟩ := h
    subst e
    simpa using RepDs.drop n h2
inductive W where
  | fz (d : D)
  | lst (ws : List W)
mutual
def frz : W → D
  | .fz d => d
  | .lst ws => .lst (frzs ws)
def frzs : List W → List D
  | [] => []
  | w :: ws => frz w :: frzs ws
end
theorem frzs_map : ∀ ws : List W, frzs ws = ws.map frz
  | [] => rfl
  | w :: ws => by rw [frzs, frzs_map ws]; rfl
theorem frzs_fz : ∀ ds : List D, frzs (ds.map W.fz) = ds
  | [] => rfl
  | d :: ds => by show frz (.fz d) :: frzs (ds.map W.fz) = _; rw [frzs_fz ds]; rfl
mutual
def RepW (C : Cfg) (H : Hp) (O : AP) : W → V → List Addr → Prop
  | .fz d, v, L => L = [] ∧ RepD C H O d v
  | .lst ws, v, L => ∃ a xs L', v = .ref a ∧ H a = some (.lst xs) ∧ O a ∧ L = a :: L' ∧ RepWs C H O ws xs L'
def RepWs (C : Cfg) (H : Hp) (O : AP) : List W → List V → List Addr → Prop
  | [], xs, L => xs = [] ∧ L = []
  | w :: ws, xs, L => ∃ x r L1 L2, xs = x :: r ∧ L = L1 ++ L2 ∧ RepW C H O w x L1 ∧ RepWs C H O ws r L2
end
structure KeepL (H : Hp) (O : AP) (H' : Hp) (O' : AP) (L : List Addr) : Prop where
  k : Keep H O H' O'
  l : ∀ a ∈ L, ∀ o, H a = some o → H' a = some o ∧ O' a
theorem KeepL.sub {H H' : Hp} {O O' : AP} {L L' : List Addr} (h : KeepL H O H' O' L) (s : ∀ a ∈ L', a ∈ L) : KeepL H O H' O' L' := ⟨h.k, fun a ha o e => h.l a (s a ha) o e⟩
mutual
theorem RepW.keep {C : Cfg} {H H' : Hp} {O O' : AP} : ∀ (w : W) (v : V) (L : List Addr), KeepL H O H' O' L → RepW C H O w v L → RepW C H' O' w v L
  | .fz d, v, L, k, h => ⟨h.1, RepD.keep k.k d v h.2⟩
  | .lst ws, v, L, k, h => by
    obtain ⟨a, xs, L', e, h1, h2, h3, r⟩ := h
    subst h3
    obtain ⟨q1, q2⟩ := k.l a (by simp) _ h1
    exact ⟨a, xs, L', e, q1, q2, rfl, RepWs.keep ws xs L' (k.sub fun b hb => by simp [hb]) r⟩
theorem RepWs.keep {C : Cfg} {H H' : Hp} {O O' : AP} : ∀ (ws : List W) (xs : List V) (L : List Addr), KeepL H O H' O' L → RepWs C H O ws xs L → RepWs C H' O' ws xs L
  | [], xs, L, k, h => h
  | w :: ws, xs, L, k, h => by
    obtain ⟨x, r, L1, L2, e, e2, h1, h2⟩ := h
    subst e2
    exact ⟨x, r, L1, L2, e, rfl, RepW.keep w x L1 (k.sub fun b hb => by simp [hb]) h1, RepWs.keep ws r L2 (k.sub fun b hb => by simp [hb]) h2⟩
end
mutual
theorem RepW.own {C : Cfg} {H : Hp} {O : AP} : ∀ (w : W) (v : V) (L : List Addr), RepW C H O w v L → ∀ a ∈ L, O a ∧ ∃ xs, H a = some (.lst xs)
  | .fz d, v, L, h, a, ha => by rw [h.1] at ha; simp at ha
  | .lst ws, v, L, h, a, ha => by
    obtain ⟨b, xs, L', e, h1, h2, h3, r⟩ := h
    subst h3
    rcases List.mem_cons.mp ha with rfl | ha
    · exact ⟨h2, xs, h1⟩
    · exact RepWs.own ws xs L' r a ha
theorem RepWs.own {C : Cfg} {H : Hp} {O : AP} : ∀ (ws : List W) (xs : List V) (L : List Addr), RepWs C H O ws xs L → ∀ a ∈ L, O a ∧ ∃ xs, H a = some (.lst xs)
  | [], xs, L, h, a, ha => by rw [h.2] at ha; simp at ha
  | w :: ws, xs, L, h, a, ha => by
    obtain ⟨x, r, L1, L2, e, e2, h1, h2⟩ := h
    subst e2
    rcases List.mem_append.mp ha with ha | ha
    · exact RepW.own w x L1 h1 a ha
    · exact RepWs.own ws r L2 h2 a ha
end
mutual
theorem RepW.frz {C : Cfg} {H : Hp} {O O' : AP} : ∀ (w : W) (v : V) (L : List Addr), (∀ a, O' a → O a ∧ a ∉ L) → RepW C H O w v L → RepD C H O' (frz w) v
  | .fz d, v, L, k, h => RepD.keep (fun a o e n => ⟨e, fun q => n (k a q).1⟩) d v h.2
  | .lst ws, v, L, k, h => by
    obtain ⟨a, xs, L', e, h1, h2, h3, r⟩ := h
    subst h3
    exact ⟨a, xs, e, h1, fun q => (k a q).2 (by simp), RepWs.frz ws xs L' (fun b q => ⟨(k b q).1, fun z => (k b q).2 (by simp [z])⟩) r⟩
theorem RepWs.frz {C : Cfg} {H : Hp} {O O' : AP} : ∀ (ws : List W) (xs : List V) (L : List Addr), (∀ a, O' a → O a ∧ a ∉ L) → RepWs C H O ws xs L → RepDs C H O' (frzs ws) xs
  | [], xs, L, k, h => h.1
  | w :: ws, xs, L, k, h => by
    obtain ⟨x, r, L1, L2, e, e2, h1, h2⟩ := h
    subst e2
    exact ⟨x, r, e, RepW.frz w x L1 (fun b q => ⟨(k b q).1, fun z => (k b q).2 (by simp [z])⟩) h1, RepWs.frz ws r L2 (fun b q => ⟨(k b q).1, fun z => (k b q).2 (by simp [z])⟩) h2⟩
end
theorem RepWs.length {C : Cfg} {H : Hp} {O : AP} : ∀ {ws : List W} {xs : List V} {L : List Addr}, RepWs C H O ws xs L → xs.length = ws.length
  | [], _, _, h => by rw [h.1]; rfl
  | w :: ws, xs, L, h => by
    obtain ⟨x, r, _, _, e, _, _, h2⟩ := h
    rw [e, List.length_cons, List.length_cons, RepWs.length h2]
theorem RepWs.append {C : Cfg} {H : Hp} {O : AP} : ∀ {ws us : List W} {xs ys : List V} {L M : List Addr}, RepWs C H O ws xs L → RepWs C H O us ys M → RepWs C H O (ws ++ us) (xs ++ ys) (L ++ M)
  | [], us, xs, ys, L, M, h, g => by rw [h.1, h.2]; exact g
  | w :: ws, us, xs, ys, L, M, h, g => by
    obtain ⟨x, r, L1, L2, e, e2, h1, h2⟩ := h
    subst e; subst e2
    exact ⟨x, r ++ ys, L1, L2 ++ M, rfl, by rw [List.append_assoc], h1, RepWs.append h2 g⟩
theorem RepWs.one {C : Cfg} {H : Hp} {O : AP} {w : W} {x : V} {L : List Addr} (h : RepW C H O w x L) : RepWs C H O [w] [x] L := ⟨x, [], L, [], rfl, by simp, h, rfl, rfl⟩
theorem RepWs.ofD {C : Cfg} {H : Hp} {O : AP} : ∀ {ds : List D} {xs : List V}, RepDs C H O ds xs → RepWs C H O (ds.map W.fz) xs []
  | [], xs, h => ⟨h, rfl⟩
  | d :: ds, xs, h => by
    obtain ⟨x, r, e, h1, h2⟩ := h
    exact ⟨x, r, [], [], e, rfl, ⟨rfl, h1⟩, RepWs.ofD h2⟩
theorem RepWs.toD {C : Cfg} {H : Hp} {O : AP} : ∀ {ds : List D} {xs : List V} {L : List Addr}, RepWs C H O (ds.map W.fz) xs L → RepDs C H O ds xs ∧ L = []
  | [], xs, L, h => h
  | d :: ds, xs, L, h => by
    obtain ⟨x, r, L1, L2, e, e2, h1, h2⟩ := h
    obtain ⟨q1, q2⟩ := RepWs.toD h2
    exact ⟨⟨x, r, e, h1.2, q1⟩, by rw [e2, h1.1, q2]; rfl⟩
abbrev En := List (Option W)
def SlotR (C : Cfg) (H : Hp) (O : AP) : Option W → Option V → List Addr → Prop
  | none, _, L => L = []
  | some w, y, L => ∃ v, y = some v ∧ RepW C H O w v L
def EnvR (C : Cfg) (H : Hp) (O : AP) : En → Sg → List Addr → Prop
  | [], σ, L => σ = [] ∧ L = []
  | x :: ρ, σ, L => ∃ y r L1 L2, σ = y :: r ∧ L = L1 ++ L2 ∧ SlotR C H O x y L1 ∧ EnvR C H O ρ r L2
theorem SlotR.keep {C : Cfg} {H H' : Hp} {O O' : AP} {x : Option W} {y : Option V} {L : List Addr} (k : KeepL H O H' O' L) (h : SlotR C H O x y L) : SlotR C H' O' x y L := by
  cases x with
  | none => exact h
  | some w => obtain ⟨v, e, r⟩ := h; exact ⟨v, e, RepW.keep w v L k r⟩
theorem EnvR.keep {C : Cfg} {H H' : Hp} {O O' : AP} : ∀ {ρ : En} {σ : Sg} {L : List Addr}, KeepL H O H' O' L → EnvR C H O ρ σ L → EnvR C H' O' ρ σ L
  | [], σ, L, k, h => h
  | x :: ρ, σ, L, k, h => by
    obtain ⟨y, r, L1, L2, e, e2, h1, h2⟩ := h
    subst e2
    exact ⟨y, r, L1, L2, e, rfl, h1.keep (k.sub fun b hb => by simp [hb]), EnvR.keep (k.sub fun b hb => by simp [hb]) h2⟩
theorem EnvR.own {C : Cfg} {H : Hp} {O : AP} : ∀ {ρ : En} {σ : Sg} {L : List Addr}, EnvR C H O ρ σ L → ∀ a ∈ L, O a ∧ ∃ xs, H a = some (.lst xs)
  | [], σ, L, h, a, ha => by rw [h.2] at ha; simp at ha
  | x :: ρ, σ, L, h, a, ha => by
    obtain ⟨y, r, L1, L2, e, e2, h1, h2⟩ := h
    subst e2
    rcases List.mem_append.mp ha with ha | ha
    · cases x with
      | none => rw [show L1 = [] from h1] at ha; simp at ha
      | some w => obtain ⟨v, _, r'⟩ := h1; exact RepW.own w v L1 r' a ha
    · exact EnvR.own h2 a ha
theorem EnvR.length {C : Cfg} {H : Hp} {O : AP} : ∀ {ρ : En} {σ : Sg} {L : List Addr}, EnvR C H O ρ σ L → σ.length = ρ.length
  | [], _, _, h => by rw [h.1]; rfl
  | x :: ρ, σ, L, h => by
    obtain ⟨y, r, L1, L2, e, e2, h1, h2⟩ := h
    rw [e, List.length_cons, List.length_cons, EnvR.length h2]
theorem EnvR.focus {C : Cfg} {H : Hp} {O : AP} : ∀ {ρ : En} {σ : Sg} {L : List Addr} {i : Nat} {x : Option W}, EnvR C H O ρ σ L → ρ[i]? = some x →
    ∃ y L1 L0, σ[i]? = some y ∧ SlotR C H O x y L1 ∧ L.Perm (L1 ++ L0) ∧
      ∀ (H' : Hp) (O' : AP) (x' : Option W) (y' : Option V) (L1' : List Addr), KeepL H O H' O' L0 → SlotR C H' O' x' y' L1' → ∃ L', L'.Perm (L1' ++ L0) ∧ EnvR C H' O' (ρ.set i x') (σ.set i y') L'
  | [], _, _, _, _, _, e => by simp at e
  | x :: ρ, σ, L, 0, x0, h, e => by
    obtain ⟨y, r, L1, L2, e1, e2, h1, h2⟩ := h
    simp at e
    subst e; subst e1; subst e2
    refine ⟨y, L1, L2, by simp, h1, .refl _, fun H' O' x' y' L1' k s => ⟨L1' ++ L2, .refl _, ?_⟩⟩
    exact ⟨y', r, L1', L2, rfl, rfl, s, EnvR.keep k h2⟩
  | x :: ρ, σ, L, i + 1, x0, h, e => by
    obtain ⟨y, r, L1, L2, e1, e2, h1, h2⟩ := h
    subst e1; subst e2
    obtain ⟨y0, M1, M0, q1, q2, q3, q4⟩ := EnvR.focus (i := i) h2 (by simpa using e)
    refine ⟨y0, M1, L1 ++ M0, by simpa using q1, q2, ?_, fun H' O' x' y' L1' k s => ?_⟩
    · refine (List.Perm.append_left L1 q3).trans ?_
      rw [← List.append_assoc, ← List.append_assoc]
      exact List.Perm.append_right M0 List.perm_append_comm
    · obtain ⟨L', p, z⟩ := q4 H' O' x' y' L1' (k.sub fun b hb => by simp [hb]) s
      refine ⟨L1 ++ L', ?_, ⟨y, r.set i y', L1, L', by simp, rfl, h1.keep (k.sub fun b hb => by simp [hb]), z⟩⟩
      refine (List.Perm.append_left L1 p).trans ?_
      rw [← List.append_assoc, ← List.append_assoc]
      exact List.Perm.append_right M0 List.perm_append_comm
theorem EnvR.nones {C : Cfg} {H : Hp} {O : AP} : ∀ (n : Nat) (σ : Sg), σ.length = n → EnvR C H O (List.replicate n none) σ []
  | 0, σ, h => by
    cases σ with
    | nil => exact ⟨rfl, rfl⟩
    | cons x r => simp at h
  | n + 1, σ, h => by
    cases σ with
    | nil => simp at h
    | cons x r => exact ⟨x, r, [], [], rfl, rfl, rfl, EnvR.nones n r (by simpa using h)⟩
structure Stp (H : Hp) (O : AP) (L : List Addr) (H' : Hp) (O' : AP) (L' : List Addr) : Prop where
  fr : ∀ a o, H a = some o → a ∉ L → H' a = some o
  nw : ∀ a, O' a → O a ∨ H a = none
  ol : ∀ a o, H a = some o → O a → a ∉ L → O' a
  ll : ∀ a ∈ L', a ∈ L ∨ H a = none
  dm : ∀ a o, H a = some o → ∃ o', H' a = some o'
theorem Stp.refl (H : Hp) (O : AP) (L : List Addr) : Stp H O L H O L := ⟨fun _ _ h _ => h, fun _ h => .inl h, fun _ _ _ h _ => h, fun _ h => .inl h, fun _ o h => ⟨o, h⟩⟩
theorem Stp.none_of {H H' : Hp} {O O' : AP} {L L' : List Addr} (s : Stp H O L H' O' L') {a : Addr} (h : H' a = none) : H a = none := by
  cases e : H a with
  | none => rfl
  | some o => obtain ⟨o', q⟩ := s.dm a o e; rw [h] at q; cases q
theorem Stp.trans {H H1 H2 : Hp} {O O1 O2 : AP} {L L1 L2 : List Addr} (a : Stp H O L H1 O1 L1) (b : Stp H1 O1 L1 H2 O2 L2) : Stp H O L H2 O2 L2 where
  fr := fun c o e n => b.fr c o (a.fr c o e n) fun z => by
    rcases a.ll c z with q | q
    · exact n q
    · rw [e] at q; cases q
  nw := fun c q => by
    rcases b.nw c q with q | q
    · exact a.nw c q
    · exact .inr (a.none_of q)
  ol := fun c o e q n => b.ol c o (a.fr c o e n) (a.ol c o e q n) fun z => by
    rcases a.ll c z with r | r
    · exact n r
    · rw [e] at r; cases r
  ll := fun c z => by
    rcases b.ll c z with q | q
    · exact a.ll c q
    · exact .inr (a.none_of q)
  dm := fun c o e => by
    obtain ⟨o', q⟩ := a.dm c o e
    exact b.dm c o' q
end Mi
namespace Mi
open PySem PySem.Spec PyProof.Rows L2
inductive Res (α : Type) where
  | ok (a : α) | err
def Res.bind {α β : Type} : Res α → (α → Res β) → Res β
  | .ok a, f => f a
  | .err, _ => .err
@[simp] theorem Res.bind_ok {α β : Type} (a : α) (f : α → Res β) : (Res.ok a).bind f = f a := rfl
@[simp] theorem Res.bind_err {α β : Type} (f : α → Res β) : (Res.err : Res α).bind f = .err := rfl
theorem Res.of_bind {α β : Type} {r : Res α} {f : α → Res β} {b : β} (h : r.bind f = .ok b) : ∃ a, r = .ok a ∧ f a = .ok b := by
  cases r with
  | ok a => exact ⟨a, rfl, h⟩
  | err => cases h
def Res.of {α : Type} : Option α → Res α
  | some a => .ok a
  | none => .err
theorem Res.of_ok {α : Type} {o : Option α} {a : α} (h : Res.of o = .ok a) : o = some a := by
  cases o with
  | none => cases h
  | some b => cases h; rfl
def chk : Bool → Res Unit
  | true => .ok ()
  | false => .err
@[simp] theorem chk_true : chk true = .ok () := rfl
theorem chk_ok {b : Bool} {u : Unit} (h : chk b = .ok u) : b = true := by
  cases b with
  | true => rfl
  | false => cases h
theorem chk_dec {p : Prop} [Decidable p] {u : Unit} (h : chk (decide p) = .ok u) : p := of_decide_eq_true (chk_ok h)
def getP : W → List Nat → Option W
  | w, [] => some w
  | .lst ws, k :: p => match ws[k]? with
    | some w1 => getP w1 p
    | none => none
  | .fz _, _ :: _ => none
def setP : W → List Nat → W → W
  | _, [], w' => w'
  | .lst ws, k :: p, w' => match ws[k]? with
    | some w1 => .lst (ws.set k (setP w1 p w'))
    | none => .lst ws
  | .fz d, _ :: _, _ => .fz d
def PathR (H : Hp) : W → V → List Nat → V → Prop
  | _, v, [], v' => v' = v
  | .lst ws, v, k :: p, v' => ∃ a xs x w1, v = .ref a ∧ H a = some (.lst xs) ∧ xs[k]? = some x ∧ ws[k]? = some w1 ∧ PathR H w1 x p v'
  | .fz _, _, _ :: _, _ => False
theorem PathR.ext {H H' : Hp} (h : ∀ a o, H a = some o → H' a = some o) : ∀ (p : List Nat) (w : W) (v v' : V), PathR H w v p v' → PathR H' w v p v'
  | [], w, v, v', q => by cases w <;> exact q
  | k :: p, .fz _, v, v', q => q.elim
  | k :: p, .lst ws, v, v', q => by
    obtain ⟨a, xs, x, w1, e, h1, h2, h3, r⟩ := q
    exact ⟨a, xs, x, w1, e, h _ _ h1, h2, h3, PathR.ext h p w1 x v' r⟩
theorem RepWs.focus {C : Cfg} {H : Hp} {O : AP} : ∀ {ws : List W} {xs : List V} {L : List Addr} {i : Nat} {w : W}, RepWs C H O ws xs L → ws[i]? = some w →
    ∃ x L1 L0, xs[i]? = some x ∧ RepW C H O w x L1 ∧ L.Perm (L1 ++ L0) ∧
      ∀ (H' : Hp) (O' : AP) (w' : W) (x' : V) (L1' : List Addr), KeepL H O H' O' L0 → RepW C H' O' w' x' L1' → ∃ L', L'.Perm (L1' ++ L0) ∧ RepWs C H' O' (ws.set i w') (xs.set i x') L'
  | [], _, _, _, _, _, e => by simp at e
  | w :: ws, xs, L, 0, w0, h, e => by
    obtain ⟨x, r, L1, L2, e1, e2, h1, h2⟩ := h
    simp at e
    subst e; subst e1; subst e2
    exact ⟨x, L1, L2, by simp, h1, .refl _, fun H' O' w' x' L1' k s => ⟨L1' ++ L2, .refl _, x', r, L1', L2, rfl, rfl, s, RepWs.keep ws r L2 k h2⟩⟩
  | w :: ws, xs, L, i + 1, w0, h, e => by
    obtain ⟨x, r, L1, L2, e1, e2, h1, h2⟩ := h
    subst e1; subst e2
    obtain ⟨y0, M1, M0, q1, q2, q3, q4⟩ := RepWs.focus (i := i) h2 (by simpa using e)
    refine ⟨y0, M1, L1 ++ M0, by simpa using q1, q2, ?_, fun H' O' w' x' L1' k s => ?_⟩
    · refine (List.Perm.append_left L1 q3).trans ?_
      rw [← List.append_assoc, ← List.append_assoc]
      exact List.Perm.append_right M0 List.perm_append_comm
    · obtain ⟨L', p, z⟩ := q4 H' O' w' x' L1' (k.sub fun b hb => by simp [hb]) s
      refine ⟨L1 ++ L', ?_, ⟨x, r.set i x', L1, L', by simp, rfl, RepW.keep w x L1 (k.sub fun b hb => by simp [hb]) h1, z⟩⟩
      refine (List.Perm.append_left L1 p).trans ?_
      rw [← List.append_assoc, ← List.append_assoc]
      exact List.Perm.append_right M0 List.perm_append_comm
theorem set_same {α : Type} : ∀ {l : List α} {i : Nat} {x : α}, l[i]? = some x → l.set i x = l
  | [], _, _, h => by simp at h
  | y :: r, 0, x, h => by simp at h; simp [h]
  | y :: r, i + 1, x, h => by simp only [List.set_cons_succ]; rw [set_same (i := i) (by simpa using h)]
theorem RepW.path {C : Cfg} {H : Hp} {O : AP} : ∀ {p : List Nat} {w : W} {v v' : V} {L : List Addr} {w1 : W}, RepW C H O w v L → L.Nodup → PathR H w v p v' → getP w p = some w1 →
    ∃ L1 L0, RepW C H O w1 v' L1 ∧ L.Perm (L1 ++ L0) ∧
      ∀ (H' : Hp) (O' : AP) (w1' : W) (L1' : List Addr), KeepL H O H' O' L0 → RepW C H' O' w1' v' L1' → ∃ L', L'.Perm (L1' ++ L0) ∧ RepW C H' O' (setP w p w1') v L'
  | [], w, v, v', L, w1, h, nd, q, e => by
    have e1 : w1 = w := by cases w <;> (simp [getP] at e; exact e.symm)
    have e2 : v' = v := by cases w <;> exact q
    subst e1; subst e2
    refine ⟨L, [], h, by simp, fun H' O' w1' L1' k s => ⟨L1', by simp, ?_⟩⟩
    cases w1 <;> exact s
  | k :: p, .fz d, v, v', L, w1, h, nd, q, e => q.elim
  | k :: p, .lst ws, v, v', L, w1, h, nd, q, e => by
    obtain ⟨a, xs, L', e1, h1, h2, h3, r⟩ := h
    obtain ⟨a', xs', x, w2, e1', h1', h2', h3', q⟩ := q
    subst e1; cases e1'
    rw [h1] at h1'; cases h1'
    subst h3
    obtain ⟨x0, M1, M0, g1, g2, g3, g4⟩ := r.focus h3'
    rw [h2'] at g1; cases g1
    have nd' : L'.Nodup := (List.nodup_cons.mp nd).2
    have ndM : (M1 ++ M0).Nodup := g3.nodup_iff.mp nd'
    have e' : getP w2 p = some w1 := by simpa [getP, h3'] using e
    obtain ⟨N1, N0, f1, f2, f3⟩ := RepW.path g2 (List.nodup_append.mp ndM).1 q e'
    refine ⟨N1, a :: (N0 ++ M0), f1, ?_, fun H' O' w1' L1' kk s => ?_⟩
    · refine ((g3.trans (f2.append_right M0)).cons a).trans ?_
      rw [List.append_assoc]
      exact (List.perm_middle (l₁ := N1) (a := a) (l₂ := N0 ++ M0)).symm
    · obtain ⟨P1, p1, p2⟩ := f3 H' O' w1' L1' (kk.sub fun b hb => by simp [hb]) s
      obtain ⟨P2, p3, p4⟩ := g4 H' O' (setP w2 p w1') x P1 (kk.sub fun b hb => by simp [hb]) p2
      obtain ⟨z1, z2⟩ := kk.l a (by simp) _ h1
      rw [set_same h2'] at p4
      have es : setP (W.lst ws) (k :: p) w1' = .lst (ws.set k (setP w2 p w1')) := by simp [setP, h3']
      rw [es]
      refine ⟨a :: P2, ?_, a, xs, P2, rfl, z1, z2, rfl, p4⟩
      refine ((p3.trans (p1.append_right M0)).cons a).trans ?_
      rw [List.append_assoc]
      exact (List.perm_middle (l₁ := L1') (a := a) (l₂ := N0 ++ M0)).symm
inductive B where
  | tmp (w : W) | bor (i : Nat) (p : List Nat)
def BR (C : Cfg) (H : Hp) (O : AP) (ρ : En) (σ : Sg) : B → V → List Addr → Prop
  | .tmp w, v, L => RepW C H O w v L
  | .bor i p, v, L => L = [] ∧ ∃ v0, σ[i]? = some (some v0) ∧ (p = [] → v = v0) ∧ (p ≠ [] → ∃ w0, ρ[i]? = some (some w0) ∧ PathR H w0 v0 p v)
abbrev CE := En → Res (B × En)
def cont : B → En → Res W
  | .tmp w, _ => .ok (.fz (frz w))
  | .bor i p, ρ => match ρ[i]? with
    | some (some w) => Res.of (getP w p)
    | _ => .err
def take : B → En → Res (W × En)
  | .tmp w, ρ => .ok (w, ρ)
  | .bor i p, ρ => match ρ[i]? with
    | some (some w) => (Res.of (getP w p)).bind fun w1 => .ok (.fz (frz w1), ρ.set i (some (setP w p (.fz (frz w1)))))
    | _ => .err
structure PostE (C : Cfg) (σ : Sg) (H : Hp) (O : AP) (L : List Addr) (ρ : En) (qt : Bool) (b : B) (ρ' : En) (v : V) (H' : Hp) (O' : AP) (L' Lb : List Addr) : Prop where
  env : EnvR C H' O' ρ' σ L'
  br : BR C H' O' ρ' σ b v Lb
  nd : (L' ++ Lb).Nodup
  st : Stp H O L H' O' (L' ++ Lb)
  qu : qt = true → ρ' = ρ ∧ ∀ a o, H a = some o → H' a = some o
def tE (C : Cfg) (qt : Bool) (c : CE) : TE := fun σ H Q => ∃ O L ρ b ρ', EnvR C H O ρ σ L ∧ L.Nodup ∧ c ρ = .ok (b, ρ') ∧ ∀ v H' O' L' Lb, PostE C σ H O L ρ qt b ρ' v H' O' L' Lb → Q v H'
def SE (X : Cx) (cl : Nat → Addr) (qt : Bool) (e : Expr) (c : CE) : Prop := PE X e (tE ⟨X.K, cl⟩ qt c)
theorem PE.imp {X : Cx} {e : Expr} {t t' : TE} (h : PE X e t) (k : ∀ σ H Q, t' σ H Q → t σ H Q) : PE X e t' := ⟨fun pins s σ H Q I q => h.run pins s σ H Q I (k σ H Q q)⟩
theorem PT.imp {X : Cx} {e : Expr} {t t' : TT} (h : PT X e t) (k : ∀ σ H Q, t' σ H Q → t σ H Q) : PT X e t' := ⟨fun pins s σ H Q I q => h.run pins s σ H Q I (k σ H Q q)⟩
theorem PW.imp {X : Cx} {e : Expr} {t t' : TT} (h : PW X e t) (k : ∀ σ H Q, t' σ H Q → t σ H Q) : PW X e t' := ⟨fun wh pins s σ H Q I q => h.run wh pins s σ H Q I (k σ H Q q)⟩
theorem PA.imp {X : Cx} {e : List Expr} {t t' : TA} (h : PA X e t) (k : ∀ σ H Q, t' σ H Q → t σ H Q) : PA X e t' := ⟨fun pos pins s σ H Q I q => h.run pos pins s σ H Q I (k σ H Q q)⟩
theorem PS.imp {X : Cx} {st : Stmt} {t t' : TS} (h : PS X st t) (k : ∀ D σ H, t' D σ H → t D σ H) : PS X st t' := ⟨fun pins s σ H D I q => h.run pins s σ H D I (k D σ H q)⟩
theorem PSs.imp {X : Cx} {st : List Stmt} {t t' : TS} (h : PSs X st t) (k : ∀ D σ H, t' D σ H → t D σ H) : PSs X st t' := ⟨fun pins s σ H D I q => h.run pins s σ H D I (k D σ H q)⟩
theorem PG.imp {X : Cx} {e : Expr} {t t' : TG} (h : PG X e t) (k : ∀ v σ H Q, t' v σ H Q → t v σ H Q) : PG X e t' := ⟨fun pins s σ H v u Q I r q => h.run pins s σ H v u Q I r (k v σ H Q q)⟩
theorem PI.imp {X : Cx} {tg e : Expr} {t t' : TI} (h : PI X tg e t) (k : ∀ σ H R, t' σ H R → t σ H R) : PI X tg e t' := ⟨fun pins s σ H R I q => h.run pins s σ H R I (k σ H R q)⟩
section
variable {C : Cfg} {H H1 H2 H' : Hp} {O O1 O2 O' : AP} {L L1 L2 L' M T : List Addr} {ρ ρ1 : En} {σ : Sg}
theorem Stp.frame (s : Stp H O L H' O' M) (T : List Addr) : Stp H O (L ++ T) H' O' (M ++ T) :=
  ⟨fun a o e n => s.fr a o e fun z => n (by simp [z]), s.nw, fun a o e q n => s.ol a o e q fun z => n (by simp [z]), fun a h => by
    rcases List.mem_append.mp h with h | h
    · rcases s.ll a h with q | q
      · exact .inl (by simp [q])
      · exact .inr q
    · exact .inl (by simp [h]), s.dm⟩
theorem Stp.perm (s : Stp H O L H' O' M) (p : ∀ a, a ∈ T → a ∈ M) : Stp H O L H' O' T := ⟨s.fr, s.nw, s.ol, fun a h => s.ll a (p a h), s.dm⟩
def Less (O : AP) (T : List Addr) : AP := fun a => O a ∧ a ∉ T
theorem Stp.drop (s : Stp H O L H' O' (M ++ T)) : Stp H O L H' (Less O' T) M :=
  ⟨s.fr, fun a q => s.nw a q.1, fun a o e q n => ⟨s.ol a o e q n, fun z => by
    rcases s.ll a (by simp [z]) with r | r
    · exact n r
    · rw [e] at r; cases r⟩, fun a h => s.ll a (by simp [h]), s.dm⟩
theorem keep_less (d : ∀ a ∈ L, a ∉ T) (own : ∀ a ∈ L, O a) : KeepL H O H (Less O T) L := ⟨fun a o e n => ⟨e, fun q => n q.1⟩, fun a ha o e => ⟨e, own a ha, d a ha⟩⟩
theorem EnvR.less (h : EnvR C H O ρ σ L) (d : ∀ a ∈ L, a ∉ T) : EnvR C H (Less O T) ρ σ L := EnvR.keep (keep_less d fun a ha => (h.own a ha).1) h
theorem Stp.keep (s : Stp H O L H' O' M) (own : ∀ a ∈ L, O a) : Keep H O H' O' := fun a o e n => ⟨s.fr a o e fun z => n (own a z), fun q => by
  rcases s.nw a q with r | r
  · exact n r
  · rw [e] at r; cases r⟩
theorem Stp.keepL (s : Stp H O L H' O' M) (own : ∀ a ∈ L, O a) (hT : ∀ a ∈ T, O a) (d : ∀ a ∈ T, a ∉ L) : KeepL H O H' O' T := ⟨s.keep own, fun a ha o e => ⟨s.fr a o e (d a ha), s.ol a o e (hT a ha) (d a ha)⟩⟩
theorem nodup_frame (s : Stp H O L H' O' M) (nM : M.Nodup) (nT : T.Nodup) (hT : ∀ a ∈ T, ∃ o, H a = some o) (d : ∀ a ∈ T, a ∉ L) : (M ++ T).Nodup := by
  refine List.nodup_append.mpr ⟨nM, nT, fun a ha b hb e => ?_⟩
  subst e
  rcases s.ll a ha with q | q
  · exact d a hb q
  · obtain ⟨o, e⟩ := hT a hb; rw [e] at q; cases q
structure Gr (H : Hp) (O : AP) (H' : Hp) (O' : AP) (Lw : List Addr) : Prop where
  ex : ∀ a o, H a = some o → H' a = some o
  o1 : ∀ a, O' a → O a ∨ a ∈ Lw
  o2 : ∀ a o, H a = some o → O a → O' a
  nw : ∀ a ∈ Lw, H a = none
  nd : Lw.Nodup
theorem Gr.refl (H : Hp) (O : AP) : Gr H O H O [] := ⟨fun _ _ h => h, fun _ q => .inl q, fun _ _ _ q => q, fun _ h => by simp at h, List.nodup_nil⟩
theorem Gr.stp (g : Gr H O H' O' T) : Stp H O L H' O' (L ++ T) := ⟨fun a o e _ => g.ex a o e, fun a q => by
    rcases g.o1 a q with q | q
    · exact .inl q
    · exact .inr (g.nw a q), fun a o e q _ => g.o2 a o e q, fun a h => by
    rcases List.mem_append.mp h with h | h
    · exact .inl h
    · exact .inr (g.nw a h), fun a o e => ⟨o, g.ex a o e⟩⟩
theorem Gr.keep (g : Gr H O H' O' T) : Keep H O H' O' := fun a o e n => ⟨g.ex a o e, fun q => by
  rcases g.o1 a q with q | q
  · exact n q
  · rw [g.nw a q] at e; cases e⟩
theorem Gr.keepL (g : Gr H O H' O' T) (own : ∀ a ∈ L, O a) : KeepL H O H' O' L := ⟨g.keep, fun a ha o e => ⟨g.ex a o e, g.o2 a o e (own a ha)⟩⟩
theorem EnvR.grow (g : Gr H O H' O' T) (h : EnvR C H O ρ σ L) : EnvR C H' O' ρ σ L := EnvR.keep (g.keepL fun a ha => (h.own a ha).1) h
theorem Gr.new {p : Addr} {o : HO} (h : H p = none) : Gr H O (upd H p o) (Less O [p]) [] where
  ex := fun a u e => by rw [upd_ne (ne_of_none e h)]; exact e
  o1 := fun a q => .inl q.1
  o2 := fun a o e q => ⟨q, fun z => by
    have z' : a = p := by simpa using z
    rw [z', h] at e
    cases e⟩
  nw := fun _ z => by simp at z
  nd := List.nodup_nil
theorem Gr.newO {p : Addr} {o : HO} (h : H p = none) : Gr H O (upd H p o) (fun a => O a ∨ a = p) [p] where
  ex := fun a u e => by rw [upd_ne (ne_of_none e h)]; exact e
  o1 := fun a q => q.elim .inl fun z => .inr (by simp [z])
  o2 := fun a o e q => .inl q
  nw := fun a z => by simp at z; rw [z]; exact h
  nd := by simp
end
end Mi
namespace Mi
open PySem PySem.Spec PyProof.Rows L2
section
variable {C : Cfg} {H H1 H2 H' : Hp} {O O1 O2 O' : AP} {L L1 L2 L' La Lb M T : List Addr} {ρ ρ1 ρ2 : En} {σ : Sg} {i : Nat} {p : List Nat} {v : V} {w w1 : W} {b : B} {qb : Bool}
theorem env_path (e : EnvR C H O ρ σ L) (nd : L.Nodup) (hb : BR C H O ρ σ (.bor i p) v Lb) (hi : ρ[i]? = some (some w)) (g : getP w p = some w1) :
    ∃ L1 L0, RepW C H O w1 v L1 ∧ L.Perm (L1 ++ L0) ∧ ∀ H' O' w1' L1', KeepL H O H' O' L0 → RepW C H' O' w1' v L1' → ∃ L', L'.Perm (L1' ++ L0) ∧ EnvR C H' O' (ρ.set i (some (setP w p w1'))) σ L' := by
  obtain ⟨y, M1, M0, q1, ⟨v0, q2, q3⟩, q4, q5⟩ := e.focus hi
  obtain ⟨_, v0', h1, h2, h3⟩ := hb
  rw [q1, q2] at h1; cases h1
  subst q2
  have hp : PathR H w v0 p v := by
    cases p with
    | nil => rw [h2 rfl]; cases w <;> rfl
    | cons k r =>
      obtain ⟨w0, e1, e2⟩ := h3 (by simp)
      rw [hi] at e1; cases e1
      exact e2
  have nM : (M1 ++ M0).Nodup := q4.nodup_iff.mp nd
  obtain ⟨N1, N0, f1, f2, f3⟩ := RepW.path q3 (List.nodup_append.mp nM).1 hp g
  refine ⟨N1, N0 ++ M0, f1, ?_, fun H' O' w1' L1' k r => ?_⟩
  · rw [← List.append_assoc]; exact q4.trans (f2.append_right M0)
  · obtain ⟨P1, p1, p2⟩ := f3 H' O' w1' L1' (k.sub fun a ha => by simp [ha]) r
    obtain ⟨L', p3, p4⟩ := q5 H' O' (some (setP w p w1')) (some v0) P1 (k.sub fun a ha => by simp [ha]) ⟨v0, rfl, p2⟩
    rw [set_same q1] at p4
    exact ⟨L', by rw [← List.append_assoc]; exact p3.trans (p1.append_right M0), p4⟩
theorem cont_rep (h : BR C H O ρ σ b v Lb) (e : EnvR C H O ρ σ L) (nd : L.Nodup) (d : ∀ a ∈ L, a ∉ T) (s : ∀ a ∈ Lb, a ∈ T) (c : cont b ρ = .ok w) : ∃ Lw, RepW C H (Less O T) w v Lw ∧ ∀ a ∈ Lw, a ∈ L := by
  cases b with
  | tmp w0 =>
    have e1 : w = .fz (frz w0) := by simp [cont] at c; exact c.symm
    subst e1
    exact ⟨[], ⟨rfl, RepW.frz w0 v Lb (fun a q => ⟨q.1, fun z => q.2 (s a z)⟩) h⟩, fun a z => by simp at z⟩
  | bor i p =>
    simp only [cont] at c
    cases hi : ρ[i]? with
    | none => rw [hi] at c; cases c
    | some x =>
      rw [hi] at c
      cases x with
      | none => cases c
      | some w0 =>
        obtain ⟨M1, M0, r1, r2, _⟩ := env_path e nd h hi (Res.of_ok c)
        exact ⟨M1, RepW.keep w v M1 (keep_less (fun a ha => d a (r2.mem_iff.mpr (by simp [ha]))) fun a ha => (RepW.own w v M1 r1 a ha).1) r1, fun a ha => r2.mem_iff.mpr (by simp [ha])⟩
def pend (qb : Bool) : B → Res Unit
  | .bor _ (_ :: _) => if qb then .ok () else .err
  | _ => .ok ()
theorem BR.pend {va : V} {b' : B} {vb : V} {Lb' : List Addr} (h : BR C H1 O1 ρ1 σ b va La) (own : ∀ a ∈ L1, O1 a) (nd : (L1 ++ La).Nodup) (P : PostE C σ H1 O1 L1 ρ1 qb b' ρ2 vb H2 O2 L2 Lb') (k : pend qb b = .ok ()) :
    BR C H2 O2 ρ2 σ b va La ∧ (L2 ++ Lb' ++ La).Nodup := by
  cases b with
  | tmp w =>
    have h : RepW C H1 O1 w va La := h
    have d : ∀ a ∈ La, a ∉ L1 := fun a ha z => (List.nodup_append.mp nd).2.2 a z a ha rfl
    have ow := RepW.own w va La h
    exact ⟨RepW.keep w va La (P.st.keepL own (fun a ha => (ow a ha).1) d) h, nodup_frame P.st P.nd (List.nodup_append.mp nd).2.1 (fun a ha => let ⟨_, xs, e⟩ := ow a ha; ⟨_, e⟩) d⟩
  | bor i p =>
    obtain ⟨e, v0, h1, h2, h3⟩ := h
    subst e
    refine ⟨⟨rfl, v0, h1, h2, fun hp => ?_⟩, by rw [List.append_nil]; exact P.nd⟩
    cases p with
    | nil => exact absurd rfl hp
    | cons j r =>
      have hq : qb = true := by
        cases qb with
        | true => rfl
        | false => simp [Mi.pend] at k
      obtain ⟨e1, e2⟩ := P.qu hq
      obtain ⟨w0, g1, g2⟩ := h3 hp
      exact ⟨w0, by rw [e1]; exact g1, PathR.ext e2 _ _ _ _ g2⟩
theorem post_of {qt : Bool} {Lw : List Addr} (env : EnvR C H2 O2 ρ2 σ L2) (nd : (L2 ++ T).Nodup) (st : Stp H O L H2 O2 (L2 ++ T)) (qu : qt = true → ρ2 = ρ ∧ ∀ a o, H a = some o → H2 a = some o)
    (g : Gr H2 (Less O2 T) H' O' Lw) (r : RepW C H' O' w v Lw) : PostE C σ H O L ρ qt (.tmp w) ρ2 v H' O' L2 Lw := by
  have d : ∀ a ∈ L2, a ∉ T := fun a ha z => (List.nodup_append.mp nd).2.2 a ha a z rfl
  have env2 := env.less d
  refine ⟨env2.grow g, r, ?_, st.drop.trans g.stp, fun q => ⟨(qu q).1, fun a o e => g.ex a o ((qu q).2 a o e)⟩⟩
  refine List.nodup_append.mpr ⟨(List.nodup_append.mp nd).1, g.nd, fun a ha b hb e => ?_⟩
  subst e
  obtain ⟨_, xs, e⟩ := env2.own a ha
  rw [g.nw a hb] at e; cases e
end
def OpS (C : Cfg) (r : R2) (f : W → W → Res W) : Prop := ∀ (H : Hp) (O : AP) (x y : V) (wx wy w : W) (Lx Ly : List Addr) (Q : VK), RepW C H O wx x Lx → RepW C H O wy y Ly → f wx wy = .ok w →
  (∀ v H' O' Lw, RepW C H' O' w v Lw → Gr H O H' O' Lw → Q v H') → r x y H Q
def cBin (f : W → W → Res W) (qb : Bool) (ca cb : CE) : CE := fun ρ =>
  (ca ρ).bind fun (a, ρ1) => (pend qb a).bind fun _ => (cb ρ1).bind fun (b, ρ2) => (cont a ρ2).bind fun x => (cont b ρ2).bind fun y => (f x y).bind fun w => .ok (.tmp w, ρ2)
theorem bin_core {C : Cfg} {r : R2} {f : W → W → Res W} {qa qb : Bool} {ca cb : CE} (hs : OpS C r f) {σ : Sg} {H : Hp} {Q : VK} (h : tE C (qa && qb) (cBin f qb ca cb) σ H Q) : tOp r (tE C qa ca) (tE C qb cb) σ H Q := by
  obtain ⟨O, L, ρ, b0, ρ', env, nd, c, q⟩ := h
  obtain ⟨⟨a, ρ1⟩, c1, c⟩ := Res.of_bind c
  obtain ⟨⟨⟩, c2, c⟩ := Res.of_bind c
  obtain ⟨⟨b, ρ2⟩, c3, c⟩ := Res.of_bind c
  obtain ⟨x, c4, c⟩ := Res.of_bind c
  obtain ⟨y, c5, c⟩ := Res.of_bind c
  obtain ⟨w, c6, c⟩ := Res.of_bind c
  cases c
  refine ⟨O, L, ρ, a, ρ1, env, nd, c1, fun va H1 O1 L1 La P1 => ?_⟩
  have own1 : ∀ z ∈ L1, O1 z := fun z hz => (P1.env.own z hz).1
  refine ⟨O1, L1, ρ1, b, ρ', P1.env, (List.nodup_append.mp P1.nd).1, c3, fun vb H2 O2 L2 Lb P2 => ?_⟩
  obtain ⟨ba, nd2⟩ := P1.br.pend own1 P1.nd P2 c2
  have nd3 : (L2 ++ (Lb ++ La)).Nodup := by rw [← List.append_assoc]; exact nd2
  have ndL := (List.nodup_append.mp nd3).1
  have d : ∀ z ∈ L2, z ∉ Lb ++ La := fun z hz q => (List.nodup_append.mp nd3).2.2 z hz z q rfl
  obtain ⟨Lx, rx, _⟩ := cont_rep (T := Lb ++ La) ba P2.env ndL d (fun z hz => by simp [hz]) c4
  obtain ⟨Ly, ry, _⟩ := cont_rep (T := Lb ++ La) P2.br P2.env ndL d (fun z hz => by simp [hz]) c5
  refine hs H2 (Less O2 (Lb ++ La)) va vb x y w Lx Ly _ rx ry c6 fun v H' O' Lw rw' g => ?_
  refine q v H' O' L2 Lw (post_of P2.env nd3 ?_ (fun hq => ?_) g rw')
  · refine (P1.st.trans (P2.st.frame La)).perm fun z hz => ?_
    rw [List.append_assoc]; exact hz
  · have hq' : qa = true ∧ qb = true := by simpa using hq
    exact ⟨(P2.qu hq'.2).1.trans (P1.qu hq'.1).1, fun z o e => (P2.qu hq'.2).2 z o ((P1.qu hq'.1).2 z o e)⟩
def UnS (C : Cfg) (r : V → Hp → VK → Prop) (f : W → Res W) : Prop := ∀ (H : Hp) (O : AP) (x : V) (wx w : W) (Lx : List Addr) (Q : VK), RepW C H O wx x Lx → f wx = .ok w →
  (∀ v H' O' Lw, RepW C H' O' w v Lw → Gr H O H' O' Lw → Q v H') → r x H Q
def cUn (f : W → Res W) (ca : CE) : CE := fun ρ => (ca ρ).bind fun (a, ρ1) => (cont a ρ1).bind fun x => (f x).bind fun w => .ok (.tmp w, ρ1)
theorem un_core {C : Cfg} {r : V → Hp → VK → Prop} {f : W → Res W} {qa : Bool} {ca : CE} (hs : UnS C r f) {σ : Sg} {H : Hp} {Q : VK} (h : tE C qa (cUn f ca) σ H Q) : tUn r (tE C qa ca) σ H Q := by
  obtain ⟨O, L, ρ, b0, ρ', env, nd, c, q⟩ := h
  obtain ⟨⟨a, ρ1⟩, c1, c⟩ := Res.of_bind c
  obtain ⟨x, c4, c⟩ := Res.of_bind c
  obtain ⟨w, c6, c⟩ := Res.of_bind c
  cases c
  refine ⟨O, L, ρ, a, ρ', env, nd, c1, fun va H1 O1 L1 La P1 => ?_⟩
  have d : ∀ z ∈ L1, z ∉ La := fun z hz q => (List.nodup_append.mp P1.nd).2.2 z hz z q rfl
  obtain ⟨Lx, rx, _⟩ := cont_rep (T := La) P1.br P1.env (List.nodup_append.mp P1.nd).1 d (fun z hz => hz) c4
  exact hs H1 (Less O1 La) va x w Lx _ rx c6 fun v H' O' Lw rw' g => q v H' O' L1 Lw (post_of P1.env P1.nd P1.st P1.qu g rw')
abbrev CT := En → Res (Bool × En)
structure PostT (C : Cfg) (σ : Sg) (H : Hp) (O : AP) (L : List Addr) (ρ : En) (qt : Bool) (ρ' : En) (H' : Hp) (O' : AP) (L' : List Addr) : Prop where
  env : EnvR C H' O' ρ' σ L'
  nd : L'.Nodup
  st : Stp H O L H' O' L'
  qu : qt = true → ρ' = ρ ∧ ∀ a o, H a = some o → H' a = some o
def tT (C : Cfg) (qt : Bool) (c : CT) : TT := fun σ H Q => ∃ O L ρ k ρ', EnvR C H O ρ σ L ∧ L.Nodup ∧ c ρ = .ok (k, ρ') ∧ ∀ H' O' L', PostT C σ H O L ρ qt ρ' H' O' L' → Q k H'
def ST (X : Cx) (cl : Nat → Addr) (qt : Bool) (e : Expr) (c : CT) : Prop := PT X e (tT ⟨X.K, cl⟩ qt c)
def boolOf : B → Res Bool
  | .tmp (.fz (.bl k)) => .ok k
  | _ => .err
def cTest (c : CE) : CT := fun ρ => (c ρ).bind fun (b, ρ') => (boolOf b).bind fun k => .ok (k, ρ')
theorem boolOf_ok {b : B} {k : Bool} (h : boolOf b = .ok k) : b = .tmp (.fz (.bl k)) := by
  unfold boolOf at h
  split at h
  · cases h; rfl
  · cases h
theorem test_core {C : Cfg} {qt : Bool} {c : CE} {σ : Sg} {H : Hp} {Q : Bool → Hp → Prop} (h : tT C qt (cTest c) σ H Q) : tE C qt c σ H (fun x H' => ∃ k, x = .bl k ∧ Q k H') := by
  obtain ⟨O, L, ρ, k, ρ', env, nd, c0, q⟩ := h
  obtain ⟨⟨b, ρ1⟩, c1, c0⟩ := Res.of_bind c0
  obtain ⟨k', c2, c0⟩ := Res.of_bind c0
  cases c0
  have eb := boolOf_ok c2
  subst eb
  refine ⟨O, L, ρ, _, ρ', env, nd, c1, fun v H' O' L' Lb P => ?_⟩
  obtain ⟨e1, e2⟩ := P.br
  subst e1
  have nd' := P.nd
  have st' := P.st
  rw [List.append_nil] at nd' st'
  exact ⟨k, e2, q H' O' L' ⟨P.env, nd', st', P.qu⟩⟩
section
variable {X : Cx} {cl : Nat → Addr} {a b c : Expr} {ca cb cc : CE} {qa qb qc : Bool} {pos : Pos}
theorem se_bin {op : Operator} {r : R2} {f : W → W → Res W} (ho : OpR X (binaryOp op) r) (hs : OpS ⟨X.K, cl⟩ r f) (ha : SE X cl qa a ca) (hb : SE X cl qb b cb) : SE X cl (qa && qb) (.BinOp a op b pos) (cBin f qb ca cb) :=
  PE.imp (pe_op ho ha hb) fun σ H Q h => bin_core hs h
theorem se_cmp {op : CmpOp} {r : R2} {f : W → W → Res W} (ho : OpR X (compareOp op) r) (hs : OpS ⟨X.K, cl⟩ r f) (ha : SE X cl qa a ca) (hb : SE X cl qb b cb) (hm : behindInMarks op b = false) : SE X cl (qa && qb) (.Compare a [op] [b] pos) (cBin f qb ca cb) :=
  PE.imp (pe_cmpR ho ha hb hm) fun σ H Q h => bin_core hs h
theorem st_cmp {op : CmpOp} {r : R2} {f : W → W → Res W} (ho : OpR X (compareOp op) r) (hs : OpS ⟨X.K, cl⟩ r f) (ha : SE X cl qa a ca) (hb : SE X cl qb b cb) (hm : behindInMarks op b = false) : ST X cl (qa && qb) (.Compare a [op] [b] pos) (cTest (cBin f qb ca cb)) :=
  PT.imp (pt_cmpR ho ha hb hm) fun σ H Q h => bin_core hs (test_core h)
theorem se_un {op : UnaryOp} {r : V → Hp → VK → Prop} {f : W → Res W} (ho : UnR X (unaryOp op) r) (hs : UnS ⟨X.K, cl⟩ r f) (ha : SE X cl qa a ca) : SE X cl qa (.UnaryOp op a pos) (cUn f ca) :=
  PE.imp (pe_un ho ha) fun σ H Q h => un_core hs h
theorem st_val (ha : SE X cl qa a ca) (he : ∀ whole, isTrue a X.env whole = (do let v ← whole; standAt a.pos; holding [v] (truthy v)) := by intro _; rfl) : ST X cl qa a (cTest ca) :=
  PT.imp (pt_val ha he) fun σ H Q h => test_core h
def cVar (i : Nat) : CE := fun ρ => match ρ[i]? with
  | some (some (.fz d)) => .ok (.tmp (.fz d), ρ)
  | some (some (.lst _)) => .ok (.bor i [], ρ)
  | _ => .err
def cC (d : D) : CE := fun ρ => .ok (.tmp (.fz d), ρ)
theorem PostE.same {C : Cfg} {σ : Sg} {H : Hp} {O : AP} {L : List Addr} {ρ : En} {b : B} {v : V} (env : EnvR C H O ρ σ L) (nd : L.Nodup) (r : BR C H O ρ σ b v []) : PostE C σ H O L ρ true b ρ v H O L [] :=
  ⟨env, r, by rw [List.append_nil]; exact nd, by rw [List.append_nil]; exact Stp.refl _ _ _, fun _ => ⟨rfl, fun _ _ e => e⟩⟩
theorem se_var {i : Nat} {x : Str} (hN : X.N[i]? = some x) (hv : Vis X.env.scope x) (hd : (x == ("__debug__" : Str)) = false := by decide) (hcd : (x == ("__classdict__" : Str)) = false := by decide) : SE X cl true (.Name x pos) (cVar i) := by
  refine PE.imp (pe_var hN hv hd hcd) fun σ H Q h => ?_
  obtain ⟨O, L, ρ, b, ρ', env, nd, c, q⟩ := h
  unfold cVar at c
  cases hi : ρ[i]? with
  | none => rw [hi] at c; cases c
  | some x =>
    rw [hi] at c
    cases x with
    | none => cases c
    | some w =>
      obtain ⟨y, M1, M0, q1, ⟨v, q2, q3⟩, q4, q5⟩ := env.focus hi
      subst q2
      refine ⟨v, q1, ?_⟩
      cases w with
      | fz d =>
        cases c
        obtain ⟨e, r⟩ := q3
        exact q v H O L [] (PostE.same env nd ⟨rfl, r⟩)
      | lst ws =>
        cases c
        exact q v H O L [] (PostE.same env nd ⟨rfl, v, q1, fun _ => rfl, fun z => absurd rfl z⟩)
theorem se_c {e : Expr} {v : V} {d : D} (h : PE X e (tC v)) (r : ∀ H O, RepD ⟨X.K, cl⟩ H O d v) : SE X cl true e (cC d) := by
  refine PE.imp h fun σ H Q h => ?_
  obtain ⟨O, L, ρ, b, ρ', env, nd, c, q⟩ := h
  cases c
  exact q v H O L [] (PostE.same env nd ⟨rfl, r H O⟩)
theorem se_int {i : Int} {j : Nat} : SE X cl true (.Constant (.int i) j pos) (cC (.int i)) := se_c pe_int fun _ _ => rfl
theorem se_bl {b : Bool} {j : Nat} : SE X cl true (.Constant (.bool b) j pos) (cC (.bl b)) := se_c pe_bl fun _ _ => rfl
theorem se_non {j : Nat} : SE X cl true (.Constant .none j pos) (cC .non) := se_c pe_non fun _ _ => rfl
theorem se_str {x : Str} {j : Nat} : SE X cl true (.Constant (.str x) j pos) (cC (.str x)) := se_c pe_str fun _ _ => rfl
end
section
variable {C : Cfg} {X : Cx}
theorem OpS.or {r r' : R2} {f : W → W → Res W} {g : W → W → Res W} (h : OpS C r f) (h' : OpS C r' g) (k : W → W → Bool) : OpS C (fun x y H Q => r x y H Q ∨ r' x y H Q) (fun x y => if k x y then f x y else g x y) := by
  intro H O x y wx wy w Lx Ly Q rx ry e q
  dsimp only at e
  cases hk : k wx wy with
  | true => rw [hk] at e; exact .inl (h H O x y wx wy w Lx Ly Q rx ry (by simpa using e) q)
  | false => rw [hk] at e; exact .inr (h' H O x y wx wy w Lx Ly Q rx ry (by simpa using e) q)
def fI (g : Int → Int → Res D) : W → W → Res W
  | .fz (.int i), .fz (.int j) => (g i j).bind fun d => .ok (.fz d)
  | _, _ => .err
theorem fI_ok {g : Int → Int → Res D} {x y w : W} (h : fI g x y = .ok w) : ∃ i j d, x = .fz (.int i) ∧ y = .fz (.int j) ∧ g i j = .ok d ∧ w = .fz d := by
  unfold fI at h
  split at h
  · obtain ⟨d, h1, h2⟩ := Res.of_bind h
    cases h2
    exact ⟨_, _, d, rfl, rfl, h1, rfl⟩
  · cases h
theorem gr_same {H : Hp} {O : AP} {d : D} {v : V} {Q : VK} (r : RepD C H O d v) (q : ∀ v H' O' Lw, RepW C H' O' (.fz d) v Lw → Gr H O H' O' Lw → Q v H') : Q v H := q v H O [] ⟨rfl, r⟩ (Gr.refl H O)
theorem ops_I {P : Int → Int → Prop} [∀ i j, Decidable (P i j)] {g : Int → Int → V} {gd : Int → Int → D} (hg : ∀ i j H O, RepD C H O (gd i j) (g i j)) : OpS C (rI P g) (fI fun i j => if P i j then .ok (gd i j) else .err) := by
  intro H O x y wx wy w Lx Ly Q rx ry e q
  obtain ⟨i, j, d, rfl, rfl, e1, rfl⟩ := fI_ok e
  by_cases hp : P i j
  · rw [if_pos hp] at e1; cases e1
    exact ⟨i, j, rx.2, ry.2, hp, gr_same (hg i j H O) q⟩
  · rw [if_neg hp] at e1; cases e1
theorem ops_I0 {g : Int → Int → V} {gd : Int → Int → D} (hg : ∀ i j H O, RepD C H O (gd i j) (g i j)) : OpS C (rI0 g) (fI fun i j => .ok (gd i j)) := by
  intro H O x y wx wy w Lx Ly Q rx ry e q
  obtain ⟨i, j, d, rfl, rfl, e1, rfl⟩ := fI_ok e
  cases e1
  exact ⟨i, j, rx.2, ry.2, gr_same (hg i j H O) q⟩
instance {i j : Int} : Decidable (CMulW i j) := inferInstanceAs (Decidable (_ < _))
instance {i j : Int} : Decidable (CMul i j) := inferInstanceAs (Decidable (_ ∨ _))
instance {i j : Int} : Decidable (CDivW i j) := inferInstanceAs (Decidable (_ ∧ _))
instance {i j : Int} : Decidable (CPow i j) := inferInstanceAs (Decidable (_ ∧ _))
end
end Mi
namespace Mi
open PySem PySem.Spec PyProof.Rows L2
section
variable {C : Cfg} {H H1 H2 H' : Hp} {O O1 O2 O' : AP} {L L1 L2 L' La Lb M T : List Addr} {ρ ρ1 ρ2 ρ' : En} {σ : Sg} {i : Nat} {p : List Nat} {v : V} {w w1 : W} {b : B} {qb : Bool}
theorem take_rep (h : BR C H O ρ σ b v Lb) (e : EnvR C H O ρ σ L) (nd : (L ++ Lb).Nodup) (c : take b ρ = .ok (w, ρ')) :
    ∃ O' L' Lw, EnvR C H O' ρ' σ L' ∧ RepW C H O' w v Lw ∧ (L' ++ Lw).Nodup ∧ (∀ a, O' a → O a) ∧ (∀ a, a ∈ L' ++ Lw → a ∈ L ++ Lb) ∧ ∀ a, O a → a ∉ L ++ Lb → O' a := by
  cases b with
  | tmp w0 =>
    cases c
    exact ⟨O, L, Lb, e, h, nd, fun _ q => q, fun _ q => q, fun _ q _ => q⟩
  | bor i p =>
    simp only [take] at c
    cases hi : ρ[i]? with
    | none => rw [hi] at c; cases c
    | some x =>
      rw [hi] at c
      cases x with
      | none => cases c
      | some w0 =>
        obtain ⟨w1, c1, c⟩ := Res.of_bind c
        cases c
        have nd1 := (List.nodup_append.mp nd).1
        obtain ⟨M1, M0, r1, r2, r3⟩ := env_path e nd1 h hi (Res.of_ok c1)
        have ndM : (M1 ++ M0).Nodup := r2.nodup_iff.mp nd1
        have d0 : ∀ a ∈ M0, a ∉ M1 := fun a ha z => (List.nodup_append.mp ndM).2.2 a z a ha rfl
        have rd : RepD C H (Less O M1) (frz w1) v := RepW.frz w1 v M1 (fun a q => q) r1
        have own : ∀ a ∈ M0, O a := fun a ha => (e.own a (r2.mem_iff.mpr (by simp [ha]))).1
        obtain ⟨L', p1, p2⟩ := r3 H (Less O M1) (.fz (frz w1)) [] (keep_less d0 own) ⟨rfl, rd⟩
        refine ⟨Less O M1, L', [], p2, ⟨rfl, rd⟩, ?_, fun a q => q.1, fun a q => ?_, fun a q n => ⟨q, fun z => n ?_⟩⟩
        · rw [List.append_nil]
          exact p1.nodup_iff.mpr (List.nodup_append.mp ndM).2.1
        · rw [List.append_nil] at q
          exact List.mem_append_left _ (r2.mem_iff.mpr (by simpa using Or.inr (p1.mem_iff.mp q)))
        · exact List.mem_append_left _ (r2.mem_iff.mpr (by simp [z]))
theorem Stp.ofO (h : ∀ a, O' a → O a) (k : ∀ a, a ∈ L' → a ∈ L) (g : ∀ a, O a → a ∉ L → O' a) : Stp H O L H O' L' :=
  ⟨fun _ _ e _ => e, fun a q => .inl (h a q), fun a _ _ q n => g a q n, fun a q => .inl (k a q), fun a o e => ⟨o, e⟩⟩
def BRs (C : Cfg) (H : Hp) (O : AP) (ρ : En) (σ : Sg) : List B → List V → List Addr → Prop
  | [], vs, L => vs = [] ∧ L = []
  | b :: bs, vs, L => ∃ v r L1 L2, vs = v :: r ∧ L = L1 ++ L2 ∧ BR C H O ρ σ b v L1 ∧ BRs C H O ρ σ bs r L2
def flatB : B → Bool
  | .bor _ (_ :: _) => false
  | _ => true
theorem BR.keep {bb : B} {vv : V} (f : flatB bb = true) (h : BR C H O ρ σ bb vv T) (k : KeepL H O H' O' T) : BR C H' O' ρ' σ bb vv T := by
  cases bb with
  | tmp w => exact RepW.keep w vv T k h
  | bor i p =>
    obtain ⟨e, v0, h1, h2, h3⟩ := h
    cases p with
    | nil => exact ⟨e, v0, h1, h2, fun z => absurd rfl z⟩
    | cons j r => cases f
theorem BRs.own : ∀ {bs : List B} {vs : List V} {L : List Addr}, BRs C H O ρ σ bs vs L → ∀ a ∈ L, O a ∧ ∃ xs, H a = some (.lst xs)
  | [], vs, L, h, a, ha => by rw [h.2] at ha; simp at ha
  | b :: bs, vs, L, h, a, ha => by
    obtain ⟨v, r, L1, L2, e, e2, h1, h2⟩ := h
    subst e2
    rcases List.mem_append.mp ha with ha | ha
    · cases b with
      | tmp w => exact RepW.own w v L1 h1 a ha
      | bor i p => rw [h1.1] at ha; simp at ha
    · exact BRs.own h2 a ha
end
abbrev CBs := En → Res (List B × En)
structure PostB (C : Cfg) (σ : Sg) (H : Hp) (O : AP) (L : List Addr) (ρ : En) (qt : Bool) (bs : List B) (ρ' : En) (vs : List V) (H' : Hp) (O' : AP) (L' Lb : List Addr) : Prop where
  env : EnvR C H' O' ρ' σ L'
  br : BRs C H' O' ρ' σ bs vs Lb
  nd : (L' ++ Lb).Nodup
  st : Stp H O L H' O' (L' ++ Lb)
  qu : qt = true → ρ' = ρ ∧ ∀ a o, H a = some o → H' a = some o
def tB (C : Cfg) (qt : Bool) (c : CBs) : TA := fun σ H Q => ∃ O L ρ bs ρ', EnvR C H O ρ σ L ∧ L.Nodup ∧ c ρ = .ok (bs, ρ') ∧ ∀ vs H' O' L' Lb, PostB C σ H O L ρ qt bs ρ' vs H' O' L' Lb → Q vs H'
def SB (X : Cx) (cl : Nat → Addr) (qt : Bool) (es : List Expr) (c : CBs) : Prop := PA X es (tB ⟨X.K, cl⟩ qt c)
def cNil : CBs := fun ρ => .ok ([], ρ)
def early (qb : Bool) : B → En → Res (B × En)
  | .bor i (k :: p), ρ => if qb then .ok (.bor i (k :: p), ρ) else (take (.bor i (k :: p)) ρ).bind fun (w, ρ') => .ok (.tmp w, ρ')
  | b, ρ => .ok (b, ρ)
def cCons (qb : Bool) (ca : CE) (cb : CBs) : CBs := fun ρ =>
  (ca ρ).bind fun (a, ρ1) => (early qb a ρ1).bind fun (a, ρ1) => (cb ρ1).bind fun (bs, ρ2) => .ok (a :: bs, ρ2)
def cStar (ca : CE) (cb : CBs) (sq : W → Option (List D)) : CBs := fun ρ =>
  (ca ρ).bind fun (a, ρ1) => (cont a ρ1).bind fun x => (Res.of (sq x)).bind fun ds => (cb ρ1).bind fun (bs, ρ2) => .ok (ds.map (fun d => B.tmp (.fz d)) ++ bs, ρ2)
section
variable {X : Cx} {cl : Nat → Addr} {e : Expr} {es : List Expr} {ca : CE} {cb : CBs} {qa qb : Bool}
theorem sb_nil : SB X cl true [] cNil := by
  refine PA.imp pa_nil fun σ H Q h => ?_
  obtain ⟨O, L, ρ, bs, ρ', env, nd, c, q⟩ := h
  cases c
  exact q [] H O L [] ⟨env, ⟨rfl, rfl⟩, by rw [List.append_nil]; exact nd, by rw [List.append_nil]; exact Stp.refl _ _ _, fun _ => ⟨rfl, fun _ _ e => e⟩⟩
theorem early_flat {b b' : B} {ρ ρ' : En} (h : early qb b ρ = .ok (b', ρ')) : (b' = b ∧ ρ' = ρ ∧ (qb = true ∨ flatB b = true)) ∨ (qb = false ∧ ∃ w, take b ρ = .ok (w, ρ') ∧ b' = .tmp w) := by
  cases b with
  | tmp w => simp [early] at h; exact .inl ⟨h.1.symm, h.2.symm, .inr rfl⟩
  | bor i p =>
    cases p with
    | nil => simp [early] at h; exact .inl ⟨h.1.symm, h.2.symm, .inr rfl⟩
    | cons k p =>
      cases qb with
      | true => simp [early] at h; exact .inl ⟨h.1.symm, h.2.symm, .inl rfl⟩
      | false =>
        simp only [early] at h
        obtain ⟨⟨w, ρ2⟩, h1, h2⟩ := Res.of_bind h
        cases h2
        exact .inr ⟨rfl, w, h1, rfl⟩
theorem cons_core {C : Cfg} {σ : Sg} {H : Hp} {Q : List V → Hp → Prop} (h : tB C (qa && qb) (cCons qb ca cb) σ H Q) : tCons (tE C qa ca) (tB C qb cb) σ H Q := by
  obtain ⟨O, L, ρ, bs0, ρ', env, nd, c, q⟩ := h
  obtain ⟨⟨a, ρ1⟩, c1, c⟩ := Res.of_bind c
  obtain ⟨⟨a1, ρ1'⟩, c2, c⟩ := Res.of_bind c
  obtain ⟨⟨bs, ρ2⟩, c3, c⟩ := Res.of_bind c
  cases c
  refine ⟨O, L, ρ, a, ρ1, env, nd, c1, fun va H1 O1 L1 La P1 => ?_⟩
  -- behind the operand: either it is pending as it is, or it was taken over
  obtain ⟨O1', L1', La', env1, br1, nd1, st1, fl, qu1⟩ : ∃ O1' L1' La', EnvR C H1 O1' ρ1' σ L1' ∧ BR C H1 O1' ρ1' σ a1 va La' ∧ (L1' ++ La').Nodup ∧ Stp H1 O1 (L1 ++ La) H1 O1' (L1' ++ La') ∧ (qb = true ∨ flatB a1 = true) ∧ (qb = true → ρ1' = ρ1) := by
    rcases early_flat c2 with ⟨e1, e2, f⟩ | ⟨hq, w, t, e1⟩
    · subst e1; subst e2
      exact ⟨O1, L1, La, P1.env, P1.br, P1.nd, Stp.refl _ _ _, f, fun _ => rfl⟩
    · subst e1
      obtain ⟨O', L', Lw, g1, g2, g3, g4, g5, g6⟩ := take_rep P1.br P1.env P1.nd t
      exact ⟨O', L', Lw, g1, g2, g3, Stp.ofO g4 g5 g6, .inr rfl, fun z => by rw [hq] at z; cases z⟩
  have own1 : ∀ z ∈ L1', O1' z := fun z hz => (env1.own z hz).1
  have ndd := List.nodup_append.mp nd1
  refine ⟨O1', L1', ρ1', bs, ρ', env1, ndd.1, c3, fun vb H2 O2 L2 Lb P2 => ?_⟩
  have d : ∀ z ∈ La', z ∉ L1' := fun z hz q => ndd.2.2 z q z hz rfl
  have owA : ∀ z ∈ La', O1' z ∧ ∃ xs, H1 z = some (.lst xs) := by
    cases a1 with
    | tmp w => exact RepW.own w va La' br1
    | bor i p => intro z hz; rw [br1.1] at hz; simp at hz
  have kL : KeepL H1 O1' H2 O2 La' := P2.st.keepL own1 (fun z hz => (owA z hz).1) d
  have br2 : BR C H2 O2 ρ' σ a1 va La' := by
    rcases fl with hq | f
    · cases hf : flatB a1 with
      | true => exact br1.keep hf kL
      | false =>
        cases a1 with
        | tmp w => cases hf
        | bor i p =>
          obtain ⟨e, v0, h1, h2, h3⟩ := br1
          obtain ⟨g1, g2⟩ := P2.qu hq
          refine ⟨e, v0, h1, h2, fun hp => ?_⟩
          obtain ⟨w0, k1, k2⟩ := h3 hp
          exact ⟨w0, by rw [g1]; exact k1, PathR.ext g2 _ _ _ _ k2⟩
    · exact br1.keep f kL
  have nd2 : (L2 ++ Lb ++ La').Nodup := nodup_frame P2.st P2.nd ndd.2.1 (fun z hz => let ⟨_, xs, e⟩ := owA z hz; ⟨_, e⟩) d
  have pm : (L2 ++ Lb ++ La').Perm (L2 ++ (La' ++ Lb)) := by
    rw [List.append_assoc]; exact List.Perm.append_left L2 List.perm_append_comm
  refine q (va :: vb) H2 O2 L2 (La' ++ Lb) ⟨P2.env, ⟨va, vb, La', Lb, rfl, rfl, br2, P2.br⟩, pm.nodup_iff.mp nd2, ?_, fun hq => ?_⟩
  · exact ((P1.st.trans st1).trans (P2.st.frame La')).perm fun z hz => pm.mem_iff.mpr hz
  · have hq' : qa = true ∧ qb = true := by simpa using hq
    obtain ⟨g1, g2⟩ := P1.qu hq'.1
    obtain ⟨g3, g4⟩ := P2.qu hq'.2
    exact ⟨g3.trans ((qu1 hq'.2).trans g1), fun z o e => g4 z o (g2 z o e)⟩
theorem sb_cons (ha : SE X cl qa e ca) (hb : SB X cl qb es cb) (hs : starEach (e :: es) X.env = (false, eval e X.env) :: starEach es X.env := by rfl) : SB X cl (qa && qb) (e :: es) (cCons qb ca cb) :=
  PA.imp (pa_cons ha hb hs) fun σ H Q h => cons_core h
end
end Mi
namespace Mi
open PySem PySem.Spec PyProof.Rows L2
def unfz : List W → Option (List D)
  | [] => some []
  | .fz d :: ws => match unfz ws with
    | some ds => some (d :: ds)
    | none => none
  | .lst _ :: _ => none
theorem unfz_map : ∀ {ws : List W} {ds : List D}, unfz ws = some ds → ws = ds.map W.fz
  | [], ds, h => by cases h; rfl
  | .fz d :: ws, ds, h => by
    simp only [unfz] at h
    cases e : unfz ws with
    | none => rw [e] at h; cases h
    | some es => rw [e] at h; cases h; rw [unfz_map e]; rfl
  | .lst _ :: _, ds, h => by cases h
@[simp] theorem unfz_fz : ∀ ds : List D, unfz (ds.map W.fz) = some ds
  | [] => rfl
  | d :: ds => by simp only [List.map_cons, unfz]; rw [unfz_fz ds]
def lstV : W → Option (List D)
  | .fz (.lst ds) => some ds
  | .lst ws => unfz ws
  | _ => none
def tupV : W → Option (List D)
  | .fz (.tup ds) => some ds
  | _ => none
def seqV : W → Option (List D)
  | .fz (.lst ds) => some ds
  | .fz (.tup ds) => some ds
  | .fz (.scr ds) => some ds
  | .lst ws => unfz ws
  | _ => none
section
variable {C : Cfg} {H H' : Hp} {O O' : AP} {w : W} {x : V} {L : List Addr} {ds : List D}
theorem lstV_rep (h : RepW C H O w x L) (e : lstV w = some ds) : ∃ a xs, x = .ref a ∧ H a = some (.lst xs) ∧ RepDs C H O ds xs := by
  cases w with
  | fz d =>
    cases d with
    | lst es =>
      cases e
      obtain ⟨_, a, xs, e1, h1, h2, r⟩ := h
      exact ⟨a, xs, e1, h1, r⟩
    | _ => cases e
  | lst ws =>
    have e' := unfz_map (show unfz ws = some ds from e)
    subst e'
    obtain ⟨a, xs, L', e1, h1, h2, h3, r⟩ := h
    exact ⟨a, xs, e1, h1, (RepWs.toD r).1⟩
theorem tupV_rep (h : RepW C H O w x L) (e : tupV w = some ds) : ∃ a xs, x = .ref a ∧ Tp C H O a xs ∧ RepDs C H O ds xs := by
  cases w with
  | fz d =>
    cases d with
    | tup es =>
      cases e
      obtain ⟨_, a, xs, e1, h1, r⟩ := h
      exact ⟨a, xs, e1, h1, r⟩
    | _ => cases e
  | lst ws => cases e
theorem seqV_rep (h : RepW C H O w x L) (e : seqV w = some ds) : ∃ a xs, x = .ref a ∧ (SqL C.K H a xs ∨ SqT C.K H a xs) ∧ RepDs C H O ds xs := by
  cases w with
  | fz d =>
    cases d with
    | lst es =>
      obtain ⟨a, xs, e1, h1, r⟩ := lstV_rep (ds := ds) h e
      exact ⟨a, xs, e1, .inl (SqL.of h1), r⟩
    | tup es =>
      obtain ⟨a, xs, e1, h1, r⟩ := tupV_rep (ds := ds) h e
      exact ⟨a, xs, e1, .inr h1.sq, r⟩
    | scr es =>
      cases e
      obtain ⟨_, a, xs, e1, h1, r⟩ := h
      exact ⟨a, xs, e1, .inl h1.sq, r⟩
    | _ => cases e
  | lst ws =>
    obtain ⟨a, xs, e1, h1, r⟩ := lstV_rep (ds := ds) h e
    exact ⟨a, xs, e1, .inl (SqL.of h1), r⟩
theorem new_tup {p : Addr} {xs : List V} (hp : H p = none) (r : RepDs C H O ds xs) : RepW C (upd H p (.tup xs)) (Less O [p]) (.fz (.tup ds)) (.ref p) [] := by
  refine ⟨rfl, p, xs, rfl, .inl ⟨.inl upd_same, fun q => q.2 (by simp)⟩, RepDs.keep (Gr.new (o := .tup xs) hp).keep ds xs r⟩
theorem new_lst {p : Addr} {xs : List V} (hp : H p = none) (r : RepDs C H O ds xs) : RepW C (upd H p (.lst xs)) (fun a => O a ∨ a = p) (.lst (ds.map W.fz)) (.ref p) [p] := by
  exact ⟨p, xs, [], rfl, upd_same, .inr rfl, rfl, RepWs.ofD (RepDs.keep (Gr.newO (o := .lst xs) hp).keep ds xs r)⟩
end
section
variable {X : Cx} {cl : Nat → Addr} {e : Expr} {es : List Expr} {ca : CE} {cb : CBs} {qa qb : Bool} {pos : Pos}
end
def takes : List B → En → Res (List W × En)
  | [], ρ => .ok ([], ρ)
  | b :: bs, ρ => (take b ρ).bind fun (w, ρ1) => (takes bs ρ1).bind fun (ws, ρ2) => .ok (w :: ws, ρ2)
def isTmp : B → Bool
  | .tmp _ => true
  | _ => false
section
variable {C : Cfg} {H : Hp} {σ : Sg}
theorem BRs.keep {ρ ρ' : En} {O O' : AP} : ∀ {bs : List B} {vs : List V} {L : List Addr}, bs.all flatB = true → KeepL H O H O' L → BRs C H O ρ σ bs vs L → BRs C H O' ρ' σ bs vs L
  | [], vs, L, f, k, h => h
  | b :: bs, vs, L, f, k, h => by
    obtain ⟨v, r, L1, L2, e, e2, h1, h2⟩ := h
    subst e2
    have f' : flatB b = true ∧ bs.all flatB = true := by simpa using f
    exact ⟨v, r, L1, L2, e, rfl, h1.keep f'.1 (k.sub fun a ha => by simp [ha]), BRs.keep f'.2 (k.sub fun a ha => by simp [ha]) h2⟩
theorem takes_rep : ∀ {bs : List B} {vs : List V} {ws : List W} {ρ ρ' : En} {O : AP} {L Lb : List Addr}, BRs C H O ρ σ bs vs Lb → EnvR C H O ρ σ L → (L ++ Lb).Nodup → bs.all flatB = true → takes bs ρ = .ok (ws, ρ') →
    ∃ O' L' Lw, EnvR C H O' ρ' σ L' ∧ RepWs C H O' ws vs Lw ∧ (L' ++ Lw).Nodup ∧ (∀ a, O' a → O a) ∧ (∀ a, a ∈ L' ++ Lw → a ∈ L ++ Lb) ∧ (∀ a, O a → a ∉ L ++ Lb → O' a) ∧ (bs.all isTmp = true → ρ' = ρ)
  | [], vs, ws, ρ, ρ', O, L, Lb, h, env, nd, f, c => by
    cases c
    rw [h.1, h.2]
    exact ⟨O, L, [], env, ⟨rfl, rfl⟩, by rw [List.append_nil]; exact (List.nodup_append.mp nd).1, fun _ q => q, fun _ q => by simpa using q, fun _ q _ => q, fun _ => rfl⟩
  | b :: bs, vs, ws, ρ, ρ', O, L, Lb, h, env, nd, f, c => by
    obtain ⟨v, r, L1, L2, e, e2, h1, h2⟩ := h
    subst e; subst e2
    have f' : flatB b = true ∧ bs.all flatB = true := by simpa using f
    obtain ⟨⟨w, ρ1⟩, c1, c⟩ := Res.of_bind c
    obtain ⟨⟨ws', ρ2⟩, c2, c⟩ := Res.of_bind c
    cases c
    have nd1 : (L ++ L1).Nodup := by
      rw [← List.append_assoc] at nd
      exact (List.nodup_append.mp nd).1
    have dis : ∀ a ∈ L2, a ∉ L ++ L1 := fun a ha z => by
      rw [← List.append_assoc] at nd
      exact (List.nodup_append.mp nd).2.2 a z a ha rfl
    have nd2 : L2.Nodup := by
      rw [← List.append_assoc] at nd
      exact (List.nodup_append.mp nd).2.1
    obtain ⟨O1, M, Lw, g1, g2, g3, g4, g5, g6⟩ := take_rep h1 env nd1 c1
    have own2 := BRs.own h2
    have k2 : KeepL H O H O1 L2 := ⟨fun a o e n => ⟨e, fun q => n (g4 a q)⟩, fun a ha o e => ⟨e, g6 a (own2 a ha).1 (dis a ha)⟩⟩
    have h2' : BRs C H O1 ρ1 σ bs r (L2) := BRs.keep f'.2 k2 h2
    have ndM : (M ++ L2).Nodup := List.nodup_append.mpr ⟨(List.nodup_append.mp g3).1, nd2, fun a ha b hb e => by subst e; exact dis a hb (g5 a (by simp [ha]))⟩
    obtain ⟨O', L', Lw', k1, k3, k4, k5, k6, k7, k8⟩ := takes_rep h2' g1 ndM f'.2 c2
    have dw : ∀ a ∈ Lw, a ∉ M ++ L2 := fun a ha z => by
      rcases List.mem_append.mp z with z | z
      · exact (List.nodup_append.mp g3).2.2 a z a ha rfl
      · exact dis a z (g5 a (by simp [ha]))
    have ow := RepW.own w v Lw g2
    have rw2 : RepW C H O' w v Lw := RepW.keep w v Lw ⟨fun a o e n => ⟨e, fun q => n (k5 a q)⟩, fun a ha o e => ⟨e, k7 a (ow a ha).1 (dw a ha)⟩⟩ g2
    refine ⟨O', L', Lw ++ Lw', k1, ⟨v, r, Lw, Lw', rfl, rfl, rw2, k3⟩, ?_, fun a q => g4 a (k5 a q), fun a q => ?_, fun a q n => ?_, fun t => ?_⟩
    · have p : (L' ++ Lw' ++ Lw).Perm (L' ++ (Lw ++ Lw')) := by rw [List.append_assoc]; exact List.Perm.append_left L' List.perm_append_comm
      refine p.nodup_iff.mp (List.nodup_append.mpr ⟨k4, (List.nodup_append.mp g3).2.1, fun a ha b hb e => ?_⟩)
      subst e
      exact dw a hb (k6 a ha)
    · rcases List.mem_append.mp q with q | q
      · rcases List.mem_append.mp (k6 a (by simp [q])) with z | z
        · have := g5 a (by simp [z]); simp only [List.mem_append] at this ⊢; rcases this with t | t <;> simp [t]
        · simp [z]
      · rcases List.mem_append.mp q with q | q
        · have := g5 a (by simp [q]); simp only [List.mem_append] at this ⊢; rcases this with t | t <;> simp [t]
        · rcases List.mem_append.mp (k6 a (by simp [q])) with z | z
          · have := g5 a (by simp [z]); simp only [List.mem_append] at this ⊢; rcases this with t | t <;> simp [t]
          · simp [z]
    · have n1 : a ∉ L ++ L1 := fun z => n (by simp only [List.mem_append] at z ⊢; rcases z with t | t <;> simp [t])
      have n2 : a ∉ L2 := fun z => n (by simp [z])
      refine k7 a (g6 a q n1) fun z => ?_
      rcases List.mem_append.mp z with z | z
      · exact n1 (g5 a (by simp [z]))
      · exact n2 z
    · have t' : isTmp b = true ∧ bs.all isTmp = true := by simpa using t
      have e1 : ρ1 = ρ := by
        cases b with
        | tmp w => cases c1; rfl
        | bor i p => cases t'.1
      exact (k8 t'.2).trans e1
end
def shut (qd : Bool) (bs : List B) : Bool := bs.all flatB && (!qd || bs.all isTmp)
def cTup (qd : Bool) (cb : CBs) : CE := fun ρ => (cb ρ).bind fun (bs, ρ1) => (chk (shut qd bs)).bind fun _ => (takes bs ρ1).bind fun (ws, ρ2) => (chk (decide (ws.length ≤ 16777216))).bind fun _ => .ok (.tmp (.fz (.tup (frzs ws))), ρ2)
def cLst (qd : Bool) (cb : CBs) : CE := fun ρ => (cb ρ).bind fun (bs, ρ1) => (chk (shut qd bs)).bind fun _ => (takes bs ρ1).bind fun (ws, ρ2) => (chk (decide (ws.length ≤ 16777216))).bind fun _ => .ok (.tmp (.lst ws), ρ2)
theorem shut_ok {qd : Bool} {bs : List B} (h : shut qd bs = true) : bs.all flatB = true ∧ (qd = true → bs.all isTmp = true) := by
  unfold shut at h
  obtain ⟨h1, h2⟩ := Bool.and_eq_true_iff.mp h
  refine ⟨h1, fun e => ?_⟩
  subst e
  simpa using h2
section
variable {X : Cx} {cl : Nat → Addr} {es : List Expr} {cb : CBs} {qb qd : Bool} {pos : Pos}
theorem se_tup {k : Nat} (hb : SB X cl qb es cb) : SE X cl (qb && qd) (.Tuple es k pos) (cTup qd cb) := by
  refine PE.imp (pe_tup hb) fun σ H Q h => ?_
  obtain ⟨O, L, ρ, b0, ρ', env, nd, c, q⟩ := h
  obtain ⟨⟨bs, ρ1⟩, c1, c⟩ := Res.of_bind c
  obtain ⟨_, cs, c⟩ := Res.of_bind c
  obtain ⟨hf, ht⟩ := shut_ok (chk_ok cs)
  obtain ⟨⟨ws, ρ2⟩, c2, c⟩ := Res.of_bind c
  obtain ⟨_, c9, c⟩ := Res.of_bind c
  have hl := chk_dec c9
  cases c
  · ·
      refine ⟨O, L, ρ, bs, ρ1, env, nd, c1, fun vs H1 O1 L1 Lb P => ?_⟩
      obtain ⟨O2, L2, Lw, g1, g2, g3, g4, g5, g6, g7⟩ := takes_rep (ρ' := ρ') P.br P.env P.nd hf c2
      refine ⟨by rw [g2.length, sizeLine_eq]; exact hl, fun p hp => ?_⟩
      have rd : RepDs ⟨X.K, cl⟩ H1 (Less O2 Lw) (frzs ws) vs := RepWs.frz ws vs Lw (fun a q => q) g2
      refine q (.ref p) _ _ L2 [] (post_of g1 g3 (P.st.trans (Stp.ofO g4 g5 g6)) (fun hq => ?_) (Gr.new hp) (new_tup hp rd))
      have hq' : qb = true ∧ qd = true := by simpa using hq
      exact ⟨(g7 (ht hq'.2)).trans (P.qu hq'.1).1, (P.qu hq'.1).2⟩
theorem se_lst (hb : SB X cl qb es cb) : SE X cl (qb && qd) (.List es pos) (cLst qd cb) := by
  refine PE.imp (pe_lst hb) fun σ H Q h => ?_
  obtain ⟨O, L, ρ, b0, ρ', env, nd, c, q⟩ := h
  obtain ⟨⟨bs, ρ1⟩, c1, c⟩ := Res.of_bind c
  obtain ⟨_, cs, c⟩ := Res.of_bind c
  obtain ⟨hf, ht⟩ := shut_ok (chk_ok cs)
  obtain ⟨⟨ws, ρ2⟩, c2, c⟩ := Res.of_bind c
  obtain ⟨_, c9, c⟩ := Res.of_bind c
  have hl := chk_dec c9
  cases c
  · ·
      refine ⟨O, L, ρ, bs, ρ1, env, nd, c1, fun vs H1 O1 L1 Lb P => ?_⟩
      obtain ⟨O2, L2, Lw, g1, g2, g3, g4, g5, g6, g7⟩ := takes_rep (ρ' := ρ') P.br P.env P.nd hf c2
      refine ⟨by rw [g2.length, sizeLine_eq]; exact hl, fun p hp => ?_⟩
      have g : Gr H1 O2 (upd H1 p (.lst vs)) (fun a => O2 a ∨ a = p) [p] := Gr.newO hp
      have ow : ∀ a ∈ Lw, O2 a := fun a ha => (RepWs.own ws vs Lw g2 a ha).1
      have ndw := List.nodup_append.mp g3
      refine q (.ref p) _ _ L2 (p :: Lw) ⟨g1.grow g, ⟨p, vs, Lw, rfl, upd_same, .inr rfl, rfl, RepWs.keep ws vs Lw (g.keepL ow) g2⟩, ?_, ?_, fun hq => ?_⟩
      · refine (List.perm_middle (l₁ := L2) (a := p) (l₂ := Lw)).nodup_iff.mpr (List.nodup_cons.mpr ⟨fun z => ?_, g3⟩)
        rcases List.mem_append.mp z with z | z
        · obtain ⟨_, xs, e⟩ := g1.own p z; rw [hp] at e; cases e
        · obtain ⟨_, xs, e⟩ := RepWs.own ws vs Lw g2 p z; rw [hp] at e; cases e
      · refine ((P.st.trans (Stp.ofO g4 g5 g6)).trans g.stp).perm fun a ha => ?_
        simp only [List.mem_append, List.mem_cons, List.mem_singleton, List.not_mem_nil, or_false] at ha ⊢
        rcases ha with ha | ha | ha
        · exact .inl (.inl ha)
        · exact .inr ha
        · exact .inl (.inr ha)
      · have hq' : qb = true ∧ qd = true := by simpa using hq
        exact ⟨(g7 (ht hq'.2)).trans (P.qu hq'.1).1, fun a o e => g.ex a o ((P.qu hq'.1).2 a o e)⟩
end
def conts : List B → En → Res (List W)
  | [], _ => .ok []
  | b :: bs, ρ => (cont b ρ).bind fun w => (conts bs ρ).bind fun ws => .ok (w :: ws)
def RepA (C : Cfg) (H : Hp) (O : AP) : List W → List V → Prop
  | [], vs => vs = []
  | w :: ws, vs => ∃ v r L, vs = v :: r ∧ RepW C H O w v L ∧ RepA C H O ws r
theorem conts_rep {C : Cfg} {H : Hp} {O : AP} {ρ : En} {σ : Sg} {L T : List Addr} (e : EnvR C H O ρ σ L) (nd : L.Nodup) (d : ∀ a ∈ L, a ∉ T) : ∀ {bs : List B} {vs : List V} {ws : List W} {Lb : List Addr}, BRs C H O ρ σ bs vs Lb → (∀ a ∈ Lb, a ∈ T) → conts bs ρ = .ok ws → RepA C H (Less O T) ws vs
  | [], vs, ws, Lb, h, s, c => by cases c; exact h.1
  | b :: bs, vs, ws, Lb, h, s, c => by
    obtain ⟨v, r, L1, L2, e1, e2, h1, h2⟩ := h
    subst e2
    obtain ⟨w, c1, c⟩ := Res.of_bind c
    obtain ⟨ws', c2, c⟩ := Res.of_bind c
    cases c
    obtain ⟨Lw, rw', _⟩ := cont_rep h1 e nd d (fun a ha => s a (by simp [ha])) c1
    exact ⟨v, r, Lw, e1, rw', conts_rep e nd d h2 (fun a ha => s a (by simp [ha])) c2⟩
def CallS (C : Cfg) (r : List V → Hp → VK → Prop) (f : List W → Res W) : Prop := ∀ (H : Hp) (O : AP) (vs : List V) (ws : List W) (w : W) (Q : VK), RepA C H O ws vs → f ws = .ok w →
  (∀ v H' O' Lw, RepW C H' O' w v Lw → Gr H O H' O' Lw → Q v H') → r vs H Q
def cCallB (f : List W → Res W) (cb : CBs) : CE := fun ρ => (cb ρ).bind fun (bs, ρ1) => (conts bs ρ1).bind fun ws => (f ws).bind fun w => .ok (.tmp w, ρ1)
theorem callB_core {C : Cfg} {r : List V → Hp → VK → Prop} {f : List W → Res W} {qb : Bool} {cb : CBs} (hs : CallS C r f) {σ : Sg} {H : Hp} {Q : VK} (h : tE C qb (cCallB f cb) σ H Q) : tCB r (tB C qb cb) σ H Q := by
  obtain ⟨O, L, ρ, b0, ρ', env, nd, c, q⟩ := h
  obtain ⟨⟨bs, ρ1⟩, c1, c⟩ := Res.of_bind c
  obtain ⟨ws, c2, c⟩ := Res.of_bind c
  obtain ⟨w, c3, c⟩ := Res.of_bind c
  cases c
  refine ⟨O, L, ρ, bs, ρ', env, nd, c1, fun vs H1 O1 L1 Lb P => ?_⟩
  have ndd := List.nodup_append.mp P.nd
  have d : ∀ z ∈ L1, z ∉ Lb := fun z hz q => ndd.2.2 z hz z q rfl
  exact hs H1 (Less O1 Lb) vs ws w _ (conts_rep P.env ndd.1 d P.br (fun a ha => ha) c2) c3 fun v H' O' Lw rw' g => q v H' O' L1 Lw (post_of P.env P.nd P.st P.qu g rw')
section
variable {X : Cx} {cl : Nat → Addr} {x : Str} {p pos : Pos} {e : Expr} {es : List Expr} {cb : CBs} {qb : Bool} {id T : String} {r : List V → Hp → VK → Prop} {f : List W → Res W}
theorem se_callB (hc : CallR X (.builtin id) r) (hs : CallS ⟨X.K, cl⟩ r f) (hg : Gl X x) (hm : X.mg x = none) (hv : bootBuiltins x = some (.builtin id)) (hb : SB X cl qb (e :: es) cb) (hn : x ≠ "__name__" := by decide) (hdb : (x == ("__debug__" : Str)) = false := by decide)
    (he : starEach (e :: es) X.env = (false, eval e X.env) :: starEach es X.env := by rfl) (hpl : (backTo pos (starEach es X.env)).any (·.1) = false := by rfl) : SE X cl qb (.Call (.Name x p) (e :: es) [] pos) (cCallB f cb) :=
  PE.imp (pe_callB hc hg hm hv hb hn hdb he hpl) fun σ H Q h => callB_core hs h
theorem se_callTy (hc : CallR X (.type T) r) (hs : CallS ⟨X.K, cl⟩ r f) (hg : Gl X x) (hm : X.mg x = none) (hv : bootBuiltins x = some (.type T)) (hb : SB X cl qb (e :: es) cb) (hn : x ≠ "__name__" := by decide) (hdb : (x == ("__debug__" : Str)) = false := by decide)
    (he : starEach (e :: es) X.env = (false, eval e X.env) :: starEach es X.env := by rfl) (hpl : (backTo pos (starEach es X.env)).any (·.1) = false := by rfl) : SE X cl qb (.Call (.Name x p) (e :: es) [] pos) (cCallB f cb) :=
  PE.imp (pe_callTy hc hg hm hv hb hn hdb he hpl) fun σ H Q h => callB_core hs h
end
end Mi
namespace Mi
open PySem PySem.Spec PyProof.Rows L2
section
variable {C : Cfg} {σ : Sg} {H H1 H2 : Hp} {O O1 O2 : AP} {L L1 L2 : List Addr} {ρ ρ1 ρ2 : En} {qa qb : Bool}
theorem PostT.trans (a : PostT C σ H O L ρ qa ρ1 H1 O1 L1) (b : PostT C σ H1 O1 L1 ρ1 qb ρ2 H2 O2 L2) : PostT C σ H O L ρ (qa && qb) ρ2 H2 O2 L2 :=
  ⟨b.env, b.nd, a.st.trans b.st, fun hq => by
    have hq' : qa = true ∧ qb = true := by simpa using hq
    exact ⟨(b.qu hq'.2).1.trans (a.qu hq'.1).1, fun z o e => (b.qu hq'.2).2 z o ((a.qu hq'.1).2 z o e)⟩⟩
theorem PostT.weak (a : PostT C σ H O L ρ qa ρ1 H1 O1 L1) (h : qb = true → qa = true) : PostT C σ H O L ρ qb ρ1 H1 O1 L1 := ⟨a.env, a.nd, a.st, fun q => a.qu (h q)⟩
theorem PostT.transE {b : B} {v : V} {Lb : List Addr} (a : PostT C σ H O L ρ qa ρ1 H1 O1 L1) (p : PostE C σ H1 O1 L1 ρ1 qb b ρ2 v H2 O2 L2 Lb) : PostE C σ H O L ρ (qa && qb) b ρ2 v H2 O2 L2 Lb :=
  ⟨p.env, p.br, p.nd, a.st.trans p.st, fun hq => by
    have hq' : qa = true ∧ qb = true := by simpa using hq
    exact ⟨(p.qu hq'.2).1.trans (a.qu hq'.1).1, fun z o e => (p.qu hq'.2).2 z o ((a.qu hq'.1).2 z o e)⟩⟩
theorem PostE.weak {b : B} {v : V} {Lb : List Addr} (p : PostE C σ H O L ρ qa b ρ1 v H1 O1 L1 Lb) (h : qb = true → qa = true) : PostE C σ H O L ρ qb b ρ1 v H1 O1 L1 Lb := ⟨p.env, p.br, p.nd, p.st, fun q => p.qu (h q)⟩
end
def cAndT (ca cb : CT) : CT := fun ρ => (ca ρ).bind fun (k, ρ1) => if k = true then cb ρ1 else .ok (false, ρ1)
def cOrT (ca cb : CT) : CT := fun ρ => (ca ρ).bind fun (k, ρ1) => if k = true then .ok (true, ρ1) else cb ρ1
def cNotT (ca : CT) : CT := fun ρ => (ca ρ).bind fun (k, ρ1) => .ok (!k, ρ1)
def SW (X : Cx) (cl : Nat → Addr) (qt : Bool) (e : Expr) (c : CT) : Prop := PW X e (tT ⟨X.K, cl⟩ qt c)
section
variable {X : Cx} {cl : Nat → Addr} {a b c : Expr} {rest : List Expr} {ca cb : CT} {qa qb : Bool} {pos : Pos}
theorem SW.st (h : SW X cl qa a ca) : ST X cl qa a ca := PW.pt h
theorem sw_or1 (ha : ST X cl qa a ca) : SW X cl qa (.BoolOp .Or [a] pos) ca := pw_or1 ha
theorem sw_or (ha : ST X cl qa a ca) (hb : SW X cl qb (.BoolOp .Or (b :: rest) pos) cb) : SW X cl (qa && qb) (.BoolOp .Or (a :: b :: rest) pos) (cOrT ca cb) := by
  refine PW.imp (pw_or ha hb) fun σ H Q h => ?_
  obtain ⟨O, L, ρ, k, ρ', env, nd, c, q⟩ := h
  obtain ⟨⟨k1, ρ1⟩, c1, c⟩ := Res.of_bind c
  refine ⟨O, L, ρ, k1, ρ1, env, nd, c1, fun H1 O1 L1 P1 => ?_⟩
  cases k1 with
  | false => exact ⟨O1, L1, ρ1, k, ρ', P1.env, P1.nd, c, fun H2 O2 L2 P2 => q H2 O2 L2 (P1.trans P2)⟩
  | true => cases c; exact q H1 O1 L1 (P1.weak fun z => (Bool.and_eq_true_iff.mp z).1)
theorem st_not (ha : ST X cl qa a ca) : ST X cl qa (.UnaryOp .Not a pos) (cNotT ca) := by
  refine PT.imp (pt_not ha) fun σ H Q h => ?_
  obtain ⟨O, L, ρ, k, ρ', env, nd, c, q⟩ := h
  obtain ⟨⟨k1, ρ1⟩, c1, c⟩ := Res.of_bind c
  cases c
  exact ⟨O, L, ρ, k1, ρ', env, nd, c1, fun H1 O1 L1 P1 => q H1 O1 L1 P1⟩
end
def cAnd (ca cb : CE) : CE := fun ρ => (ca ρ).bind fun (a, ρ1) => (boolOf a).bind fun k => if k = true then cb ρ1 else .ok (.tmp (.fz (.bl false)), ρ1)
def cOr (ca cb : CE) : CE := fun ρ => (ca ρ).bind fun (a, ρ1) => (boolOf a).bind fun k => if k = true then .ok (.tmp (.fz (.bl true)), ρ1) else cb ρ1
def cNot (ca : CE) : CE := fun ρ => (ca ρ).bind fun (a, ρ1) => (boolOf a).bind fun k => .ok (.tmp (.fz (.bl (!k))), ρ1)
def cIf (ct : CT) (ca cb : CE) : CE := fun ρ => (ct ρ).bind fun (k, ρ1) => if k = true then ca ρ1 else cb ρ1
def cOrL (ca cb : CE) : CE := fun ρ => (ca ρ).bind fun (a, ρ1) => match a with
  | .tmp (.lst ws) => if ws.isEmpty = true then cb ρ1 else .ok (.tmp (.lst ws), ρ1)
  | _ => .err
section
variable {X : Cx} {cl : Nat → Addr} {a b c : Expr} {rest : List Expr} {ca cb : CE} {ct : CT} {qa qb qc : Bool} {pos : Pos}
theorem PostE.toT {C : Cfg} {σ : Sg} {H H1 : Hp} {O O1 : AP} {L L1 Lb : List Addr} {ρ ρ1 : En} {k : Bool} {v : V} (P : PostE C σ H O L ρ qa (.tmp (.fz (.bl k))) ρ1 v H1 O1 L1 Lb) : v = .bl k ∧ PostT C σ H O L ρ qa ρ1 H1 O1 L1 := by
  obtain ⟨e1, e2⟩ := P.br
  subst e1
  have nd' := P.nd
  have st' := P.st
  rw [List.append_nil] at nd' st'
  exact ⟨e2, P.env, nd', st', P.qu⟩
theorem PostT.toE {C : Cfg} {σ : Sg} {H H1 : Hp} {O O1 : AP} {L L1 : List Addr} {ρ ρ1 : En} (P : PostT C σ H O L ρ qa ρ1 H1 O1 L1) (k : Bool) : PostE C σ H O L ρ qa (.tmp (.fz (.bl k))) ρ1 (.bl k) H1 O1 L1 [] :=
  ⟨P.env, ⟨rfl, rfl⟩, by rw [List.append_nil]; exact P.nd, by rw [List.append_nil]; exact P.st, P.qu⟩
theorem se_one {op : BoolOp} (ha : SE X cl qa a ca) : SE X cl qa (.BoolOp op [a] pos) ca := pe_one ha
theorem se_and (ha : SE X cl qa a ca) (hb : SE X cl qb (.BoolOp .And (b :: rest) pos) cb) : SE X cl (qa && qb) (.BoolOp .And (a :: b :: rest) pos) (cAnd ca cb) := by
  refine PE.imp (pe_and ha hb) fun σ H Q h => ?_
  obtain ⟨O, L, ρ, b0, ρ', env, nd, c, q⟩ := h
  obtain ⟨⟨a0, ρ1⟩, c1, c⟩ := Res.of_bind c
  obtain ⟨k, c2, c⟩ := Res.of_bind c
  have e := boolOf_ok c2
  subst e
  refine ⟨O, L, ρ, _, ρ1, env, nd, c1, fun v H1 O1 L1 La P1 => ?_⟩
  obtain ⟨e, P⟩ := P1.toT
  refine ⟨k, e, ?_⟩
  cases k with
  | true => exact ⟨O1, L1, ρ1, b0, ρ', P.env, P.nd, c, fun v2 H2 O2 L2 Lb P2 => q v2 H2 O2 L2 Lb (P.transE P2)⟩
  | false => cases c; exact q _ H1 O1 L1 [] ((P.toE false).weak fun z => (Bool.and_eq_true_iff.mp z).1)
theorem se_or (ha : SE X cl qa a ca) (hb : SE X cl qb (.BoolOp .Or (b :: rest) pos) cb) : SE X cl (qa && qb) (.BoolOp .Or (a :: b :: rest) pos) (cOr ca cb) := by
  refine PE.imp (pe_or ha hb) fun σ H Q h => ?_
  obtain ⟨O, L, ρ, b0, ρ', env, nd, c, q⟩ := h
  obtain ⟨⟨a0, ρ1⟩, c1, c⟩ := Res.of_bind c
  obtain ⟨k, c2, c⟩ := Res.of_bind c
  have e := boolOf_ok c2
  subst e
  refine ⟨O, L, ρ, _, ρ1, env, nd, c1, fun v H1 O1 L1 La P1 => ?_⟩
  obtain ⟨e, P⟩ := P1.toT
  refine ⟨k, e, ?_⟩
  cases k with
  | false => exact ⟨O1, L1, ρ1, b0, ρ', P.env, P.nd, c, fun v2 H2 O2 L2 Lb P2 => q v2 H2 O2 L2 Lb (P.transE P2)⟩
  | true => cases c; exact q _ H1 O1 L1 [] ((P.toE true).weak fun z => (Bool.and_eq_true_iff.mp z).1)
theorem se_not (ha : SE X cl qa a ca) : SE X cl qa (.UnaryOp .Not a pos) (cNot ca) := by
  refine PE.imp (pe_not ha) fun σ H Q h => ?_
  obtain ⟨O, L, ρ, b0, ρ', env, nd, c, q⟩ := h
  obtain ⟨⟨a0, ρ1⟩, c1, c⟩ := Res.of_bind c
  obtain ⟨k, c2, c⟩ := Res.of_bind c
  have e := boolOf_ok c2
  subst e
  cases c
  refine ⟨O, L, ρ, _, ρ', env, nd, c1, fun v H1 O1 L1 La P1 => ?_⟩
  obtain ⟨e, P⟩ := P1.toT
  exact ⟨k, e, q _ H1 O1 L1 [] (P.toE (!k))⟩
theorem se_if (hc : ST X cl qc c ct) (ha : SE X cl qa a ca) (hb : SE X cl qb b cb) : SE X cl (qc && (qa && qb)) (.IfExp c a b pos) (cIf ct ca cb) := by
  refine PE.imp (pe_ifExp hc ha hb) fun σ H Q h => ?_
  obtain ⟨O, L, ρ, b0, ρ', env, nd, c, q⟩ := h
  obtain ⟨⟨k, ρ1⟩, c1, c⟩ := Res.of_bind c
  refine ⟨O, L, ρ, k, ρ1, env, nd, c1, fun H1 O1 L1 P => ?_⟩
  cases k with
  | true => exact ⟨O1, L1, ρ1, b0, ρ', P.env, P.nd, c, fun v2 H2 O2 L2 Lb P2 => q v2 H2 O2 L2 Lb ((P.transE P2).weak fun z => by revert z; cases qa <;> cases qb <;> cases qc <;> simp)⟩
  | false => exact ⟨O1, L1, ρ1, b0, ρ', P.env, P.nd, c, fun v2 H2 O2 L2 Lb P2 => q v2 H2 O2 L2 Lb ((P.transE P2).weak fun z => by revert z; cases qa <;> cases qb <;> cases qc <;> simp)⟩
theorem se_orL (ha : SE X cl qa a ca) (hb : SE X cl qb (.BoolOp .Or (b :: rest) pos) cb) : SE X cl (qa && qb) (.BoolOp .Or (a :: b :: rest) pos) (cOrL ca cb) := by
  refine PE.imp (pe_orT ha hb) fun σ H Q h => ?_
  obtain ⟨O, L, ρ, b0, ρ', env, nd, c, q⟩ := h
  obtain ⟨⟨a0, ρ1⟩, c1, c⟩ := Res.of_bind c
  dsimp only at c
  split at c
  · rename_i ws
    refine ⟨O, L, ρ, _, ρ1, env, nd, c1, fun v H1 O1 L1 La P1 => ?_⟩
    obtain ⟨p, xs, L', e1, h1, h2, h3, r⟩ := P1.br
    subst e1
    refine ⟨!xs.isEmpty, .inl ⟨xs, SqL.of h1, rfl⟩, ?_⟩
    have hl := r.length
    have he : xs.isEmpty = ws.isEmpty := by cases xs <;> cases ws <;> simp at hl <;> rfl
    rw [he]
    cases hw : ws.isEmpty with
    | true =>
      rw [hw, if_pos rfl] at c
      have ndd := List.nodup_append.mp P1.nd
      have d : ∀ z ∈ L1, z ∉ La := fun z hz q => ndd.2.2 z hz z q rfl
      refine ⟨Less O1 La, L1, ρ1, b0, ρ', P1.env.less d, ndd.1, c, fun v2 H2 O2 L2 Lb P2 => q v2 H2 O2 L2 Lb ⟨P2.env, P2.br, P2.nd, P1.st.drop.trans P2.st, fun hq => ?_⟩⟩
      have hq' : qa = true ∧ qb = true := by simpa using hq
      exact ⟨(P2.qu hq'.2).1.trans (P1.qu hq'.1).1, fun z o e => (P2.qu hq'.2).2 z o ((P1.qu hq'.1).2 z o e)⟩
    | false =>
      rw [hw, if_neg (by decide)] at c
      cases c
      exact q _ H1 O1 L1 La (P1.weak fun z => (Bool.and_eq_true_iff.mp z).1)
  · cases c
end
theorem RepDs.at {C : Cfg} {H : Hp} {O : AP} {ds : List D} {xs : List V} {k : Int} {d : D} (h : RepDs C H O ds xs) (e : atI ds k = some d) : ∃ x, atI xs k = some x ∧ RepD C H O d x := by
  unfold atI at e ⊢
  rw [h.length]
  cases hk : ixN ds.length k with
  | none => rw [hk] at e; cases e
  | some j =>
    rw [hk] at e
    exact h.get (show ds[j]? = some d from e)
def fIdx (x y : W) : Res W := match y with
  | .fz (.int k) => match x with
    | .fz (.str s) => if s.length ≤ 16777216 then match atI s.cps.toList k with
      | some c => .ok (.fz (.str ⟨#[c]⟩))
      | none => .err
      else .err
    | _ => match seqV x with
      | some ds => match atI ds k with
        | some d => .ok (.fz d)
        | none => .err
      | none => .err
  | _ => .err
theorem ops_idx {C : Cfg} : OpS C (rIx C.K) fIdx := by
  intro H O x y wx wy w Lx Ly Q rx ry e q
  unfold fIdx at e
  split at e
  · rename_i k
    split at e
    · rename_i s
      split at e
      · rename_i hs
        split at e
        · rename_i c hc
          cases e
          exact .inr (.inr ⟨s, k, c, rx.2, ry.2, by rw [sizeLine_eq]; exact hs, hc, gr_same (show RepD C H O (.str ⟨#[c]⟩) (.str ⟨#[c]⟩) from rfl) q⟩)
        · cases e
      · cases e
    · split at e
      · rename_i ds hds
        split at e
        · rename_i d hd
          cases e
          obtain ⟨a, xs, e1, h1, r⟩ := seqV_rep rx hds
          obtain ⟨z, hz, rz⟩ := r.at hd
          rcases h1 with h1 | h1
          · exact .inl ⟨a, xs, k, z, e1, ry.2, h1, hz, gr_same rz q⟩
          · exact .inr (.inl ⟨a, xs, k, z, e1, ry.2, h1, hz, gr_same rz q⟩)
        · cases e
      · cases e
  · cases e
end Mi
namespace Mi
open PySem PySem.Spec PyProof.Rows L2
inductive Fl where
  | nx | ret (w : W) | bk | ct
abbrev CS := En → Res (Fl × En)
abbrev KP := Nat → Bool
structure PostS (C : Cfg) (kp : KP) (σ : Sg) (H : Hp) (O : AP) (L : List Addr) (ρ' : En) (σ' : Sg) (H' : Hp) (O' : AP) (L' Lw : List Addr) : Prop where
  env : EnvR C H' O' ρ' σ' L'
  nd : (L' ++ Lw).Nodup
  st : Stp H O L H' O' (L' ++ Lw)
  kp : ∀ i, kp i = true → σ'[i]? = σ[i]?
  ln : σ'.length = σ.length
def EndS (C : Cfg) (Dn : Ends) (σ' : Sg) (H' : Hp) (O' : AP) (Lw : List Addr) : Fl → Prop
  | .nx => Lw = [] → Dn.nx σ' H'
  | .bk => Lw = [] → Dn.bk σ' H'
  | .ct => Lw = [] → Dn.ct σ' H'
  | .ret w => ∀ v, RepW C H' O' w v Lw → Dn.rt v H'
def tS (C : Cfg) (kp : KP) (c : CS) : TS := fun Dn σ H => ∃ O L ρ fl ρ', EnvR C H O ρ σ L ∧ L.Nodup ∧ c ρ = .ok (fl, ρ') ∧ ∀ σ' H' O' L' Lw, PostS C kp σ H O L ρ' σ' H' O' L' Lw → EndS C Dn σ' H' O' Lw fl
def SS (X : Cx) (cl : Nat → Addr) (kp : KP) (st : Stmt) (c : CS) : Prop := PS X st (tS ⟨X.K, cl⟩ kp c)
def SSs (X : Cx) (cl : Nat → Addr) (kp : KP) (st : List Stmt) (c : CS) : Prop := PSs X st (tS ⟨X.K, cl⟩ kp c)
section
variable {C : Cfg} {kp : KP} {σ σ1 σ2 : Sg} {H H1 H2 : Hp} {O O1 O2 : AP} {L L1 L2 Lw : List Addr} {ρ ρ1 ρ2 : En}
theorem PostS.refl (env : EnvR C H O ρ σ L) (nd : L.Nodup) : PostS C kp σ H O L ρ σ H O L [] := ⟨env, by rw [List.append_nil]; exact nd, by rw [List.append_nil]; exact Stp.refl _ _ _, fun _ _ => rfl, rfl⟩
theorem PostS.trans (a : PostS C kp σ H O L ρ1 σ1 H1 O1 L1 []) (b : PostS C kp σ1 H1 O1 L1 ρ2 σ2 H2 O2 L2 Lw) : PostS C kp σ H O L ρ2 σ2 H2 O2 L2 Lw :=
  ⟨b.env, b.nd, by have := a.st; rw [List.append_nil] at this; exact this.trans b.st, fun i h => (b.kp i h).trans (a.kp i h), b.ln.trans a.ln⟩
theorem PostT.toS {qt : Bool} (a : PostT C σ H O L ρ qt ρ1 H1 O1 L1) : PostS C kp σ H O L ρ1 σ H1 O1 L1 [] := ⟨a.env, by rw [List.append_nil]; exact a.nd, by rw [List.append_nil]; exact a.st, fun _ _ => rfl, rfl⟩
theorem PostS.nd1 (a : PostS C kp σ H O L ρ1 σ1 H1 O1 L1 Lw) : L1.Nodup := (List.nodup_append.mp a.nd).1
theorem PostE.toS {qt : Bool} {b : B} {v : V} {Lb : List Addr} (P : PostE C σ H O L ρ qt b ρ1 v H1 O1 L1 Lb) : PostS C kp σ H O L ρ1 σ H1 (Less O1 Lb) L1 [] := by
  have ndd := List.nodup_append.mp P.nd
  exact ⟨P.env.less fun z hz q => ndd.2.2 z hz z q rfl, by rw [List.append_nil]; exact ndd.1, by rw [List.append_nil]; exact P.st.drop, fun _ _ => rfl, rfl⟩
end
def cNext : CS := fun ρ => .ok (.nx, ρ)
def cSeq (c1 c2 : CS) : CS := fun ρ => (c1 ρ).bind fun (f, ρ1) => match f with
  | .nx => c2 ρ1
  | f => .ok (f, ρ1)
def cIfS (ct : CT) (c1 c2 : CS) : CS := fun ρ => (ct ρ).bind fun (k, ρ1) => if k = true then c1 ρ1 else c2 ρ1
def move : B → En → Res (W × En)
  | .bor i [], ρ => match ρ[i]? with
    | some (some w) => .ok (w, ρ.set i none)
    | _ => .err
  | b, ρ => take b ρ
def cRet (c : CE) : CS := fun ρ => (c ρ).bind fun (b, ρ1) => (move b ρ1).bind fun (w, ρ2) => .ok (.ret w, ρ2)
def cDrop (c : CE) : CS := fun ρ => (c ρ).bind fun (_, ρ1) => .ok (.nx, ρ1)
theorem move_rep {C : Cfg} {H : Hp} {σ : Sg} {b : B} {v : V} {w : W} {ρ ρ' : En} {O : AP} {L Lb : List Addr} (h : BR C H O ρ σ b v Lb) (e : EnvR C H O ρ σ L) (nd : (L ++ Lb).Nodup) (c : move b ρ = .ok (w, ρ')) :
    ∃ O' L' Lw, EnvR C H O' ρ' σ L' ∧ RepW C H O' w v Lw ∧ (L' ++ Lw).Nodup ∧ (∀ a, O' a → O a) ∧ (∀ a, a ∈ L' ++ Lw → a ∈ L ++ Lb) ∧ ∀ a, O a → a ∉ L ++ Lb → O' a := by
  have tk : ∀ b, BR C H O ρ σ b v Lb → take b ρ = .ok (w, ρ') → ∃ O' L' Lw, EnvR C H O' ρ' σ L' ∧ RepW C H O' w v Lw ∧ (L' ++ Lw).Nodup ∧ (∀ a, O' a → O a) ∧ (∀ a, a ∈ L' ++ Lw → a ∈ L ++ Lb) ∧ ∀ a, O a → a ∉ L ++ Lb → O' a := fun b h c => take_rep h e nd c
  cases b with
  | tmp w0 => exact tk _ h c
  | bor i p =>
    cases p with
    | cons k p => exact tk _ h c
    | nil =>
      simp only [move] at c
      cases hi : ρ[i]? with
      | none => rw [hi] at c; cases c
      | some x =>
        rw [hi] at c
        cases x with
        | none => cases c
        | some w0 =>
          cases c
          obtain ⟨y, M1, M0, q1, ⟨v0, q2, q3⟩, q4, q5⟩ := e.focus hi
          obtain ⟨eb, v1, h1, h2, _⟩ := h
          subst eb
          rw [q1, q2] at h1; cases h1
          rw [h2 rfl]
          rw [List.append_nil] at nd ⊢
          have ndM : (M1 ++ M0).Nodup := q4.nodup_iff.mp nd
          obtain ⟨L', p1, p2⟩ := q5 H O none (some v0) [] ⟨fun a o e n => ⟨e, n⟩, fun a ha o z => ⟨z, (e.own a (q4.mem_iff.mpr (by simp [ha]))).1⟩⟩ rfl
          rw [q2] at q1
          rw [set_same q1] at p2
          refine ⟨O, L', M1, p2, q3, ?_, fun _ q => q, fun a q => ?_, fun _ q _ => q⟩
          · have pm : (L' ++ M1).Perm (M1 ++ M0) := (List.Perm.append_right M1 p1).trans (by simpa using List.perm_append_comm)
            exact pm.nodup_iff.mpr ndM
          · rcases List.mem_append.mp q with q | q
            · exact q4.mem_iff.mpr (by simpa using Or.inr (p1.mem_iff.mp q))
            · exact q4.mem_iff.mpr (by simp [q])
section
variable {X : Cx} {cl : Nat → Addr} {kp : KP} {st : Stmt} {rest : List Stmt} {c1 c2 : CS} {e : Expr} {ce : CE} {q : Bool} {pos : Pos}
theorem sss_nil : SSs X cl kp [] cNext := by
  refine PSs.imp pss_nil fun Dn σ H h => ?_
  obtain ⟨O, L, ρ, fl, ρ', env, nd, c, q⟩ := h
  cases c
  exact q σ H O L [] (PostS.refl env nd) rfl
theorem sss_cons (h1 : SS X cl kp st c1) (h2 : SSs X cl kp rest c2) : SSs X cl kp (st :: rest) (cSeq c1 c2) := by
  refine PSs.imp (pss_cons h1 h2) fun Dn σ H h => ?_
  obtain ⟨O, L, ρ, fl, ρ', env, nd, c, q⟩ := h
  obtain ⟨⟨f, ρ1⟩, c1', c⟩ := Res.of_bind c
  refine ⟨O, L, ρ, f, ρ1, env, nd, c1', fun σ1 H1 O1 L1 Lw P1 => ?_⟩
  cases f with
  | nx =>
    intro e
    subst e
    exact ⟨O1, L1, ρ1, fl, ρ', P1.env, P1.nd1, c, fun σ2 H2 O2 L2 Lw2 P2 => q σ2 H2 O2 L2 Lw2 (P1.trans P2)⟩
  | ret w => cases c; exact q σ1 H1 O1 L1 Lw P1
  | bk => cases c; exact q σ1 H1 O1 L1 Lw P1
  | ct => cases c; exact q σ1 H1 O1 L1 Lw P1
theorem sss_one (h1 : SS X cl kp st c1) : SSs X cl kp [st] c1 := pss_one h1
theorem ss_if {t : Expr} {ct : CT} {a b : List Stmt} (hc : ST X cl q t ct) (ha : SSs X cl kp a c1) (hb : SSs X cl kp b c2) : SS X cl kp (.If t a b pos) (cIfS ct c1 c2) := by
  refine PS.imp (ps_if hc ha hb) fun Dn σ H h => ?_
  obtain ⟨O, L, ρ, fl, ρ', env, nd, c, q⟩ := h
  obtain ⟨⟨k, ρ1⟩, c1', c⟩ := Res.of_bind c
  refine ⟨O, L, ρ, k, ρ1, env, nd, c1', fun H1 O1 L1 P1 => ?_⟩
  cases k with
  | true => exact ⟨O1, L1, ρ1, fl, ρ', P1.env, P1.nd, c, fun σ2 H2 O2 L2 Lw2 P2 => q σ2 H2 O2 L2 Lw2 (P1.toS.trans P2)⟩
  | false => exact ⟨O1, L1, ρ1, fl, ρ', P1.env, P1.nd, c, fun σ2 H2 O2 L2 Lw2 P2 => q σ2 H2 O2 L2 Lw2 (P1.toS.trans P2)⟩
theorem ss_ret (he : SE X cl q e ce) : SS X cl kp (.Return (some e) pos) (cRet ce) := by
  refine PS.imp (ps_ret he) fun Dn σ H h => ?_
  obtain ⟨O, L, ρ, fl, ρ', env, nd, c, q⟩ := h
  obtain ⟨⟨b, ρ1⟩, c1, c⟩ := Res.of_bind c
  obtain ⟨⟨w, ρ2⟩, c2, c⟩ := Res.of_bind c
  cases c
  refine ⟨O, L, ρ, b, ρ1, env, nd, c1, fun v H1 O1 L1 Lb P => ?_⟩
  obtain ⟨O2, L2, Lw, g1, g2, g3, g4, g5, g6⟩ := move_rep P.br P.env P.nd c2
  exact q σ H1 O2 L2 Lw ⟨g1, g3, P.st.trans (Stp.ofO g4 g5 g6), fun _ _ => rfl, rfl⟩ v g2
theorem ss_expr (he : SE X cl q e ce) (hs : swapsWith e none pos.line X.env = pure false := by rfl) : SS X cl kp (.Expr e pos) (cDrop ce) := by
  refine PS.imp (ps_expr he hs) fun Dn σ H h => ?_
  obtain ⟨O, L, ρ, fl, ρ', env, nd, c, q⟩ := h
  obtain ⟨⟨b, ρ1⟩, c1, c⟩ := Res.of_bind c
  cases c
  exact ⟨O, L, ρ, b, ρ', env, nd, c1, fun v H1 O1 L1 Lb P => q σ H1 _ L1 [] P.toS rfl⟩
end
abbrev CG := W → En → Res En
def gSet (i : Nat) : CG := fun w ρ => (chk (decide (i < ρ.length))).bind fun _ => .ok (ρ.set i (some w))
def tG (C : Cfg) (kp : KP) (g : CG) : TG := fun v σ H Q => ∃ O L Lw ρ w ρ', EnvR C H O ρ σ L ∧ RepW C H O w v Lw ∧ (L ++ Lw).Nodup ∧ g w ρ = .ok ρ' ∧
  ∀ σ' H' O' L', PostS C kp σ H O (L ++ Lw) ρ' σ' H' O' L' [] → Q σ' H'
def SG (X : Cx) (cl : Nat → Addr) (kp : KP) (tg : Expr) (g : CG) : Prop := PG X tg (tG ⟨X.K, cl⟩ kp g)
theorem env_set {C : Cfg} {kp : KP} {σ : Sg} {H : Hp} {O : AP} {L Lw : List Addr} {ρ : En} {i : Nat} {w : W} {v : V} (env : EnvR C H O ρ σ L) (r : RepW C H O w v Lw) (nd : (L ++ Lw).Nodup) (hi : i < ρ.length) (hk : kp i = false) :
    ∃ O' L', PostS C kp σ H O (L ++ Lw) (ρ.set i (some w)) (σ.set i (some v)) H O' L' [] := by
  obtain ⟨y, M1, M0, q1, q2, q4, q5⟩ := env.focus (List.getElem?_eq_getElem hi)
  have pm : (L ++ Lw).Perm (M1 ++ (M0 ++ Lw)) := by rw [← List.append_assoc]; exact q4.append_right Lw
  have ndM : (M1 ++ (M0 ++ Lw)).Nodup := pm.nodup_iff.mp nd
  have ow : ∀ a ∈ L ++ Lw, O a := fun a ha => by
    rcases List.mem_append.mp ha with h | h
    · exact (env.own a h).1
    · exact (RepW.own w v Lw r a h).1
  have dis : ∀ a ∈ M0 ++ Lw, a ∉ M1 := fun a ha z => (List.nodup_append.mp ndM).2.2 a z a ha rfl
  have k0 : KeepL H O H (Less O M1) (M0 ++ Lw) := keep_less dis fun a ha => ow a (pm.mem_iff.mpr (by simp only [List.mem_append] at ha ⊢; exact .inr ha))
  obtain ⟨L', p1, p2⟩ := q5 H (Less O M1) (some w) (some v) Lw (k0.sub fun a ha => by simp [ha]) ⟨v, rfl, RepW.keep w v Lw (k0.sub fun a ha => by simp [ha]) r⟩
  refine ⟨Less O M1, L', p2, ?_, ?_, fun j hj => ?_, List.length_set ..⟩
  · rw [List.append_nil]
    exact (p1.trans List.perm_append_comm).nodup_iff.mpr (List.nodup_append.mp ndM).2.1
  · rw [List.append_nil]
    refine Stp.ofO (fun a q => q.1) (fun a ha => pm.mem_iff.mpr ?_) fun a q n => ⟨q, fun z => n (pm.mem_iff.mpr (by simp [z]))⟩
    have := p1.mem_iff.mp ha
    simp only [List.mem_append] at this ⊢
    rcases this with h | h
    · exact .inr (.inr h)
    · exact .inr (.inl h)
  · have hne : i ≠ j := fun z => by rw [z, hj] at hk; cases hk
    rw [List.getElem?_set_ne hne]
section
variable {X : Cx} {cl : Nat → Addr} {kp : KP} {e : Expr} {ce : CE} {q : Bool} {pos : Pos} {g : CG}
theorem sg_name {i : Nat} {x : Str} (hN : X.N.Nodup) (hi : X.N[i]? = some x) (hx : Loc X.env.scope x) (hk : kp i = false) (hf : X.fn x = true ∨ X.env.scope.names.lookup x = some .local := by first | exact .inl rfl | exact .inr rfl | assumption) : SG X cl kp (.Name x pos) (gSet i) := by
  refine PG.imp (pg_name hN hi hx hf) fun v σ H Q h => ?_
  obtain ⟨O, L, Lw, ρ, w, ρ', env, r, nd, c, q⟩ := h
  obtain ⟨_, c1, c⟩ := Res.of_bind c
  cases c
  obtain ⟨O', L', P⟩ := env_set env r nd (chk_dec c1) hk
  exact q _ H O' L' P
abbrev CGs := List D → En → Res En
def gsNil : CGs := fun ds ρ => (chk ds.isEmpty).bind fun _ => .ok ρ
def gsCons (g : CG) (gs : CGs) : CGs := fun ds ρ => match ds with
  | d :: r => (g (.fz d) ρ).bind fun ρ1 => gs r ρ1
  | [] => .err
def tGs (C : Cfg) (kp : KP) (g : CGs) : TGs := fun vs σ H Q => ∃ O L ρ ds ρ', EnvR C H O ρ σ L ∧ RepDs C H O ds vs ∧ L.Nodup ∧ g ds ρ = .ok ρ' ∧ ∀ σ' H' O' L', PostS C kp σ H O L ρ' σ' H' O' L' [] → Q σ' H'
theorem PGs.imp {X : Cx} {e : List Expr} {t t' : TGs} (h : PGs X e t) (k : ∀ v σ H Q, t' v σ H Q → t v σ H Q) : PGs X e t' := ⟨fun pins s σ H v u Q I r q => h.run pins s σ H v u Q I r (k v σ H Q q)⟩
def SGs (X : Cx) (cl : Nat → Addr) (kp : KP) (tgs : List Expr) (g : CGs) : Prop := PGs X tgs (tGs ⟨X.K, cl⟩ kp g)
theorem sgs_nil : SGs X cl kp [] gsNil := by
  refine PGs.imp pgs_nil fun vs σ H Q h => ?_
  obtain ⟨O, L, ρ, ds, ρ', env, r, nd, c, q⟩ := h
  obtain ⟨_, c1, c⟩ := Res.of_bind c
  cases c
  have hd := chk_ok c1
  cases ds with
  | nil => exact ⟨r, q σ H O L (PostS.refl env nd)⟩
  | cons d r => cases hd
theorem sgs_cons {es : List Expr} {gs : CGs} (h1 : SG X cl kp e g) (h2 : SGs X cl kp es gs) (hs : (assignEach (e :: es) X.env).map (·.2) = assign e X.env :: (assignEach es X.env).map (·.2) := by rfl) : SGs X cl kp (e :: es) (gsCons g gs) := by
  refine PGs.imp (pgs_cons h1 h2 hs) fun vs σ H Q h => ?_
  obtain ⟨O, L, ρ, ds, ρ', env, r, nd, c, q⟩ := h
  cases ds with
  | nil => cases c
  | cons d ds =>
    obtain ⟨x, xs, e1, r1, r2⟩ := r
    obtain ⟨ρ1, c1, c2⟩ := Res.of_bind c
    refine ⟨x, xs, e1, O, L, [], ρ, .fz d, ρ1, env, ⟨rfl, r1⟩, by rw [List.append_nil]; exact nd, c1, fun σ1 H1 O1 L1 P1 => ?_⟩
    have st := P1.st
    rw [List.append_nil, List.append_nil] at st
    have own : ∀ a ∈ L, O a := fun a ha => (env.own a ha).1
    refine ⟨O1, L1, ρ1, ds, ρ', P1.env, RepDs.keep (st.keep own) ds xs r2, P1.nd1, c2, fun σ2 H2 O2 L2 P2 => q σ2 H2 O2 L2 ?_⟩
    have P1' : PostS ⟨X.K, cl⟩ kp σ H O L ρ1 σ1 H1 O1 L1 [] := ⟨P1.env, P1.nd, by rw [List.append_nil]; exact st, P1.kp, P1.ln⟩
    exact P1'.trans P2
def gTupG (gs : CGs) : CG := fun w ρ => match w with
  | .fz (.tup ds) => gs ds ρ
  | _ => .err
theorem gsNil_len : ∀ ds ρ ρ', gsNil ds ρ = .ok ρ' → ds.length = 0 := fun ds ρ ρ' h => by
  obtain ⟨_, c1, _⟩ := Res.of_bind h
  have := chk_ok c1
  cases ds with
  | nil => rfl
  | cons d r => cases this
theorem gsCons_len {n : Nat} {gs : CGs} (h : ∀ ds ρ ρ', gs ds ρ = .ok ρ' → ds.length = n) : ∀ ds ρ ρ', gsCons g gs ds ρ = .ok ρ' → ds.length = n + 1 := fun ds ρ ρ' c => by
  cases ds with
  | nil => cases c
  | cons d r =>
    obtain ⟨ρ1, _, c2⟩ := Res.of_bind c
    rw [List.length_cons, h _ _ _ c2]
def cAsg (g : CG) (c : CE) : CS := fun ρ => (c ρ).bind fun (b, ρ1) => (take b ρ1).bind fun (w, ρ2) => (g w ρ2).bind fun ρ3 => .ok (.nx, ρ3)
theorem asg_core {C : Cfg} {σ : Sg} {H : Hp} {Dn : Ends} (h : tS C kp (cAsg g ce) Dn σ H) : tAsg (tE C q ce) (tG C kp g) Dn σ H := by
  obtain ⟨O, L, ρ, fl, ρ', env, nd, c, q⟩ := h
  obtain ⟨⟨b, ρ1⟩, c1, c⟩ := Res.of_bind c
  obtain ⟨⟨w, ρ2⟩, c2, c⟩ := Res.of_bind c
  obtain ⟨ρ3, c3, c⟩ := Res.of_bind c
  cases c
  refine ⟨O, L, ρ, b, ρ1, env, nd, c1, fun v H1 O1 L1 Lb P => ?_⟩
  obtain ⟨O2, L2, Lw, g1, g2, g3, g4, g5, g6⟩ := take_rep P.br P.env P.nd c2
  refine ⟨O2, L2, Lw, ρ2, w, ρ', g1, g2, g3, c3, fun σ3 H3 O3 L3 P3 => q σ3 H3 O3 L3 [] ⟨P3.env, P3.nd, (P.st.trans (Stp.ofO g4 g5 g6)).trans P3.st, P3.kp, P3.ln⟩ rfl⟩
theorem ss_asg {tg : Expr} (he : SE X cl q e ce) (hg : SG X cl kp tg g) (hs : swapsWithSole [tg] e pos.line X.env = pure false := by rfl) (hw : swappedStores [tg] e X.env = pure none := by rfl)
    (h1 : (assignEach [tg] X.env).map (·.2) = [assign tg X.env] := by rfl) : SS X cl kp (.Assign [tg] e pos) (cAsg g ce) := PS.imp (ps_asg he hg hs hw h1) fun Dn σ H h => asg_core h
end
end Mi
namespace Mi
open PySem PySem.Spec PyProof.Rows L2
def JR (C : Cfg) (H : Hp) (O : AP) (J : It) (ds : List D) : Prop := ∀ (i : Nat) (H1 : Hp) (O1 : AP), Keep H O H1 O1 →
  (∀ d, ds[i]? = some d → J.go i H1 ∧ ∀ x H2, J.yld i H1 x H2 → ∃ O2, Gr H1 O1 H2 O2 [] ∧ RepD C H2 O2 d x) ∧ (ds.length ≤ i → J.stop i H1)
abbrev CI := En → Res (List D × En)
def tI (C : Cfg) (c : CI) : TI := fun σ H R => ∃ O L ρ ds ρ', EnvR C H O ρ σ L ∧ L.Nodup ∧ c ρ = .ok (ds, ρ') ∧
  ∀ J H' O' L', EnvR C H' O' ρ' σ L' → L'.Nodup → Stp H O L H' O' L' → JR C H' O' J ds → R J H'
def SI (X : Cx) (cl : Nat → Addr) (tg iter : Expr) (c : CI) : Prop := PI X tg iter (tI ⟨X.K, cl⟩ c)
theorem Keep.refl (H : Hp) (O : AP) : Keep H O H O := fun a o e n => ⟨e, n⟩
theorem Keep.trans {H H1 H2 : Hp} {O O1 O2 : AP} (a : Keep H O H1 O1) (b : Keep H1 O1 H2 O2) : Keep H O H2 O2 := fun c o e n => b c o (a c o e n).1 (a c o e n).2
def forL (g : CG) (body : CS) : List D → En → Res (Fl × En)
  | [], ρ => .ok (.nx, ρ)
  | d :: ds, ρ => (g (.fz d) ρ).bind fun ρ1 => (body ρ1).bind fun (f, ρ2) => match f with
    | .nx => forL g body ds ρ2
    | .ct => forL g body ds ρ2
    | .bk => .ok (.nx, ρ2)
    | .ret w => .ok (.ret w, ρ2)
def cFor (ci : CI) (g : CG) (body : CS) : CS := fun ρ => (ci ρ).bind fun (ds, ρ1) => forL g body ds ρ1
section
variable {X : Cx} {cl : Nat → Addr} {kp : KP} {tg iter : Expr} {body : List Stmt} {ci : CI} {g : CG} {cb : CS} {pos : Pos}
theorem ss_for (hp : PassesOwn (model X.prog X.w) X.A X.env X.xe) (hc : X.calm = true) (hi : SI X cl tg iter ci) (hg : SG X cl kp tg g) (hb : SSs X cl kp body cb) (hs : ∀ x, foldedSetIterable iter X.env x = pure x := by intro _; rfl) :
    SS X cl kp (.For tg iter body [] pos) (cFor ci g cb) := by
  refine PS.imp (ps_for hp hc hi hg hb hs) fun Dn σ H h => ?_
  obtain ⟨O, L, ρ, fl, ρ', env, nd, c, q⟩ := h
  obtain ⟨⟨ds, ρ1⟩, c1, c⟩ := Res.of_bind c
  refine ⟨O, L, ρ, ds, ρ1, env, nd, c1, fun J H1 O1 L1 env1 nd1 st1 jr => ?_⟩
  refine ⟨fun i m σ2 H2 => m = ds.length - i ∧ i ≤ ds.length ∧ ∃ O2 L2 ρ2, PostS ⟨X.K, cl⟩ kp σ H O L ρ2 σ2 H2 O2 L2 [] ∧ Keep H1 O1 H2 O2 ∧ forL g cb (ds.drop i) ρ2 = .ok (fl, ρ'), ⟨ds.length, by simp, Nat.zero_le _, O1, L1, ρ1, ⟨env1, by rw [List.append_nil]; exact nd1, by rw [List.append_nil]; exact st1, fun _ _ => rfl, rfl⟩, Keep.refl _ _, by simpa using c⟩, ?_⟩
  rintro i m σ2 H2 ⟨rfl, hi, O2, L2, ρ2, P2, k2, c2⟩
  obtain ⟨jgo, jstop⟩ := jr i H2 O2 k2
  by_cases hlt : i < ds.length
  · refine .inr ?_
    have ed : ds.drop i = ds[i] :: ds.drop (i + 1) := List.drop_eq_getElem_cons hlt
    obtain ⟨go, yl⟩ := jgo ds[i] (List.getElem?_eq_getElem hlt)
    rw [ed] at c2
    obtain ⟨ρ3, c3, c2⟩ := Res.of_bind c2
    obtain ⟨⟨f, ρ4⟩, c4, c2⟩ := Res.of_bind c2
    refine ⟨go, fun σ' H' => i + 1 ≤ ds.length ∧ ∃ O' L' ρ'', PostS ⟨X.K, cl⟩ kp σ H O L ρ'' σ' H' O' L' [] ∧ Keep H1 O1 H' O' ∧ forL g cb (ds.drop (i + 1)) ρ'' = .ok (fl, ρ'), fun σ' H' hN => ⟨ds.length - (i + 1), by omega, rfl, hN.1, hN.2⟩, fun x H3 hy => ?_⟩
    obtain ⟨O3, gr, rd⟩ := yl x H3 hy
    have env3 := P2.env.grow gr
    have nd2 := P2.nd1
    have st3 : Stp H2 O2 L2 H3 O3 L2 := by have := gr.stp (L := L2); rw [List.append_nil] at this; exact this
    refine ⟨O3, L2, [], ρ2, .fz ds[i], ρ3, env3, ⟨rfl, rd⟩, by rw [List.append_nil]; exact nd2, c3, fun σ4 H4 O4 L4 P4 => ?_⟩
    have P4' : PostS ⟨X.K, cl⟩ kp σ2 H2 O2 L2 ρ3 σ4 H4 O4 L4 [] := ⟨P4.env, P4.nd, by
      have s4 := P4.st
      rw [List.append_nil, List.append_nil] at s4
      rw [List.append_nil]
      exact st3.trans s4, P4.kp, P4.ln⟩
    have P5 := P2.trans P4'
    refine ⟨O4, L4, ρ3, f, ρ4, P4.env, P4.nd1, c4, fun σ5 H5 O5 L5 Lw P6 => ?_⟩
    have P7 := P5.trans P6
    have own2 : ∀ a ∈ L2, O2 a := fun a ha => (P2.env.own a ha).1
    have own4 : ∀ a ∈ L4, O4 a := fun a ha => (P4.env.own a ha).1
    have k5 : Keep H1 O1 H5 O5 := by
      have s4 := P4'.st
      rw [List.append_nil] at s4
      exact k2.trans ((s4.keep own2).trans (P6.st.keep own4))
    cases f with
    | nx => intro e; subst e; exact ⟨hlt, O5, L5, ρ4, P7, k5, c2⟩
    | ct => intro e; subst e; exact ⟨hlt, O5, L5, ρ4, P7, k5, c2⟩
    | bk => intro e; subst e; cases c2; exact q σ5 H5 O5 L5 [] P7 rfl
    | ret w => cases c2; exact q σ5 H5 O5 L5 Lw P7
  · refine .inl ⟨jstop (by omega), ?_⟩
    rw [List.drop_eq_nil_of_le (by omega)] at c2
    cases c2
    exact q σ2 H2 O2 L2 [] P2 rfl
end
section
variable {X : Cx} {cl : Nat → Addr} {kp : KP} {t : Expr} {body : List Stmt} {ct : CT} {cb : CS} {pos : Pos} {qt : Bool} {n : Nat}
end
def wipeE (ρ : En) : List Nat → En
  | [] => ρ
  | v :: vs => (wipeE ρ vs).set v none
def restE (ρ : En) : List Nat → En → En
  | [], ρ' => ρ'
  | v :: vs, ρ' => restE ρ vs (ρ'.set v ((wipeE ρ vs)[v]?.join))
theorem wipeE_length (ρ : En) : ∀ vs : List Nat, (wipeE ρ vs).length = ρ.length
  | [] => rfl
  | v :: vs => by unfold wipeE; rw [List.length_set, wipeE_length ρ vs]
theorem wipeE_none (ρ : En) : ∀ {vs : List Nat} {v : Nat}, v ∈ vs → v < ρ.length → (wipeE ρ vs)[v]? = some none
  | [], v, h, _ => by simp at h
  | u :: vs, v, h, hl => by
    unfold wipeE
    by_cases e : u = v
    · subst e
      rw [List.getElem?_set_self (by rw [wipeE_length]; exact hl)]
    · rw [List.getElem?_set_ne e]
      rcases List.mem_cons.mp h with z | z
      · exact absurd z.symm e
      · exact wipeE_none ρ z hl
theorem EnvR.split {C : Cfg} {H : Hp} {O : AP} {ρ : En} {σ : Sg} {L : List Addr} (env : EnvR C H O ρ σ L) : ∀ {vs : List Nat}, (∀ v ∈ vs, v < ρ.length) →
    ∃ Lo Li, L.Perm (Lo ++ Li) ∧ EnvR C H O (wipeE ρ vs) (wipe σ vs) Li ∧
      ∀ H' O' ρ'' Li', KeepL H O H' O' Lo → EnvR C H' O' ρ'' (wipe σ vs) Li' → (∀ v ∈ vs, ρ''[v]? = some none) → ∃ L'', L''.Perm (Lo ++ Li') ∧ EnvR C H' O' (restE ρ vs ρ'') σ L''
  | [], _ => ⟨[], L, .refl _, env, fun H' O' ρ'' Li' _ e _ => ⟨Li', .refl _, e⟩⟩
  | v :: vs, hv => by
    obtain ⟨Lo, Li, p, e1, rest⟩ := env.split (vs := vs) fun u hu => hv u (by simp [hu])
    have hl : v < (wipeE ρ vs).length := by rw [wipeE_length]; exact hv v (by simp)
    obtain ⟨y, M1, M0, q1, q2, q4, q5⟩ := e1.focus (List.getElem?_eq_getElem hl)
    obtain ⟨L', p1, p2⟩ := q5 H O none none [] ⟨Keep.refl _ _, fun a ha o z => ⟨z, (e1.own a (q4.mem_iff.mpr (by simp [ha]))).1⟩⟩ rfl
    have pL : L'.Perm M0 := p1
    refine ⟨Lo ++ M1, L', ?_, p2, fun H' O' ρ'' Li' k e hn => ?_⟩
    · rw [List.append_assoc]
      exact p.trans (List.Perm.append_left Lo (q4.trans (List.Perm.append_left M1 pL.symm)))
    · have hy : (wipe σ vs)[v]? = some y := q1
      obtain ⟨y2, N1, N0, g1, g2, g4, g5⟩ := e.focus (hn v (by simp))
      have gN : N1 = [] := g2
      subst gN
      obtain ⟨L2, p3, p4⟩ := g5 H' O' (some (wipeE ρ vs)[v]).join y M1 ⟨Keep.refl _ _, fun a ha o z => ⟨z, (e.own a (g4.mem_iff.mpr (by simp [ha]))).1⟩⟩ (by
        have : SlotR C H' O' (wipeE ρ vs)[v] y M1 := q2.keep (k.sub fun a ha => by simp [ha])
        exact this)
      have es : ((wipe σ vs).set v none).set v y = wipe σ vs := by rw [List.set_set]; exact set_same hy
      have p4' : EnvR C H' O' (ρ''.set v ((wipeE ρ vs)[v]?.join)) (wipe σ vs) L2 := by
        rw [List.getElem?_eq_getElem hl]
        have z : EnvR C H' O' (ρ''.set v (some (wipeE ρ vs)[v]).join) (((wipe σ vs).set v none).set v y) L2 := p4
        rw [es] at z
        exact z
      have hlen : ρ''.length = (wipe σ vs).length := by
        have := e.length
        rw [← this]; show (((wipe σ vs).set v none)).length = _; rw [List.length_set]
      obtain ⟨L3, p5, p6⟩ := rest H' O' _ L2 (k.sub fun a ha => by simp [ha]) p4' fun u hu => by
        by_cases e : v = u
        · subst e
          have hj : ((wipeE ρ vs)[v]?).join = none := by rw [wipeE_none ρ hu (hv v (by simp))]; rfl
          rw [hj, List.getElem?_set_self (by
            obtain ⟨hh, _⟩ := List.getElem?_eq_some_iff.mp (hn v (by simp))
            exact hh)]
        · rw [List.getElem?_set_ne e]
          exact hn u (by simp [hu])
      refine ⟨L3, ?_, p6⟩
      have pp : L2.Perm (M1 ++ Li') := p3.trans (List.Perm.append_left M1 (by simpa using g4.symm))
      rw [List.append_assoc]
      exact p5.trans (List.Perm.append_left Lo pp)
theorem wipe_ext {σ σ' : Sg} : ∀ {vs : List Nat}, σ'.length = σ.length → (∀ i, i ∉ vs → σ'[i]? = σ[i]?) → wipe σ' vs = wipe σ vs := by
  intro vs hl h
  apply List.ext_getElem?
  intro i
  by_cases hi : i ∈ vs
  · have key : ∀ (σ : Sg) (vs : List Nat), i ∈ vs → i < σ.length → (wipe σ vs)[i]? = some none := by
      intro σ vs
      induction vs with
      | nil => intro h _; simp at h
      | cons v vs ih =>
        intro h hl
        unfold wipe
        by_cases e : v = i
        · subst e; rw [List.getElem?_set_self (by rw [wipe_length]; exact hl)]
        · rw [List.getElem?_set_ne e]
          rcases List.mem_cons.mp h with z | z
          · exact absurd z.symm e
          · exact ih z hl
    by_cases hb : i < σ.length
    · rw [key σ vs hi hb, key σ' vs hi (by omega)]
    · rw [List.getElem?_eq_none (by rw [wipe_length]; omega), List.getElem?_eq_none (by rw [wipe_length]; omega)]
  · rw [wipe_out hi, wipe_out hi, h i hi]
theorem wipe_wipe {σ : Sg} {vs : List Nat} : wipe (wipe σ vs) vs = wipe σ vs := wipe_ext (wipe_length σ vs) fun i hi => wipe_out hi
end Mi
namespace Mi
open PySem PySem.Spec PyProof.Rows L2
def lcL (vs : List Nat) (g : CG) (ct : CT) (ce : CE) : List D → En → Res (List W × En)
  | [], ρ => .ok ([], ρ)
  | d :: ds, ρ => (g (.fz d) ρ).bind fun ρa => (ct ρa).bind fun (k, ρb) => if k = true then (ce ρb).bind fun (b, ρc) => (take b ρc).bind fun (w, ρd) => (lcL vs g ct ce ds (wipeE ρd vs)).bind fun (ws, ρ') => .ok (w :: ws, ρ')
    else lcL vs g ct ce ds (wipeE ρb vs)
def cLc (vs : List Nat) (ci : CI) (g : CG) (ct : CT) (ce : CE) : CE := fun ρ => (ci ρ).bind fun (ds, ρ1) => (chk (vs.all fun v => decide (v < ρ1.length))).bind fun _ => (chk (decide (ds.length ≤ 16777216))).bind fun _ =>
  (lcL vs g ct ce ds (wipeE ρ1 vs)).bind fun (ws, ρ2) => .ok (.tmp (.lst ws), restE ρ1 vs ρ2)
def kpOf (vs : List Nat) : KP := fun i => !vs.contains i
theorem kpOf_out {vs : List Nat} {i : Nat} (h : i ∉ vs) : kpOf vs i = true := by unfold kpOf; simp [h]
section
variable {C : Cfg} {σ : Sg} {H H' : Hp} {O : AP} {L T : List Addr}
theorem keep_mut {a : Addr} {o : HO} (h : O a) (d : a ∉ T) (own : ∀ b ∈ T, O b) : KeepL H O (upd H a o) O T :=
  ⟨fun b u e n => ⟨(upd_ne (show b ≠ a from fun z => n (by rw [z]; exact h))).trans e, n⟩, fun b hb u e => ⟨(upd_ne (show b ≠ a from fun z => d (by rw [← z]; exact hb))).trans e, own b hb⟩⟩
theorem Stp.mut {a : Addr} {o u : HO} (ha : a ∈ L) (hu : H a = some u) : Stp H O L (upd H a o) O L :=
  ⟨fun b u e n => (upd_ne (show b ≠ a from fun z => n (by rw [z]; exact ha))).trans e, fun b q => .inl q, fun b u _ q _ => q, fun b q => .inl q, fun b u e => by
    by_cases z : b = a
    · exact ⟨o, by rw [z]; exact upd_same⟩
    · exact ⟨u, by rw [upd_ne z]; exact e⟩⟩
end
def SSTs (X : Cx) (cl : Nat → Addr) (qt : Bool) (ifs : List Expr) (c : CT) : Prop := PTs X ifs (tT ⟨X.K, cl⟩ qt c)
theorem PTs.imp {X : Cx} {e : List Expr} {t t' : TT} (h : PTs X e t) (k : ∀ σ H Q, t' σ H Q → t σ H Q) : PTs X e t' := ⟨fun pins s σ H Q I q => h.run pins s σ H Q I (k σ H Q q)⟩
def cYes : CT := fun ρ => .ok (true, ρ)
section
variable {X : Cx} {cl : Nat → Addr} {elt tg iter : Expr} {ifs : List Expr} {scope : Scope} {own : List (Str × Nat)} {pos : Pos} {ci : CI} {g : CG} {ct : CT} {ce : CE} {qt qe : Bool}
theorem sts_nil : SSTs X cl true [] cYes := by
  refine PTs.imp pts_nil fun σ H Q h => ?_
  obtain ⟨O, L, ρ, k, ρ', env, nd, c, q⟩ := h
  cases c
  exact q H O L ⟨env, nd, Stp.refl _ _ _, fun _ => ⟨rfl, fun _ _ e => e⟩⟩
theorem lc_mir {vs : List Nat} {C : Cfg} {σ : Sg} {H : Hp} {Q : VK} (h : tE C false (cLc vs ci g ct ce) σ H Q) : tLc (tI C ci) (tG C (kpOf vs) g) (tT C qt ct) (tE C qe ce) vs σ H Q := by
  obtain ⟨O, L, ρ, b0, ρ', env, nd, c, q⟩ := h
  obtain ⟨⟨ds, ρ1⟩, c1, c⟩ := Res.of_bind c
  obtain ⟨_, cv, c⟩ := Res.of_bind c
  obtain ⟨_, cz, c⟩ := Res.of_bind c
  obtain ⟨⟨ws, ρ2⟩, c2, c⟩ := Res.of_bind c
  cases c
  have hz : ds.length ≤ 16777216 := chk_dec cz
  refine ⟨O, L, ρ, ds, ρ1, env, nd, c1, fun J H1 O1 L1 env1 nd1 st1 jr Dd hD => ?_⟩
  have hv : ∀ v ∈ vs, v < ρ1.length := fun v hv => by
    have := List.all_eq_true.mp (chk_ok cv) v hv
    exact of_decide_eq_true this
  obtain ⟨Lo, Li, pm, envI, rest⟩ := env1.split hv
  have own1 : ∀ a ∈ L1, O1 a := fun a ha => (env1.own a ha).1
  have ndS : (Lo ++ Li).Nodup := pm.nodup_iff.mp nd1
  have ownI : ∀ a ∈ Li, O1 a := fun a ha => own1 a (pm.mem_iff.mpr (by simp [ha]))
  have ownO : ∀ a ∈ Lo, O1 a := fun a ha => own1 a (pm.mem_iff.mpr (by simp [ha]))
  have disO : ∀ a ∈ Lo, a ∉ Li := fun a ha z => (List.nodup_append.mp ndS).2.2 a ha a z rfl
  refine ⟨fun i m H2 => m = ds.length - i ∧ i ≤ ds.length ∧ ∃ O2 L2 ρi wsd wsr La, EnvR C H2 O2 ρi (wipe σ vs) L2 ∧ RepW C H2 O2 (.lst wsd) (.ref Dd) La ∧ (L2 ++ La).Nodup ∧ Stp H1 O1 Li H2 O2 (L2 ++ La) ∧ (∀ v ∈ vs, ρi[v]? = some none) ∧ wsd.length ≤ i ∧
      lcL vs g ct ce (ds.drop i) ρi = .ok (wsr, ρ2) ∧ ws = wsd ++ wsr, ⟨ds.length, by simp, Nat.zero_le _, fun a => O1 a ∨ a = Dd, Li, wipeE ρ1 vs, [], ws, [Dd], ?_, ?_, ?_, ?_, ?_, ?_, ?_, rfl⟩, ?_⟩
  · exact envI.grow (Gr.newO hD)
  · exact ⟨Dd, [], [], rfl, upd_same, .inr rfl, rfl, rfl, rfl⟩
  · refine List.nodup_append.mpr ⟨(List.nodup_append.mp ndS).2.1, by simp, fun a ha b hb e => ?_⟩
    have e2 : b = Dd := by simpa using hb
    subst e; subst e2
    obtain ⟨_, xs, z⟩ := envI.own a ha
    rw [hD] at z; cases z
  · exact (Gr.newO hD).stp
  · exact fun v hv' => wipeE_none ρ1 hv' (hv v hv')
  · exact Nat.zero_le _
  · simpa using c2
  · rintro i m H2 ⟨rfl, hi, O2, L2, ρi, wsd, wsr, La, e2, ra, nd2, st2, hn, hwl, c3, ew⟩
    obtain ⟨jgo, jstop⟩ := jr i H2 O2 (st2.keep ownI)
    have ndd := List.nodup_append.mp nd2
    by_cases hlt : i < ds.length
    · refine .inr ?_
      have ed : ds.drop i = ds[i] :: ds.drop (i + 1) := List.drop_eq_getElem_cons hlt
      obtain ⟨go, yl⟩ := jgo ds[i] (List.getElem?_eq_getElem hlt)
      rw [ed] at c3
      obtain ⟨ρa, c4, c3⟩ := Res.of_bind c3
      obtain ⟨⟨k, ρb⟩, c5, c3⟩ := Res.of_bind c3
      refine ⟨go, fun H' => i + 1 ≤ ds.length ∧ ∃ O2 L2 ρi wsd wsr La, EnvR C H' O2 ρi (wipe σ vs) L2 ∧ RepW C H' O2 (.lst wsd) (.ref Dd) La ∧ (L2 ++ La).Nodup ∧ Stp H1 O1 Li H' O2 (L2 ++ La) ∧ (∀ v ∈ vs, ρi[v]? = some none) ∧ wsd.length ≤ i + 1 ∧
          lcL vs g ct ce (ds.drop (i + 1)) ρi = .ok (wsr, ρ2) ∧ ws = wsd ++ wsr, fun H' hN => ⟨ds.length - (i + 1), by omega, rfl, hN.1, hN.2⟩, fun x H3 hy => ?_⟩
      obtain ⟨O3, gr, rd⟩ := yl x H3 hy
      have env3 := e2.grow gr
      have owA : ∀ a ∈ La, O2 a ∧ ∃ xs, H2 a = some (.lst xs) := RepW.own _ _ _ ra
      have ra3 := RepW.keep _ _ _ (gr.keepL fun a ha => (owA a ha).1) ra
      have st3 : Stp H2 O2 L2 H3 O3 L2 := by have := gr.stp (L := L2); rw [List.append_nil] at this; exact this
      have dA : ∀ a ∈ La, a ∉ L2 := fun a ha z => ndd.2.2 a z a ha rfl
      refine ⟨O3, L2, [], ρi, .fz ds[i], ρa, env3, ⟨rfl, rd⟩, by rw [List.append_nil]; exact ndd.1, c4, fun σ4 H4 O4 L4 P4 => ?_⟩
      have s4 := P4.st
      rw [List.append_nil, List.append_nil] at s4
      have hw4 : wipe σ4 vs = wipe σ vs := by
        rw [← wipe_wipe (σ := σ) (vs := vs)]
        exact wipe_ext P4.ln fun j hj => P4.kp j (kpOf_out hj)
      refine ⟨hw4, O4, L4, ρa, k, ρb, P4.env, P4.nd1, c5, fun H5 O5 L5 P5 => ?_⟩
      -- from the turn's start to behind the tests
      have s25 : Stp H2 O2 L2 H5 O5 L5 := (st3.trans s4).trans P5.st
      have own2 : ∀ a ∈ L2, O2 a := fun a ha => (e2.own a ha).1
      have lens : ∀ {ρx : En} {Hx : Hp} {Ox : AP} {Lx : List Addr}, EnvR C Hx Ox ρx σ4 Lx → ∀ v ∈ vs, v < ρx.length := fun {ρx Hx Ox Lx} ex v hv' => by
        have h1 := ex.length
        have h2 := P4.ln
        have h3 := wipe_length σ vs
        have h4 := env1.length
        have := hv v hv'
        omega
      cases k with
      | true =>
        refine iteT ?_
        obtain ⟨⟨b, ρc⟩, c6, c3⟩ := Res.of_bind c3
        obtain ⟨⟨w, ρd⟩, c7, c3⟩ := Res.of_bind c3
        obtain ⟨⟨ws', ρe⟩, c8, c3⟩ := Res.of_bind c3
        cases c3
        refine ⟨O5, L5, ρb, b, ρc, P5.env, P5.nd, c6, fun y H6 O6 L6 Lb P6 => ?_⟩
        obtain ⟨O7, L7, Lw, g1, g2, g3, g4, g5, g6⟩ := take_rep P6.br P6.env P6.nd c7
        have s67 : Stp H6 O6 (L6 ++ Lb) H6 O7 (L7 ++ Lw) := Stp.ofO g4 g5 g6
        have s27 : Stp H2 O2 L2 H6 O7 (L7 ++ Lw) := (s25.trans P6.st).trans s67
        have ra7 : RepW C H6 O7 (.lst wsd) (.ref Dd) La := RepW.keep _ _ _ (s27.keepL own2 (fun a ha => (owA a ha).1) dA) ra
        have nd7 : (L7 ++ Lw ++ La).Nodup := nodup_frame s27 g3 ndd.2.1 (fun a ha => let ⟨_, xs, e⟩ := owA a ha; ⟨_, e⟩) dA
        obtain ⟨a0, acc, Lacc, ea, h1, h2, h3, racc⟩ := ra7
        cases ea
        subst h3
        have hlen : acc.length = wsd.length := racc.length
        refine ⟨acc, h1, by rw [hlen, sizeLine_eq]; omega, hlt, O7, ?_⟩
        -- the list grows
        have ow7 : ∀ a ∈ L7, O7 a := fun a ha => (g1.own a ha).1
        have owW : ∀ a ∈ Lw, O7 a := fun a ha => (RepW.own w y Lw g2 a ha).1
        have owC : ∀ a ∈ Lacc, O7 a := fun a ha => (RepWs.own wsd acc Lacc racc a ha).1
        have nn := List.nodup_append.mp nd7
        have dD : Dd ∉ L7 ++ Lw := fun z => nn.2.2 Dd z Dd (by simp) rfl
        have dC : Dd ∉ Lacc := (List.nodup_cons.mp nn.2.1).1
        have env8 : EnvR C (upd H6 Dd (.lst (acc ++ [y]))) O7 ρd σ4 L7 := EnvR.keep (keep_mut h2 (fun z => dD (by simp [z])) ow7) g1
        have rw8 : RepW C (upd H6 Dd (.lst (acc ++ [y]))) O7 w y Lw := RepW.keep _ _ _ (keep_mut h2 (fun z => dD (by simp [z])) owW) g2
        have rc8 : RepWs C (upd H6 Dd (.lst (acc ++ [y]))) O7 wsd acc Lacc := RepWs.keep _ _ _ (keep_mut h2 dC owC) racc
        obtain ⟨Lo8, Li8, pm8, envW, _⟩ := env8.split (vs := vs) (lens env8)
        rw [hw4] at envW
        refine ⟨Li8, wipeE ρd vs, wsd ++ [w], ws', Dd :: (Lacc ++ Lw), envW, ⟨Dd, acc ++ [y], Lacc ++ Lw, rfl, upd_same, h2, rfl, RepWs.append rc8 (RepWs.one rw8)⟩, ?_, ?_, fun v hv' => wipeE_none ρd hv' (lens env8 v hv'), by rw [List.length_append]; simp; omega, c8, by rw [ew]; simp⟩
        · have p1 : (L7 ++ (Dd :: (Lacc ++ Lw))).Nodup := by
            have pp : (L7 ++ Lw ++ Dd :: Lacc).Perm (L7 ++ (Dd :: (Lacc ++ Lw))) := by
              rw [List.append_assoc]
              refine List.Perm.append_left L7 ?_
              exact List.perm_append_comm.trans (by simp)
            exact pp.nodup_iff.mp nd7
          have sub : ∀ a ∈ Li8, a ∈ L7 := fun a ha => pm8.mem_iff.mpr (by simp [ha])
          have ndL : Li8.Nodup := (List.nodup_append.mp (pm8.nodup_iff.mp (List.nodup_append.mp p1).1)).2.1
          exact List.nodup_append.mpr ⟨ndL, (List.nodup_append.mp p1).2.1, fun a ha b hb => (List.nodup_append.mp p1).2.2 a (sub a ha) b hb⟩
        · have sm : Stp H6 O7 (L7 ++ Lw ++ (Dd :: Lacc)) (upd H6 Dd (.lst (acc ++ [y]))) O7 (L7 ++ Lw ++ (Dd :: Lacc)) := Stp.mut (by simp) h1
          refine ((st2.trans (s27.frame (Dd :: Lacc))).trans sm).perm fun a ha => ?_
          simp only [List.mem_append, List.mem_cons] at ha ⊢
          rcases ha with ha | ha | ha | ha
          · exact .inl (.inl (pm8.mem_iff.mpr (by simp [ha])))
          · exact .inr (.inl ha)
          · exact .inr (.inr ha)
          · exact .inl (.inr ha)
      | false =>
        refine iteF ?_
        have ra5 : RepW C H5 O5 (.lst wsd) (.ref Dd) La := RepW.keep _ _ _ (s25.keepL own2 (fun a ha => (owA a ha).1) dA) ra
        have nd5 : (L5 ++ La).Nodup := nodup_frame s25 P5.nd ndd.2.1 (fun a ha => let ⟨_, xs, e⟩ := owA a ha; ⟨_, e⟩) dA
        obtain ⟨Lo8, Li8, pm8, envW, _⟩ := P5.env.split (vs := vs) (lens P5.env)
        rw [hw4] at envW
        have sub : ∀ a ∈ Li8, a ∈ L5 := fun a ha => pm8.mem_iff.mpr (by simp [ha])
        refine ⟨hlt, O5, Li8, wipeE ρb vs, wsd, wsr, La, envW, ra5, ?_, ?_, fun v hv' => wipeE_none ρb hv' (lens P5.env v hv'), by omega, c3, ew⟩
        · have ndL : Li8.Nodup := (List.nodup_append.mp (pm8.nodup_iff.mp P5.nd)).2.1
          exact List.nodup_append.mpr ⟨ndL, ndd.2.1, fun a ha b hb => (List.nodup_append.mp nd5).2.2 a (sub a ha) b hb⟩
        · refine (st2.trans (s25.frame La)).perm fun a ha => ?_
          simp only [List.mem_append] at ha ⊢
          rcases ha with ha | ha
          · exact .inl (sub a ha)
          · exact .inr ha
    · refine .inl ⟨jstop (by omega), ?_⟩
      rw [List.drop_eq_nil_of_le (by omega)] at c3
      cases c3
      rw [List.append_nil] at ew
      subst ew
      obtain ⟨L3, p3, env3⟩ := rest H2 O2 ρ2 L2 (st2.keepL ownI ownO disO) e2 hn
      have nd4 : (L2 ++ La ++ Lo).Nodup := nodup_frame st2 nd2 (List.nodup_append.mp ndS).1 (fun a ha => let ⟨_, xs, e⟩ := env1.own a (pm.mem_iff.mpr (by simp [ha])); ⟨_, e⟩) disO
      have pp : (L2 ++ La ++ Lo).Perm (L3 ++ La) := by
        refine List.perm_append_comm.trans ?_
        rw [← List.append_assoc]
        exact List.Perm.append_right La p3.symm
      refine q (.ref Dd) H2 O2 L3 La ⟨env3, ra, pp.nodup_iff.mp nd4, ?_, fun z => by cases z⟩
      have sL : Stp H1 O1 L1 H2 O2 (L3 ++ La) := by
        have s1 : Stp H1 O1 (Li ++ Lo) H2 O2 (L2 ++ La ++ Lo) := st2.frame Lo
        refine ⟨fun a o e n => s1.fr a o e fun z => n (pm.mem_iff.mpr (by simp only [List.mem_append] at z ⊢; exact z.symm)), s1.nw, fun a o e qq n => s1.ol a o e qq fun z => n (pm.mem_iff.mpr (by simp only [List.mem_append] at z ⊢; exact z.symm)), fun a ha => ?_, s1.dm⟩
        rcases s1.ll a (pp.mem_iff.mpr ha) with z | z
        · exact .inl (pm.mem_iff.mpr (by simp only [List.mem_append] at z ⊢; exact z.symm))
        · exact .inr z
      exact st1.trans sL
theorem se_lc (hc : X.calm = true) (hN : X.N.Nodup) (hi : SI X cl tg iter ci) (ok : BlkOk X.N X.env.scope scope own)
    (hg : ∀ (s : Shared) (H : Hp) (A : Addr) (l : List (Str × Addr)) (fp : List Addr), SG (X.blk s H scope (compEnvC scope l A X.env) fp) cl (kpOf (own.map (·.2))) tg g)
    (ht : ∀ (s : Shared) (H : Hp) (A : Addr) (l : List (Str × Addr)) (fp : List Addr), SSTs (X.blk s H scope (compEnvC scope l A X.env) fp) cl qt ifs ct)
    (he : ∀ (s : Shared) (H : Hp) (A : Addr) (l : List (Str × Addr)) (fp : List Addr), SE (X.blk s H scope (compEnvC scope l A X.env) fp) cl qe elt ce) (hs : ∀ x, foldedSetIterable iter X.env x = pure x := by intro _; rfl) :
    SE X cl false (.ListComp elt [⟨tg, iter, ifs, 0⟩] scope pos) (cLc (own.map (·.2)) ci g ct ce) :=
  PE.imp (pe_lc (g := tG ⟨X.K, cl⟩ (kpOf (own.map (fun x : Str × Nat => x.2))) g) (tt := tT ⟨X.K, cl⟩ qt ct) (te := tE ⟨X.K, cl⟩ qe ce) hc hN hi ok hg ht he hs) fun σ H Q h => lc_mir h
end
end Mi
namespace Mi
open PySem PySem.Spec PyProof.Rows L2
abbrev Fn := List W → Res (W × List W)
def spM (C : Cfg) (F : Fn) : Sp := fun vs H Q _ => ∃ O L ws r back, RepWs C H O ws vs L ∧ L.Nodup ∧ F ws = .ok (r, back) ∧
  ∀ v H' O' L' Lr, RepW C H' O' r v Lr → RepWs C H' O' back vs L' → (L' ++ Lr).Nodup → Stp H O L H' O' (L' ++ Lr) → Q v H'
def retOf : Fl → Res W
  | .nx => .ok (.fz .non)
  | .ret w => .ok w
  | _ => .err
def backs (io : KP) : Nat → List W → En → Res (List W)
  | _, [], _ => .ok []
  | _, _ :: _, [] => .err
  | j, w :: ws, x :: ρ => (if io j = true then Res.of x else match w with
    | .fz d => .ok (.fz d)
    | .lst _ => .err).bind fun w' => (backs io (j + 1) ws ρ).bind fun r => .ok (w' :: r)
def runDef (np ns : Nat) (io : KP) (body : CS) : Fn := fun ws => (chk (ws.length == np)).bind fun _ => (body (ws.map some ++ List.replicate (ns - np) none)).bind fun (f, ρ') => (retOf f).bind fun r => (backs io 0 ws ρ').bind fun bk => .ok (r, bk)
theorem EnvR.start {C : Cfg} {H : Hp} {O : AP} (n : Nat) : ∀ {ws : List W} {vs : List V} {L : List Addr}, RepWs C H O ws vs L → EnvR C H O (ws.map some ++ List.replicate n none) (vs.map some ++ List.replicate n none) L
  | [], vs, L, h => by rw [h.1, h.2]; simpa using EnvR.nones n (List.replicate n none) (by simp)
  | w :: ws, vs, L, h => by
    obtain ⟨x, r, L1, L2, e, e2, h1, h2⟩ := h
    subst e; subst e2
    exact ⟨some x, r.map some ++ List.replicate n none, L1, L2, rfl, rfl, ⟨x, rfl, h1⟩, EnvR.start n h2⟩
theorem backs_rep {C : Cfg} {H H' : Hp} {O O' : AP} {io : KP} (k : Keep H O H' O') : ∀ {j : Nat} {ws : List W} {vs : List V} {ρ : En} {σ : Sg} {L0 L : List Addr} {bk : List W}, RepWs C H O ws vs L0 → EnvR C H' O' ρ σ L → (∀ i, io (j + i) = true → σ[i]? = (vs.map some)[i]? ∨ vs.length ≤ i) → backs io j ws ρ = .ok bk →
    ∃ L', RepWs C H' O' bk vs L' ∧ L'.Sublist L
  | j, [], vs, ρ, σ, L0, L, bk, r, e, hk, c => by cases c; rw [r.1]; exact ⟨[], ⟨rfl, rfl⟩, List.nil_sublist _⟩
  | j, w :: ws, vs, [], σ, L0, L, bk, r, e, hk, c => by cases c
  | j, w :: ws, vs, x :: ρ, σ, L0, L, bk, r, e, hk, c => by
    obtain ⟨v, vr, M1, M2, e1, e2, r1, r2⟩ := r
    obtain ⟨y, σr, N1, N2, e3, e4, s1, s2⟩ := e
    subst e1; subst e3; subst e4
    obtain ⟨w', c1, c⟩ := Res.of_bind c
    obtain ⟨bk', c2, c⟩ := Res.of_bind c
    cases c
    obtain ⟨L', g1, g2⟩ := backs_rep k (j := j + 1) r2 s2 (fun i hi => by
      have := hk (i + 1) (by rw [← hi]; congr 1; omega)
      simpa using this) c2
    by_cases hj : io j = true
    · rw [if_pos hj] at c1
      have ex := Res.of_ok c1
      subst ex
      obtain ⟨v', ey, rv⟩ := s1
      subst ey
      have hv : v' = v := by
        have := hk 0 (by simpa using hj)
        rcases this with z | z
        · simpa using z
        · simp at z
      subst hv
      exact ⟨N1 ++ L', ⟨v', vr, N1, L', rfl, rfl, rv, g1⟩, g2.append_left N1⟩
    · rw [if_neg hj] at c1
      cases w with
      | fz d =>
        cases c1
        exact ⟨L', ⟨v, vr, [], L', rfl, rfl, ⟨rfl, RepD.keep k d v r1.2⟩, g1⟩, (List.nil_append L') ▸ (g2.trans (List.sublist_append_right N1 N2))⟩
      | lst _ => cases c1
theorem def_core {C : Cfg} {N : List Str} {np : Nat} {io : KP} {body : CS} {vs : List V} {H : Hp} {Q : VK} {E : XK} (hio : ∀ i, np ≤ i → io i = false) (hsp : spM C (runDef np N.length io body) vs H Q E) :
    tS C io body { nx := fun _ H' => Q .non H', rt := Q } (L2.start N vs) H := by
  obtain ⟨O, L, ws, r, back, rs, nd, c, q⟩ := hsp
  obtain ⟨_, c1, c⟩ := Res.of_bind c
  obtain ⟨⟨f, ρ'⟩, c2, c⟩ := Res.of_bind c
  obtain ⟨r', c3, c⟩ := Res.of_bind c
  obtain ⟨bk, c4, c⟩ := Res.of_bind c
  cases c
  have hl : ws.length = np := by simpa using chk_ok c1
  have hlv := rs.length
  have env : EnvR C H O (ws.map some ++ List.replicate (N.length - np) none) (L2.start N vs) L := by
    unfold L2.start
    rw [hlv, hl]
    exact EnvR.start _ rs
  refine ⟨O, L, _, f, ρ', env, nd, c2, fun σ' H' O' L' Lw P => ?_⟩
  have own : ∀ a ∈ L, O a := fun a ha => (env.own a ha).1
  obtain ⟨Lb, rb, sb⟩ := backs_rep (io := io) (P.st.keep own) (j := 0) rs P.env (fun i hi => by
    rw [Nat.zero_add] at hi
    have hin : i < np := by
      rcases Nat.lt_or_ge i np with z | z
      · exact z
      · rw [hio i z] at hi; cases hi
    refine .inl ?_
    rw [P.kp i hi]
    unfold L2.start
    rw [List.getElem?_append_left (by rw [List.length_map]; omega)]) c4
  have fin : ∀ v, RepW C H' O' r v Lw → Q v H' := fun v rv => q v H' O' Lb Lw rv rb ((sb.append_right Lw).nodup P.nd) (P.st.perm fun a ha => by
    rcases List.mem_append.mp ha with z | z
    · exact List.mem_append_left _ (sb.subset z)
    · exact List.mem_append_right _ z)
  cases f with
  | nx => intro e; subst e; cases c3; exact fin .non ⟨rfl, rfl⟩
  | ret w => cases c3; exact fun v rv => fin v rv
  | bk => cases c3
  | ct => cases c3
structure FnM (X : Cx) (cl : Nat → Addr) (x : Str) (F : Fn) : Prop where
  ex : ∃ (k : Nat) (f : Addr) (fd : FuncData) (ps : List Str), FnOk X.prog X.w X.K X.mg X.base CX0 k f fd ps (spM ⟨X.K, cl⟩ F) ∧ Room k X.A ∧ X.mg x = some (.ref f) ∧ PySem.W.keepIn X.K (.ref f) = true ∧ Binds X.K fd ps []
def scal : W → Bool
  | .fz .non => true
  | .fz (.bl _) => true
  | .fz (.int _) => true
  | .fz (.str _) => true
  | _ => false
def cCallV (F : Fn) (cb : CBs) : CE := fun ρ => (cb ρ).bind fun (bs, ρ1) => (conts bs ρ1).bind fun ws => (F (ws.map fun w => .fz (frz w))).bind fun (r, _) => (chk (scal r)).bind fun _ => .ok (.tmp r, ρ1)
def cCallP (qd : Bool) (F : Fn) (cb : CBs) : CE := fun ρ => (cb ρ).bind fun (bs, ρ1) => (chk (shut qd bs)).bind fun _ => (takes bs ρ1).bind fun (ws, ρ2) => (F (ws.map fun w => .fz (frz w))).bind fun (r, _) => .ok (.tmp r, ρ2)
theorem scal_rep {C : Cfg} {H H' : Hp} {O O' : AP} {r : W} {v : V} {L : List Addr} (s : scal r = true) (h : RepW C H O r v L) : L = [] ∧ RepW C H' O' r v [] := by
  cases r with
  | lst ws => cases s
  | fz d => cases d <;> first | exact ⟨h.1, rfl, h.2⟩ | cases s
theorem conts_frz {C : Cfg} {H : Hp} {O : AP} {ρ : En} {σ : Sg} {L : List Addr} (e : EnvR C H O ρ σ L) (nd : L.Nodup) : ∀ {bs : List B} {vs : List V} {ws : List W} {Lb T : List Addr}, BRs C H O ρ σ bs vs Lb → (∀ a ∈ Lb, a ∈ T) → (∀ a ∈ L, a ∉ T) → conts bs ρ = .ok ws → RepWs C H (Less O (L ++ T)) (ws.map fun w => .fz (frz w)) vs []
  | [], vs, ws, Lb, T, h, s, d, c => by cases c; exact ⟨h.1, rfl⟩
  | b :: bs, vs, ws, Lb, T, h, s, d, c => by
    obtain ⟨v, r, L1, L2, e1, e2, h1, h2⟩ := h
    subst e2
    obtain ⟨w, c1, c⟩ := Res.of_bind c
    obtain ⟨ws', c2, c⟩ := Res.of_bind c
    cases c
    obtain ⟨Lw, rw', sub⟩ := cont_rep h1 e nd d (fun a ha => s a (by simp [ha])) c1
    refine ⟨v, r, [], [], e1, rfl, ⟨rfl, ?_⟩, conts_frz e nd h2 (fun a ha => s a (by simp [ha])) d c2⟩
    exact RepW.frz w v Lw (fun a q => ⟨⟨q.1, fun z => q.2 (by simp [z])⟩, fun z => q.2 (by simp [sub a z])⟩) rw'
theorem callV_core {C : Cfg} {F : Fn} {cb : CBs} {qb : Bool} {E : XK} {σ : Sg} {H : Hp} {Q : VK} (h : tE C qb (cCallV F cb) σ H Q) : tCall (spM C F) [] E (tB C qb cb) σ H Q := by
  obtain ⟨O, L, ρ, b0, ρ', env, nd, c, q⟩ := h
  obtain ⟨⟨bs, ρ1⟩, c1, c⟩ := Res.of_bind c
  obtain ⟨ws, c2, c⟩ := Res.of_bind c
  obtain ⟨⟨r, bk⟩, c3, c⟩ := Res.of_bind c
  obtain ⟨_, c4, c⟩ := Res.of_bind c
  cases c
  refine ⟨O, L, ρ, bs, ρ', env, nd, c1, fun vs H1 O1 L1 Lb P => ?_⟩
  show spM C F (vs ++ []) H1 Q E
  rw [List.append_nil]
  have ndd := List.nodup_append.mp P.nd
  have d : ∀ z ∈ L1, z ∉ Lb := fun z hz q => ndd.2.2 z hz z q rfl
  have own1 : ∀ a ∈ L1, O1 a := fun a ha => (P.env.own a ha).1
  refine ⟨Less O1 (L1 ++ Lb), [], _, r, bk, conts_frz P.env ndd.1 P.br (fun a ha => ha) d c2, List.nodup_nil, c3, fun v H' O' L' Lr rr rb ndr st => ?_⟩
  obtain ⟨eL, rr'⟩ := scal_rep (H' := H') (O' := fun a => O' a ∨ a ∈ L1) (chk_ok c4) rr
  subst eL
  have kL : KeepL H1 O1 H' (fun a => O' a ∨ a ∈ L1) L1 := by
    refine ⟨fun a o e n => ⟨st.fr a o e (by simp), fun z => ?_⟩, fun a ha o e => ⟨st.fr a o e (by simp), .inr ha⟩⟩
    rcases z with z | z
    · rcases st.nw a z with z | z
      · exact n z.1
      · rw [e] at z; cases z
    · exact n (own1 a z)
  refine q v H' (fun a => O' a ∨ a ∈ L1) L1 [] ⟨EnvR.keep kL P.env, rr', by rw [List.append_nil]; exact ndd.1, ?_, fun hq => ⟨(P.qu hq).1, fun a o e => st.fr a o ((P.qu hq).2 a o e) (by simp)⟩⟩
  rw [List.append_nil]
  refine P.st.trans ⟨fun a o e _ => st.fr a o e (by simp), fun a z => ?_, fun a o e z n => .inl (st.ol a o e ⟨z, n⟩ (by simp)), fun a ha => .inl (by simp [ha]), st.dm⟩
  rcases z with z | z
  · rcases st.nw a z with z | z
    · exact .inl z.1
    · exact .inr z
  · exact .inl (own1 a z)
theorem callP_core {C : Cfg} {F : Fn} {cb : CBs} {qb qd : Bool} {E : XK} {σ : Sg} {H : Hp} {Q : VK} (h : tE C (qb && qd) (cCallP qd F cb) σ H Q) : tCall (spM C F) [] E (tB C qb cb) σ H Q := by
  obtain ⟨O, L, ρ, b0, ρ', env, nd, c, q⟩ := h
  obtain ⟨⟨bs, ρ1⟩, c1, c⟩ := Res.of_bind c
  obtain ⟨_, cs, c⟩ := Res.of_bind c
  obtain ⟨hf, ht⟩ := shut_ok (chk_ok cs)
  obtain ⟨⟨ws, ρ2⟩, c2, c⟩ := Res.of_bind c
  obtain ⟨⟨r, bk⟩, c3, c⟩ := Res.of_bind c
  cases c
  refine ⟨O, L, ρ, bs, ρ1, env, nd, c1, fun vs H1 O1 L1 Lb P => ?_⟩
  show spM C F (vs ++ []) H1 Q E
  rw [List.append_nil]
  obtain ⟨O2, L2, Lw, g1, g2, g3, g4, g5, g6, g7⟩ := takes_rep P.br P.env P.nd hf c2
  have rd : RepDs C H1 (Less O2 Lw) (frzs ws) vs := RepWs.frz ws vs Lw (fun a q => q) g2
  have rs : RepWs C H1 (Less O2 Lw) (ws.map fun w => .fz (frz w)) vs [] := by
    have := RepWs.ofD rd
    rw [frzs_map, List.map_map] at this
    exact this
  have ndw := List.nodup_append.mp g3
  have d2 : ∀ a ∈ L2, a ∉ Lw := fun a ha z => ndw.2.2 a ha a z rfl
  have e2 := g1.less d2
  refine ⟨Less O2 Lw, [], _, r, bk, rs, List.nodup_nil, c3, fun v H' O' L' Lr rr rb ndr st => ?_⟩
  have own2 : ∀ a ∈ L2, Less O2 Lw a := fun a ha => (e2.own a ha).1
  have kL : KeepL H1 (Less O2 Lw) H' O' L2 := st.keepL (by simp) own2 (by simp)
  have nr : (L2 ++ Lr).Nodup := by
    refine List.nodup_append.mpr ⟨ndw.1, (List.nodup_append.mp ndr).2.1, fun a ha b hb e => ?_⟩
    subst e
    rcases st.ll a (by simp [hb]) with z | z
    · simp at z
    · obtain ⟨_, xs, e⟩ := g1.own a ha; rw [z] at e; cases e
  refine q v H' O' L2 Lr ⟨EnvR.keep kL e2, rr, nr, ?_, fun hq => ?_⟩
  · have s1 : Stp H O L H1 (Less O2 Lw) L2 := (P.st.trans (Stp.ofO g4 g5 g6)).drop
    refine s1.trans ⟨fun a o e _ => st.fr a o e (by simp), st.nw, fun a o e z _ => st.ol a o e z (by simp), fun a ha => ?_, st.dm⟩
    rcases List.mem_append.mp ha with ha | ha
    · exact .inl ha
    · rcases st.ll a (by simp [ha]) with z | z
      · simp at z
      · exact .inr z
  · have hq' : qb = true ∧ qd = true := by simpa using hq
    exact ⟨(g7 (ht hq'.2)).trans (P.qu hq'.1).1, fun a o e => st.fr a o ((P.qu hq'.1).2 a o e) (by simp)⟩
end Mi
namespace Mi
open PySem PySem.Spec PyProof.Rows L2
def argsIO (io : KP) : Nat → List B → En → Res (List W × En)
  | _, [], ρ => .ok ([], ρ)
  | j, b :: bs, ρ => (if io j = true then move b ρ else (take b ρ).bind fun (w, ρ') => .ok (.fz (frz w), ρ')).bind fun (w, ρ1) => (argsIO io (j + 1) bs ρ1).bind fun (ws, ρ2) => .ok (w :: ws, ρ2)
def put1 (b : B) (w : W) (ρ : En) : Res En := match b with
  | .bor i [] => match ρ[i]? with
    | some none => .ok (ρ.set i (some w))
    | _ => .err
  | .tmp _ => .ok ρ
  | _ => .err
def putB (io : KP) : Nat → List B → List W → En → Res En
  | _, [], _, ρ => .ok ρ
  | _, _ :: _, [], _ => .err
  | j, b :: bs, w :: ws, ρ => (if io j = true then put1 b w ρ else Res.ok ρ).bind fun ρ1 => putB io (j + 1) bs ws ρ1
def cCallIO (F : Fn) (io : KP) (cb : CBs) : CE := fun ρ => (cb ρ).bind fun (bs, ρ1) => (chk (bs.all flatB)).bind fun _ => (argsIO io 0 bs ρ1).bind fun (ws, ρ2) => (F ws).bind fun (r, bk) => (putB io 0 bs bk ρ2).bind fun ρ3 => .ok (.tmp r, ρ3)
section
variable {C : Cfg} {H : Hp} {σ : Sg}
theorem argsIO_rep {io : KP} : ∀ {j : Nat} {bs : List B} {vs : List V} {ws : List W} {ρ ρ' : En} {O : AP} {L Lb : List Addr}, BRs C H O ρ σ bs vs Lb → EnvR C H O ρ σ L → (L ++ Lb).Nodup → bs.all flatB = true → argsIO io j bs ρ = .ok (ws, ρ') →
    ∃ O' L' Lw, EnvR C H O' ρ' σ L' ∧ RepWs C H O' ws vs Lw ∧ (L' ++ Lw).Nodup ∧ (∀ a, O' a → O a) ∧ (∀ a, a ∈ L' ++ Lw → a ∈ L ++ Lb) ∧ ∀ a, O a → a ∉ L ++ Lb → O' a
  | j, [], vs, ws, ρ, ρ', O, L, Lb, h, env, nd, f, c => by
    cases c
    rw [h.1, h.2]
    exact ⟨O, L, [], env, ⟨rfl, rfl⟩, by rw [List.append_nil]; exact (List.nodup_append.mp nd).1, fun _ q => q, fun _ q => by simpa using q, fun _ q _ => q⟩
  | j, b :: bs, vs, ws, ρ, ρ', O, L, Lb, h, env, nd, f, c => by
    obtain ⟨v, r, L1, L2, e, e2, h1, h2⟩ := h
    subst e; subst e2
    have f' : flatB b = true ∧ bs.all flatB = true := by simpa using f
    obtain ⟨⟨w, ρ1⟩, c1, c⟩ := Res.of_bind c
    obtain ⟨⟨ws', ρ2⟩, c2, c⟩ := Res.of_bind c
    cases c
    have nd1 : (L ++ L1).Nodup := by
      rw [← List.append_assoc] at nd
      exact (List.nodup_append.mp nd).1
    have dis : ∀ a ∈ L2, a ∉ L ++ L1 := fun a ha z => by
      rw [← List.append_assoc] at nd
      exact (List.nodup_append.mp nd).2.2 a z a ha rfl
    have nd2 : L2.Nodup := by
      rw [← List.append_assoc] at nd
      exact (List.nodup_append.mp nd).2.1
    obtain ⟨O1, M, Lw, g1, g2, g3, g4, g5, g6⟩ : ∃ O' L' Lw, EnvR C H O' ρ1 σ L' ∧ RepW C H O' w v Lw ∧ (L' ++ Lw).Nodup ∧ (∀ a, O' a → O a) ∧ (∀ a, a ∈ L' ++ Lw → a ∈ L ++ L1) ∧ ∀ a, O a → a ∉ L ++ L1 → O' a := by
      by_cases hj : io j = true
      · rw [if_pos hj] at c1
        exact move_rep h1 env nd1 c1
      · rw [if_neg hj] at c1
        obtain ⟨⟨w0, ρ0⟩, c0, c1⟩ := Res.of_bind c1
        cases c1
        obtain ⟨O1, M, Lw, g1, g2, g3, g4, g5, g6⟩ := take_rep h1 env nd1 c0
        have nn := List.nodup_append.mp g3
        refine ⟨Less O1 Lw, M, [], g1.less (fun a ha z => nn.2.2 a ha a z rfl), ⟨rfl, RepW.frz w0 v Lw (fun a q => q) g2⟩, by rw [List.append_nil]; exact nn.1, fun a q => g4 a q.1, fun a q => g5 a (by rw [List.append_nil] at q; simp [q]), fun a q n => ⟨g6 a q n, fun z => n (g5 a (by simp [z]))⟩⟩
    have own2 := BRs.own h2
    have k2 : KeepL H O H O1 L2 := ⟨fun a o e n => ⟨e, fun q => n (g4 a q)⟩, fun a ha o e => ⟨e, g6 a (own2 a ha).1 (dis a ha)⟩⟩
    have h2' : BRs C H O1 ρ1 σ bs r (L2) := BRs.keep f'.2 k2 h2
    have ndM : (M ++ L2).Nodup := List.nodup_append.mpr ⟨(List.nodup_append.mp g3).1, nd2, fun a ha b hb e => by subst e; exact dis a hb (g5 a (by simp [ha]))⟩
    obtain ⟨O', L', Lw', k1, k3, k4, k5, k6, k7⟩ := argsIO_rep h2' g1 ndM f'.2 c2
    have dw : ∀ a ∈ Lw, a ∉ M ++ L2 := fun a ha z => by
      rcases List.mem_append.mp z with z | z
      · exact (List.nodup_append.mp g3).2.2 a z a ha rfl
      · exact dis a z (g5 a (by simp [ha]))
    have ow := RepW.own w v Lw g2
    have rw2 : RepW C H O' w v Lw := RepW.keep w v Lw ⟨fun a o e n => ⟨e, fun q => n (k5 a q)⟩, fun a ha o e => ⟨e, k7 a (ow a ha).1 (dw a ha)⟩⟩ g2
    refine ⟨O', L', Lw ++ Lw', k1, ⟨v, r, Lw, Lw', rfl, rfl, rw2, k3⟩, ?_, fun a q => g4 a (k5 a q), fun a q => ?_, fun a q n => ?_⟩
    · have p : (L' ++ Lw' ++ Lw).Perm (L' ++ (Lw ++ Lw')) := by rw [List.append_assoc]; exact List.Perm.append_left L' List.perm_append_comm
      refine p.nodup_iff.mp (List.nodup_append.mpr ⟨k4, (List.nodup_append.mp g3).2.1, fun a ha b hb e => ?_⟩)
      subst e
      exact dw a hb (k6 a ha)
    · rcases List.mem_append.mp q with q | q
      · rcases List.mem_append.mp (k6 a (by simp [q])) with z | z
        · have := g5 a (by simp [z]); simp only [List.mem_append] at this ⊢; rcases this with t | t <;> simp [t]
        · simp [z]
      · rcases List.mem_append.mp q with q | q
        · have := g5 a (by simp [q]); simp only [List.mem_append] at this ⊢; rcases this with t | t <;> simp [t]
        · rcases List.mem_append.mp (k6 a (by simp [q])) with z | z
          · have := g5 a (by simp [z]); simp only [List.mem_append] at this ⊢; rcases this with t | t <;> simp [t]
          · simp [z]
    · have n1 : a ∉ L ++ L1 := fun z => n (by simp only [List.mem_append] at z ⊢; rcases z with t | t <;> simp [t])
      have n2 : a ∉ L2 := fun z => n (by simp [z])
      refine k7 a (g6 a q n1) fun z => ?_
      rcases List.mem_append.mp z with z | z
      · exact n1 (g5 a (by simp [z]))
      · exact n2 z
def At (σ : Sg) : List B → List V → Prop
  | [], _ => True
  | _ :: _, [] => False
  | b :: bs, v :: vs => (∀ i, b = .bor i [] → σ[i]? = some (some v)) ∧ At σ bs vs
theorem BRs.at {O : AP} {ρ : En} : ∀ {bs : List B} {vs : List V} {L : List Addr}, BRs C H O ρ σ bs vs L → At σ bs vs
  | [], _, _, _ => trivial
  | b :: bs, vs, L, h => by
    obtain ⟨v, r, L1, L2, e, e2, h1, h2⟩ := h
    subst e
    refine ⟨fun i hb => ?_, BRs.at h2⟩
    subst hb
    obtain ⟨_, v0, k1, k2, _⟩ := h1
    rw [k2 rfl]; exact k1
theorem putB_rep {io : KP} {O : AP} : ∀ {j : Nat} {bs : List B} {vs : List V} {ws : List W} {ρ ρ' : En} {L Lw : List Addr}, At σ bs vs → EnvR C H O ρ σ L → RepWs C H O ws vs Lw → (L ++ Lw).Nodup → putB io j bs ws ρ = .ok ρ' →
    ∃ L', EnvR C H O ρ' σ L' ∧ L'.Nodup ∧ ∀ a ∈ L', a ∈ L ++ Lw
  | j, [], vs, ws, ρ, ρ', L, Lw, a, env, r, nd, c => by
    cases c
    exact ⟨L, env, (List.nodup_append.mp nd).1, fun a ha => by simp [ha]⟩
  | j, b :: bs, vs, [], ρ, ρ', L, Lw, a, env, r, nd, c => by cases c
  | j, b :: bs, vs, w :: ws, ρ, ρ', L, Lw, a, env, r, nd, c => by
    obtain ⟨v, vr, M1, M2, e1, e2, r1, r2⟩ := r
    subst e1; subst e2
    obtain ⟨a1, a2⟩ := a
    obtain ⟨ρ1, c1, c⟩ := Res.of_bind c
    have same : ∀ {ρ0 : En}, ρ0 = ρ → putB io (j + 1) bs ws ρ0 = .ok ρ' → ∃ L', EnvR C H O ρ' σ L' ∧ L'.Nodup ∧ ∀ a ∈ L', a ∈ L ++ (M1 ++ M2) := fun {ρ0} e cc => by
      rw [e] at cc
      have nd' : (L ++ M2).Nodup := by
        have : (L ++ M2).Sublist (L ++ (M1 ++ M2)) := (List.Sublist.refl L).append (List.sublist_append_right M1 M2)
        exact this.nodup nd
      obtain ⟨L', g1, g2, g3⟩ := putB_rep a2 env r2 nd' cc
      exact ⟨L', g1, g2, fun a ha => by have := g3 a ha; simp only [List.mem_append] at this ⊢; rcases this with t | t <;> simp [t]⟩
    by_cases hj : io j = true
    · rw [if_pos hj] at c1
      cases b with
      | tmp w0 => cases c1; exact same rfl c
      | bor i p =>
        cases p with
        | cons k p => cases c1
        | nil =>
          simp only [put1] at c1
          cases hi : ρ[i]? with
          | none => rw [hi] at c1; cases c1
          | some x =>
            rw [hi] at c1
            cases x with
            | some w0 => cases c1
            | none =>
              cases c1
              have hs := a1 i rfl
              obtain ⟨y, N1, N0, q1, q2, q4, q5⟩ := env.focus hi
              have eN : N1 = [] := q2
              subst eN
              obtain ⟨L1, p1, p2⟩ := q5 H O (some w) (some v) M1 ⟨Keep.refl _ _, fun a ha o z => ⟨z, (env.own a (q4.mem_iff.mpr (by simp [ha]))).1⟩⟩ ⟨v, rfl, r1⟩
              rw [set_same hs] at p2
              have pL : L1.Perm (M1 ++ L) := p1.trans (List.Perm.append_left M1 (by simpa using q4.symm))
              have pp : (L ++ (M1 ++ M2)).Perm (L1 ++ M2) := by
                rw [← List.append_assoc]
                exact List.Perm.append_right M2 (List.perm_append_comm.trans pL.symm)
              obtain ⟨L', g1, g2, g3⟩ := putB_rep a2 p2 r2 (pp.nodup_iff.mp nd) c
              exact ⟨L', g1, g2, fun a ha => pp.mem_iff.mpr (g3 a ha)⟩
    · rw [if_neg hj] at c1
      cases c1
      exact same rfl c
end
theorem callIO_core {C : Cfg} {F : Fn} {io : KP} {cb : CBs} {qb : Bool} {E : XK} {σ : Sg} {H : Hp} {Q : VK} (h : tE C false (cCallIO F io cb) σ H Q) : tCall (spM C F) [] E (tB C qb cb) σ H Q := by
  obtain ⟨O, L, ρ, b0, ρ', env, nd, c, q⟩ := h
  obtain ⟨⟨bs, ρ1⟩, c1, c⟩ := Res.of_bind c
  obtain ⟨_, cs, c⟩ := Res.of_bind c
  obtain ⟨⟨ws, ρ2⟩, c2, c⟩ := Res.of_bind c
  obtain ⟨⟨r, bk⟩, c3, c⟩ := Res.of_bind c
  obtain ⟨ρ3, c4, c⟩ := Res.of_bind c
  cases c
  refine ⟨O, L, ρ, bs, ρ1, env, nd, c1, fun vs H1 O1 L1 Lb P => ?_⟩
  show spM C F (vs ++ []) H1 Q E
  rw [List.append_nil]
  obtain ⟨O2, L2, Lw, g1, g2, g3, g4, g5, g6⟩ := argsIO_rep P.br P.env P.nd (chk_ok cs) c2
  have ndw := List.nodup_append.mp g3
  have dw : ∀ a ∈ L2, a ∉ Lw := fun a ha z => ndw.2.2 a ha a z rfl
  refine ⟨O2, Lw, ws, r, bk, g2, ndw.2.1, c3, fun v H' O' L' Lr rr rb ndr st => ?_⟩
  have own2 : ∀ a ∈ L2, O2 a := fun a ha => (g1.own a ha).1
  have ownW : ∀ a ∈ Lw, O2 a := fun a ha => (RepWs.own ws vs Lw g2 a ha).1
  have e2 : EnvR C H' O' ρ2 σ L2 := EnvR.keep (st.keepL ownW own2 dw) g1
  have nd4 : (L' ++ Lr ++ L2).Nodup := nodup_frame st ndr ndw.1 (fun a ha => let ⟨_, xs, e⟩ := g1.own a ha; ⟨_, e⟩) dw
  have nd5 : (L2 ++ L').Nodup := by
    have s : (L' ++ L2).Sublist (L' ++ Lr ++ L2) := (List.sublist_append_left L' Lr).append (List.Sublist.refl L2)
    exact (List.perm_append_comm.nodup_iff).mp (s.nodup nd4)
  obtain ⟨L3, k1, k2, k3⟩ := putB_rep P.br.at e2 rb nd5 c4
  have dr : ∀ a ∈ Lr, a ∉ L3 := fun a ha z => by
    rcases List.mem_append.mp (k3 a z) with z | z
    · exact (List.nodup_append.mp nd4).2.2 a (by simp [ha]) a z rfl
    · exact (List.nodup_append.mp ndr).2.2 a z a ha rfl
  refine q v H' O' L3 Lr ⟨k1, rr, List.nodup_append.mpr ⟨k2, (List.nodup_append.mp ndr).2.1, fun a ha b hb e => by subst e; exact dr a hb ha⟩, ?_, fun z => by cases z⟩
  have s1 : Stp H O L H1 O2 (L2 ++ Lw) := P.st.trans (Stp.ofO g4 g5 g6)
  have s2 : Stp H1 O2 (Lw ++ L2) H' O' (L' ++ Lr ++ L2) := st.frame L2
  refine (s1.perm (T := Lw ++ L2) fun a ha => by simp only [List.mem_append] at ha ⊢; exact ha.symm).trans s2 |>.perm fun a ha => ?_
  rcases List.mem_append.mp ha with ha | ha
  · rcases List.mem_append.mp (k3 a ha) with z | z <;> simp [z]
  · simp [ha]
section
variable {X : Cx} {cl : Nat → Addr} {x : Str} {F : Fn} {p pos : Pos} {e : Expr} {es : List Expr} {cb : CBs} {qb qd : Bool} {io : KP}
theorem se_callV (hf : FnM X cl x F) (hg : Gl X x) (hb : SB X cl qb (e :: es) cb) (hdb : (x == ("__debug__" : Str)) = false := by decide) (he : starEach (e :: es) X.env = (false, eval e X.env) :: starEach es X.env := by rfl) (hpl : (backTo pos (starEach es X.env)).any (·.1) = false := by rfl) :
    SE X cl qb (.Call (.Name x p) (e :: es) [] pos) (cCallV F cb) := by
  obtain ⟨k, f, fd, ps, G, hr, hm, hk, hbd⟩ := hf.ex
  exact PE.imp (pe_call G hr hg hm hk hbd .nil pass0 hb hdb he hpl) fun σ H Q h => callV_core h
theorem se_callP (hf : FnM X cl x F) (hg : Gl X x) (hb : SB X cl qb (e :: es) cb) (hdb : (x == ("__debug__" : Str)) = false := by decide) (he : starEach (e :: es) X.env = (false, eval e X.env) :: starEach es X.env := by rfl) (hpl : (backTo pos (starEach es X.env)).any (·.1) = false := by rfl) :
    SE X cl (qb && qd) (.Call (.Name x p) (e :: es) [] pos) (cCallP qd F cb) := by
  obtain ⟨k, f, fd, ps, G, hr, hm, hk, hbd⟩ := hf.ex
  exact PE.imp (pe_call G hr hg hm hk hbd .nil pass0 hb hdb he hpl) fun σ H Q h => callP_core h
theorem se_callIO (hf : FnM X cl x F) (hg : Gl X x) (hb : SB X cl qb (e :: es) cb) (hdb : (x == ("__debug__" : Str)) = false := by decide) (he : starEach (e :: es) X.env = (false, eval e X.env) :: starEach es X.env := by rfl) (hpl : (backTo pos (starEach es X.env)).any (·.1) = false := by rfl) :
    SE X cl false (.Call (.Name x p) (e :: es) [] pos) (cCallIO F io cb) := by
  obtain ⟨k, f, fd, ps, G, hr, hm, hk, hbd⟩ := hf.ex
  exact PE.imp (pe_call G hr hg hm hk hbd .nil pass0 hb hdb he hpl) fun σ H Q h => callIO_core h
theorem se_call0 (hf : FnM X cl x F) (hg : Gl X x) (hdb : (x == ("__debug__" : Str)) = false := by decide) : SE X cl true (.Call (.Name x p) [] [] pos) (cCallP true F cNil) := by
  obtain ⟨k, f, fd, ps, G, hr, hm, hk, hbd⟩ := hf.ex
  refine PE.imp (pe_call0 G hr hg hm hk hbd .nil pass0 hdb) fun σ H Q h => ?_
  have h2 := callP_core (E := E0) (qb := true) h
  obtain ⟨O, L, ρ, bs, ρ', env, nd, c, q⟩ := h2
  cases c
  exact q [] H O L [] ⟨env, ⟨rfl, rfl⟩, by rw [List.append_nil]; exact nd, by rw [List.append_nil]; exact Stp.refl _ _ _, fun _ => ⟨rfl, fun _ _ e => e⟩⟩
end
end Mi
namespace Mi
open PySem PySem.Spec PyProof.Rows L2
section
variable {C : Cfg} {H : Hp} {O : AP} {L Lb : List Addr} {ρ : En} {σ : Sg} {i : Nat} {p : List Nat} {v : V} {w : W} {ws : List W}
theorem mut_rep (e : EnvR C H O ρ σ L) (nd : L.Nodup) (hb : BR C H O ρ σ (.bor i p) v Lb) (hi : ρ[i]? = some (some w)) (g : getP w p = some (.lst ws)) :
    ∃ l xs L1 L0, v = .ref l ∧ H l = some (.lst xs) ∧ O l ∧ RepWs C H O ws xs L1 ∧ L.Perm (l :: (L1 ++ L0)) ∧
      ∀ ws' xs' L1' O', (∀ a, O' a → O a) → (∀ a, O a → a ∈ l :: L0 → O' a) → RepWs C (upd H l (.lst xs')) O' ws' xs' L1' → ∃ L', L'.Perm (l :: (L1' ++ L0)) ∧ EnvR C (upd H l (.lst xs')) O' (ρ.set i (some (setP w p (.lst ws')))) σ L' := by
  obtain ⟨M1, M0, r1, r2, r3⟩ := env_path e nd hb hi g
  obtain ⟨l, xs, L1, e1, h1, h2, h3, r⟩ := r1
  subst h3
  have ndM : (l :: L1 ++ M0).Nodup := r2.nodup_iff.mp nd
  have hl : l ∉ M0 := fun z => (List.nodup_cons.mp ndM).1 (by simp [z])
  have ow : ∀ a ∈ M0, O a := fun a ha => (e.own a (r2.mem_iff.mpr (by simp [ha]))).1
  refine ⟨l, xs, L1, M0, e1, h1, h2, r, r2, fun ws' xs' L1' O' hO hO2 rs => ?_⟩
  have k : KeepL H O (upd H l (.lst xs')) O' M0 := ⟨fun b u e n => ⟨(upd_ne (show b ≠ l from fun z => n (by rw [z]; exact h2))).trans e, fun q => n (hO b q)⟩,
    fun b hb u e => ⟨(upd_ne (show b ≠ l from fun z => hl (by rw [← z]; exact hb))).trans e, hO2 b (ow b hb) (by simp [hb])⟩⟩
  exact r3 _ O' (.lst ws') (l :: L1') k ⟨l, xs', L1', e1, upd_same, hO2 l h2 (by simp), rfl, rs⟩
end
def mutP (i : Nat) (p : List Nat) (f : List W → Option (List W)) (ρ : En) : Res En := match ρ[i]? with
  | some (some w) => match getP w p with
    | some (.lst ws) => (Res.of (f ws)).bind fun ws' => .ok (ρ.set i (some (setP w p (.lst ws'))))
    | _ => .err
  | _ => .err
theorem mutP_ok {i : Nat} {p : List Nat} {f : List W → Option (List W)} {ρ ρ' : En} (h : mutP i p f ρ = .ok ρ') : ∃ w ws ws', ρ[i]? = some (some w) ∧ getP w p = some (.lst ws) ∧ f ws = some ws' ∧ ρ' = ρ.set i (some (setP w p (.lst ws'))) := by
  unfold mutP at h
  split at h
  · rename_i w hw
    split at h
    · rename_i ws hg
      obtain ⟨ws', c1, c2⟩ := Res.of_bind h
      cases c2
      exact ⟨w, ws, ws', hw, hg, Res.of_ok c1, rfl⟩
    · cases h
  · cases h
def isPl : B → En → Res (Nat × List Nat)
  | .bor i p, ρ => match ρ[i]? with
    | some (some w) => match getP w p with
      | some (.lst _) => .ok (i, p)
      | _ => .err
    | _ => .err
  | _, _ => .err
theorem isPl_ok {b : B} {ρ : En} {i : Nat} {p : List Nat} (h : isPl b ρ = .ok (i, p)) : b = .bor i p ∧ ∃ w ws, ρ[i]? = some (some w) ∧ getP w p = some (.lst ws) := by
  unfold isPl at h
  split at h
  · split at h
    · rename_i w hw
      split at h
      · rename_i ws hg
        cases h
        exact ⟨rfl, w, _, hw, hg⟩
      · cases h
    · cases h
  · cases h
def cApp (qa : Bool) (co ca : CE) : CE := fun ρ => (co ρ).bind fun (b, ρ1) => (isPl b ρ1).bind fun (i, p) => (pend qa (.bor i p)).bind fun _ => (ca ρ1).bind fun (a, ρ2) => (chk (p.isEmpty || isTmp a)).bind fun _ => (take a ρ2).bind fun (w, ρ3) =>
  (mutP i p (fun ws => if ws.length < 16777216 then some (ws ++ [w]) else none) ρ3).bind fun ρ4 => .ok (.tmp (.fz .non), ρ4)
section
variable {X : Cx} {cl : Nat → Addr} {o e : Expr} {co ca : CE} {qo qa : Bool} {apos cpos : Pos}
theorem app_core {C : Cfg} {σ : Sg} {H : Hp} {Q : VK} (h : tE C false (cApp qa co ca) σ H Q) : tBM C.K "list" rAppend (tE C qo co) (tCons (tE C qa ca) tNil) σ H Q := by
  obtain ⟨O, L, ρ, b0, ρ', env, nd, c, q⟩ := h
  obtain ⟨⟨b, ρ1⟩, c1, c⟩ := Res.of_bind c
  obtain ⟨⟨i, p⟩, c2, c⟩ := Res.of_bind c
  obtain ⟨_, c3, c⟩ := Res.of_bind c
  obtain ⟨⟨a, ρ2⟩, c4, c⟩ := Res.of_bind c
  obtain ⟨_, c5, c⟩ := Res.of_bind c
  obtain ⟨⟨w, ρ3⟩, c6, c⟩ := Res.of_bind c
  obtain ⟨ρ4, c7, c⟩ := Res.of_bind c
  cases c
  obtain ⟨eb, w0, ws0, hi0, hg0⟩ := isPl_ok c2
  subst eb
  refine ⟨O, L, ρ, _, ρ1, env, nd, c1, fun v H1 O1 L1 La P1 => ?_⟩
  have ndd1 := List.nodup_append.mp P1.nd
  obtain ⟨l0, xs0, _, _, e0, h0, _⟩ := mut_rep P1.env ndd1.1 P1.br hi0 hg0
  subst e0
  refine ⟨.inl ⟨rfl, xs0, SqL.of h0⟩, ?_⟩
  have eLa : La = [] := P1.br.1
  subst eLa
  have own1 : ∀ z ∈ L1, O1 z := fun z hz => (P1.env.own z hz).1
  refine ⟨O1, L1, ρ1, a, ρ2, P1.env, ndd1.1, c4, fun y H2 O2 L2 Lb P2 => ?_⟩
  obtain ⟨br2, _⟩ := P1.br.pend own1 P1.nd P2 c3
  obtain ⟨O3, L3, Lw, g1, g2, g3, g4, g5, g6⟩ := take_rep P2.br P2.env P2.nd c6
  have br3 : BR C H2 O3 ρ3 σ (.bor i p) (.ref l0) [] := by
    obtain ⟨z0, v0, z1, z2, z3⟩ := br2
    refine ⟨rfl, v0, z1, z2, fun hp => ?_⟩
    have ht : isTmp a = true := by
      have := chk_ok c5
      cases p with
      | nil => exact absurd rfl hp
      | cons k r => simpa using this
    cases a with
    | tmp w' => cases c6; exact z3 hp
    | bor _ _ => cases ht
  obtain ⟨w3, ws, ws', hi, hg, hf, e4⟩ := mutP_ok c7
  subst e4
  have ndd3 := List.nodup_append.mp g3
  obtain ⟨l, xs, M1, M0, el, hl, hO, rs, pm, up⟩ := mut_rep g1 ndd3.1 br3 hi hg
  cases el
  by_cases hlen : ws.length < 16777216
  · rw [if_pos hlen] at hf
    cases hf
    refine ⟨l0, xs, y, rfl, rfl, hl, by rw [rs.length, sizeLine_eq]; exact hlen, ?_⟩
    have pm2 : (L3 ++ Lw).Perm (l0 :: (M1 ++ Lw ++ M0)) := by
      refine (List.Perm.append_right Lw pm).trans ?_
      simp only [List.cons_append, List.append_assoc]
      exact (List.Perm.append_left M1 List.perm_append_comm).cons l0
    have nd4 : (l0 :: (M1 ++ Lw ++ M0)).Nodup := pm2.nodup_iff.mp g3
    have n0 := List.nodup_cons.mp nd4
    have owM : ∀ a ∈ M1, O3 a := fun a ha => (RepWs.own ws xs M1 rs a ha).1
    have owW : ∀ a ∈ Lw, O3 a := fun a ha => (RepW.own w y Lw g2 a ha).1
    have rs2 : RepWs C (upd H2 l0 (.lst (xs ++ [y]))) O3 (ws ++ [w]) (xs ++ [y]) (M1 ++ Lw) :=
      RepWs.append (RepWs.keep ws xs M1 (keep_mut hO (fun z => n0.1 (by simp [z])) owM) rs) (RepWs.one (RepW.keep w y Lw (keep_mut hO (fun z => n0.1 (by simp [z])) owW) g2))
    obtain ⟨L4, p4, env4⟩ := up (ws ++ [w]) (xs ++ [y]) (M1 ++ Lw) O3 (fun _ q => q) (fun _ q _ => q) rs2
    have p5 : L4.Perm (L3 ++ Lw) := p4.trans pm2.symm
    refine q .non _ O3 L4 [] ⟨env4, ⟨rfl, rfl⟩, by rw [List.append_nil]; exact p5.nodup_iff.mpr g3, ?_, fun z => by cases z⟩
    have s1 := P1.st
    rw [List.append_nil] at s1
    have s3 : Stp H O L H2 O3 (L3 ++ Lw) := (s1.trans P2.st).trans (Stp.ofO g4 g5 g6)
    refine (s3.trans (Stp.mut (a := l0) (o := .lst (xs ++ [y])) (pm2.mem_iff.mpr (by simp)) hl)).perm fun a ha => ?_
    rw [List.append_nil] at ha
    exact p5.mem_iff.mp ha
  · rw [if_neg hlen] at hf; cases hf
theorem se_append (ho : SE X cl qo o co) (ha : SE X cl qa e ca) (hbase : attributeBase o "append" X.env (eval o X.env) = eval o X.env := by rfl)
    (hfew : ((backTo cpos (starEach [e] X.env)).all (fun x => !x.1) && (backToKw cpos (keywordEach [] X.env)).all (fun x => x.1.isSome) && decide ([e].length + ([] : List Keyword).length + (if ([] : List Keyword).isEmpty then 0 else 1) < 30)) = true := by rfl)
    (hline : (apos.endLine == cpos.line) = true := by rfl) (hs : starEach [e] X.env = (false, eval e X.env) :: starEach [] X.env := by rfl) (hplain : (backTo cpos (starEach [] X.env)).any (·.1) = false := by rfl) :
    SE X cl false (.Call (.Attribute o "append" apos) [e] [] cpos) (cApp qa co ca) :=
  PE.imp (pe_bm PySem.F.plainAttrs_list PySem.F.slot_list_append PySem.F.type_list_append mt_append ho (pa_cons ha pa_nil hs) hbase hfew hline hs hplain) fun σ H Q h => app_core (C := ⟨X.K, cl⟩) h
end
def intOf : B → Res Int
  | .tmp (.fz (.int k)) => .ok k
  | _ => .err
theorem intOf_ok {b : B} {k : Int} (h : intOf b = .ok k) : b = .tmp (.fz (.int k)) := by
  unfold intOf at h
  split at h
  · cases h; rfl
  · cases h
def gSub (qi : Bool) (co ci : CE) : CG := fun w ρ => (co ρ).bind fun (b, ρ1) => (pend qi b).bind fun _ => (ci ρ1).bind fun (bi, ρ2) => (intOf bi).bind fun k => (isPl b ρ2).bind fun (i, p) =>
  mutP i p (fun ws => match ixN ws.length k with
    | some j => some (ws.set j w)
    | none => none) ρ2
section
variable {X : Cx} {cl : Nat → Addr} {kp : KP} {o ix : Expr} {co ci : CE} {qo qi : Bool} {pos : Pos}
theorem RepWs.setAt {C : Cfg} {H H' : Hp} {O O' : AP} {ws : List W} {xs : List V} {L Lw : List Addr} {j : Nat} {w : W} {y : V} (r : RepWs C H O ws xs L) (hj : j < ws.length) (k : KeepL H O H' O' L) (rw' : RepW C H' O' w y Lw) :
    ∃ L1 L0 L', L.Perm (L1 ++ L0) ∧ L'.Perm (Lw ++ L0) ∧ RepWs C H' O' (ws.set j w) (xs.set j y) L' := by
  obtain ⟨x, L1, L0, q1, q2, q3, q4⟩ := r.focus (List.getElem?_eq_getElem hj)
  obtain ⟨L', p1, p2⟩ := q4 H' O' w y Lw (k.sub fun a ha => q3.mem_iff.mpr (by simp [ha])) rw'
  exact ⟨L1, L0, L', q3, p1, p2⟩
theorem sg_sub (ho : SE X cl qo o co) (hi : SE X cl qi ix ci) (ha : ∀ v, assign (.Subscript o ix pos) X.env v = (do
      let ov ← holding [v] (eval o X.env)
      let iv ← holding [v, ov] (eval ix X.env)
      standAt pos
      holding [v, ov, iv] (setItem ov iv v)
      release [v, ov, iv] []) := by intro _; rfl) : SG X cl kp (.Subscript o ix pos) (gSub qi co ci) := by
  refine PG.imp (pg_sub ho hi set_list ha) fun v σ H Q h => ?_
  obtain ⟨O, L, Lw, ρ, w, ρ', env, r, nd, c, q⟩ := h
  obtain ⟨⟨b, ρ1⟩, c1, c⟩ := Res.of_bind c
  obtain ⟨_, c2, c⟩ := Res.of_bind c
  obtain ⟨⟨bi, ρ2⟩, c3, c⟩ := Res.of_bind c
  obtain ⟨k, c4, c⟩ := Res.of_bind c
  obtain ⟨⟨i, p⟩, c5, cm⟩ := Res.of_bind c
  have ei := intOf_ok c4
  subst ei
  obtain ⟨eb, _⟩ := isPl_ok c5
  subst eb
  have nd0 := List.nodup_append.mp nd
  refine ⟨O, L, ρ, _, ρ1, env, nd0.1, c1, fun ov H1 O1 L1 La P1 => ?_⟩
  have own1 : ∀ z ∈ L1, O1 z := fun z hz => (P1.env.own z hz).1
  have eLa : La = [] := P1.br.1
  subst eLa
  have ndd1 := List.nodup_append.mp P1.nd
  refine ⟨O1, L1, ρ1, _, ρ2, P1.env, ndd1.1, c3, fun iv H2 O2 L2 Lb P2 => ?_⟩
  obtain ⟨eLb, eiv⟩ := P2.br
  subst eLb
  have s1 := P1.st
  have s2 := P2.st
  have nd2 := P2.nd
  rw [List.append_nil] at s1 s2 nd2
  obtain ⟨br2, _⟩ := P1.br.pend own1 P1.nd P2 c2
  obtain ⟨w3, ws, ws', hi', hg, hf, e4⟩ := mutP_ok cm
  subst e4
  obtain ⟨l, xs, M1, M0, el, hl, hO, rs, pm, up⟩ := mut_rep P2.env nd2 br2 hi' hg
  cases hx : ixN ws.length k with
  | none => rw [hx] at hf; cases hf
  | some j =>
    rw [hx] at hf
    cases hf
    have hj : j < ws.length := (ixN_seq hx).2.1
    refine ⟨l, xs, k, j, el, eiv, hl, by rw [rs.length]; exact hx, ?_⟩
    have s02 : Stp H O L H2 O2 L2 := s1.trans s2
    have own0 : ∀ a ∈ L, O a := fun a ha => (env.own a ha).1
    have owW := RepW.own w v Lw r
    have dW : ∀ a ∈ Lw, a ∉ L := fun a ha z => nd0.2.2 a z a ha rfl
    have r2 : RepW ⟨X.K, cl⟩ H2 O2 w v Lw := RepW.keep w v Lw (s02.keepL own0 (fun a ha => (owW a ha).1) dW) r
    have nd3 : (L2 ++ Lw).Nodup := nodup_frame s02 nd2 nd0.2.1 (fun a ha => let ⟨_, ys, e⟩ := owW a ha; ⟨_, e⟩) dW
    have pm2 : (L2 ++ Lw).Perm (l :: (M1 ++ M0 ++ Lw)) := (List.Perm.append_right Lw pm)
    have nd4 : (l :: (M1 ++ M0 ++ Lw)).Nodup := pm2.nodup_iff.mp nd3
    have n0 := List.nodup_cons.mp nd4
    have hne : ∀ a ∈ M1 ++ M0 ++ Lw, a ≠ l := fun a ha z => n0.1 (by rw [← z]; exact ha)
    have owM : ∀ a ∈ M1, O2 a := fun a ha => (RepWs.own ws xs M1 rs a ha).1
    have ow2 := RepW.own w v Lw r2
    obtain ⟨N1, N0, N', q1, q2, q3⟩ := RepWs.setAt (H' := upd H2 l (.lst (xs.set j v))) (O' := O2) rs hj (keep_mut hO (fun z => hne l (by simp [z]) rfl) owM) (RepW.keep w v Lw (keep_mut hO (fun z => hne l (by simp [z]) rfl) fun a ha => (ow2 a ha).1) r2)
    obtain ⟨L4, p4, env4⟩ := up (ws.set j w) (xs.set j v) N' O2 (fun _ q => q) (fun _ q _ => q) q3
    have sub : ∀ a ∈ L4, a ∈ L2 ++ Lw := fun a ha => by
      have z := p4.mem_iff.mp ha
      refine pm2.mem_iff.mpr ?_
      simp only [List.mem_cons, List.mem_append] at z ⊢
      rcases z with z | z | z
      · exact .inl z
      · have := q2.mem_iff.mp z
        simp only [List.mem_append] at this
        rcases this with t | t
        · exact .inr (.inr t)
        · exact .inr (.inl (.inl (q1.mem_iff.mpr (by simp [t]))))
      · exact .inr (.inl (.inr z))
    have nd5 : L4.Nodup := by
      refine p4.nodup_iff.mpr (List.nodup_cons.mpr ⟨fun z => ?_, List.nodup_append.mpr ⟨q2.nodup_iff.mpr ?_, ?_, fun a ha b hb e => ?_⟩⟩)
      · rcases List.mem_append.mp z with z | z
        · have := q2.mem_iff.mp z
          simp only [List.mem_append] at this
          rcases this with t | t
          · exact hne l (by simp [t]) rfl
          · exact hne l (by simp [q1.mem_iff.mpr (show l ∈ N1 ++ N0 by simp [t])]) rfl
        · exact hne l (by simp [z]) rfl
      · have nA := List.nodup_append.mp n0.2
        have nB := List.nodup_append.mp nA.1
        refine List.nodup_append.mpr ⟨nA.2.1, (List.nodup_append.mp (q1.nodup_iff.mp nB.1)).2.1, fun a ha b hb e => ?_⟩
        subst e
        exact nA.2.2 a (by simp [q1.mem_iff.mpr (show a ∈ N1 ++ N0 by simp [hb])]) a ha rfl
      · exact (List.nodup_append.mp (List.nodup_append.mp n0.2).1).2.1
      · subst e
        have := q2.mem_iff.mp ha
        simp only [List.mem_append] at this
        rcases this with t | t
        · exact (List.nodup_append.mp n0.2).2.2 a (by simp [hb]) a t rfl
        · exact (List.nodup_append.mp (List.nodup_append.mp n0.2).1).2.2 a (q1.mem_iff.mpr (by simp [t])) a hb rfl
    refine q σ _ O2 L4 ⟨env4, by rw [List.append_nil]; exact nd5, ?_, fun _ _ => rfl, rfl⟩
    rw [List.append_nil]
    exact ((s02.frame Lw).trans (Stp.mut (a := l) (o := .lst (xs.set j v)) (pm2.mem_iff.mpr (by simp)) hl)).perm sub
end
end Mi
namespace PySem
open Sem (wp)
open AutoSeq1 (wpAny_loadPart')
theorem mi_meets_enumT (l : Addr) (items : Array Value) (n : Nat) (dct : Option Addr) (sl : Array (Option Value)) :
    Meets (Builtin.«enumerate.__new__» ⟨[.type "enumerate", .ref l], []⟩) (fun _ R s => s.heap.get? l = some { cls := .type "tuple", dict := dct, data := .seq items n, slots := sl } ∧
      R (.ok (.ret (.ref (s.heap.push { cls := .type "tuple_iterator", data := .fields #[.ref l, .int 0 0] }).objs.size)))
        { s with heap := (s.heap.push { cls := .type "tuple_iterator", data := .fields #[.ref l, .int 0 0] }).push { cls := .type "enumerate", data := .fields #[.none, .bool false, .ref s.heap.objs.size, rawInt 0, .none, .none] } }) :=
  .of_wp fun prog w A R s h => by
    obtain ⟨hp, g, d, tk, os⟩ := s; obtain ⟨hl, h⟩ := h
    have hsub := sub_enumerate
    have hL : Heap.IsTuple (Shared.heap ⟨hp, g, d, tk, os⟩) l items := ⟨_, hl, rfl, n, rfl⟩
    wp_walk using wpAny_loadPart' hl
    refine wpAny_stack_any fun st => wpAny_pure ?_
    split
    · rename_i c _ _ _ _ _
      cases (c == Value.type "enumerate")
      · wp_walk using wpAny_loadPart' hl, wpAny_pyIter_tuple hL
        exact ⟨_, rfl, h⟩
      · wp_walk using wpAny_loadPart' hl, wpAny_pyIter_tuple hL
        exact ⟨_, rfl, h⟩
    · wp_walk using wpAny_loadPart' hl, wpAny_pyIter_tuple hL
      exact ⟨_, rfl, h⟩
section
variable {prog : Program} {w : World} {A : Around} {E : Value → Shared → Prop} {s : Shared}
theorem mi_call_enumT {l : Addr} {items : Array Value} {Q : Value → Shared → Prop} (hL : s.heap.IsTuple l items)
    (h : ∀ h', IsEnum h' (s.heap.objs.size + 1) s.heap.objs.size 0 .none → h'.IsTupleIter s.heap.objs.size l 0 → h'.objs.size = s.heap.objs.size + 2 →
      (∀ b o, s.heap.get? b = some o → h'.get? b = some o) → Q (.ref (s.heap.objs.size + 1)) { s with heap := h' }) :
    wpAny (model prog w) A (call (.type "enumerate") [.ref l]) Q E s := by
  obtain ⟨⟨c, dct, dt, sl⟩, hl, hc, n, hd⟩ := hL
  replace hc : c = .type "tuple" := hc
  replace hd : dt = .seq items n := hd
  subst hc hd
  refine callType_new F.called_enumerate (by decide) (F.typeCall_enumerate_1 _) (F.newCall_enumerate_1 _) (fun obj => F.args_object_init_2 obj _) F.entry_enumerate_new
    (mi_meets_enumT l items n dct sl) ⟨hl, ?_⟩
  have hz : (s.heap.push { cls := .type "tuple_iterator", data := .fields #[.ref l, .int 0 0] }).objs.size = s.heap.objs.size + 1 := Heap.size_push ..
  show _ ∧ _
  rw [hz]
  have he : IsEnum ((s.heap.push { cls := .type "tuple_iterator", data := .fields #[.ref l, .int 0 0] }).push
      { cls := .type "enumerate", data := .fields #[.none, .bool false, .ref s.heap.objs.size, rawInt 0, .none, .none] }) (s.heap.objs.size + 1) s.heap.objs.size 0 .none := by
    have := Heap.get?_push_size (s.heap.push { cls := .type "tuple_iterator", data := .fields #[.ref l, .int 0 0] })
      (o := { cls := .type "enumerate", data := .fields #[.none, .bool false, .ref s.heap.objs.size, rawInt 0, .none, .none] }) rfl
    rw [hz] at this; exact this
  refine ⟨⟨_, he, rfl⟩, h _ he ⟨_, Heap.get?_push_of_some _ (Heap.get?_push_size _ rfl), rfl, rfl⟩ (by rw [Heap.size_push, hz]) fun b o x => Heap.get?_push_of_some _ (Heap.get?_push_of_some _ x)⟩
end
end PySem
namespace Mi
open PySem PySem.Spec PyProof.Rows L2
def IteT (K : PySem.W.Frag) (a : Addr) : It :=
  ⟨fun i H => ∃ (xs : List V) (x : V), SqT K H a xs ∧ xs[i]? = some x, fun i H v H' => ∃ T x, v = .ref T ∧ H T = none ∧ H' = upd H T (.tup [.int (i : Nat), x]) ∧ ∀ xs, SqT K H a xs → xs[i]? = some x, fun i H => ∃ xs : List V, SqT K H a xs ∧ xs.length ≤ i⟩
theorem turn_enumT {P : Program} {w : World} {K : PySem.W.Frag} {elts : List Expr} {kk : Nat} {tpos : Pos} (a e it : Addr) :
    Turn P w K (.Tuple elts kk tpos) (IteT K a) [e, it] e (fun i h => (∃ old, IsEnum h e it ((i : Nat) : Int) old) ∧ h.IsTupleIter it a i ∧ e ≠ it ∧ a ≠ it ∧ a ≠ e) where
  mem := by simp
  obj := fun i h st b hb => by
    obtain ⟨⟨old, he⟩, ⟨o, ho, hc, hd⟩, _⟩ := st
    have e' : b = e ∨ b = it := by simpa using hb
    rcases e' with z | z
    · rw [z]; exact ⟨_, he, fun v q => nomatch q⟩
    · rw [z]; exact ⟨o, ho, fun v q => by rw [hd] at q; cases q⟩
  keep := fun i h h' st k => let ⟨⟨old, he⟩, hi, hne⟩ := st; ⟨⟨old, k e (by simp) _ he⟩, hi.at fun o q => k it (by simp) o q, hne⟩
  item := by
    intro X hP hw hK hc i pins s σ H E I hf st hg
    subst hP hw hK
    obtain ⟨⟨old, he⟩, hit, hne, hai, hae⟩ := st
    obtain ⟨xs, x, hq, hx⟩ := hg
    obtain ⟨its, rv, p, hz⟩ := I.tuple hq
    obtain ⟨u, hu, ru⟩ := rv.get hx
    have hel : e < s.heap.objs.size := Heap.lt_size he
    have hil : it < s.heap.objs.size := by obtain ⟨_, q, _⟩ := hit; exact Heap.lt_size q
    have hcm : X.A.in1.handled = none := I.ok.hd hc
    have hlt : i < its.toArray.size := by
      have := (List.getElem?_eq_some_iff.mp hu).1
      simpa using this
    refine wpAny_pyNext_enum_itemD (Draws.tuple hcm it a hai its.toArray) he ⟨hit, p⟩ hlt hne (by
      intro z
      have e' : e = it ∨ e = a := by simpa using z
      rcases e' with q | q
      · exact hne q
      · exact hae q.symm) fun x' h' tk hP ho hst hT hsz hk => ?_
    have ex : x' = u := by
      have h1 : its[i]? = some x' := by simpa using hP
      rw [hu] at h1
      exact (Option.some.inj h1).symm
    subst ex
    refine ⟨_, rfl, wpAny_letOwnedTupleGo_enum (s := { s with heap := h', toks := tk + 1 }) ho fun h'' he' sb => ?_⟩
    have hT2 : h''.get? s.heap.objs.size = some { cls := .type "tuple", data := .seq #[.int i tk, x'] } := (sb.2 _ (Nat.ne_of_gt hel)).trans hT
    have new : ObjOk X.prog X.w (upd H s.heap.objs.size (.tup [.int (i : Nat), x])) h'' s.heap.objs.size (.tup [.int (i : Nat), x]) :=
      ⟨by show 2 ≤ sizeLine; decide, [.int i tk, x'], .cons ⟨_, rfl⟩ (.cons ru .nil), ⟨_, hT2, rfl, _, rfl⟩⟩
    have I1 : Inv X pins σ (upd H s.heap.objs.size (.tup [.int (i : Nat), x])) { s with heap := h'', toks := tk + 1 } :=
      I.turnedNew (ch := [e, it]) (fun b ob hb q => (sb.2 b (fun z => hb (by simp [z]))).trans (hk b ob (fun z => hb (by simp [z])) (fun z => hb (by simp [z])) q)) hf (Nat.le_refl _) new
    refine ⟨.ref s.heap.objs.size, _, I1, rfl, ⟨_, x, rfl, I.hok.fresh (Nat.le_refl _), rfl, fun ys hy => by rw [I.tuple_inj hy hq]; exact hx⟩, ⟨⟨x', ?_⟩, hst.1.at fun o q => (sb.2 it (Ne.symm hne)).trans q, hne, hai, hae⟩, fun b hb => ?_⟩
    · have e1 : ((i + 1 : Nat) : Int) = (i : Int) + 1 := by omega
      rw [e1]; exact he'
    · have hb' : b < s.heap.objs.size := by
        have e' : b = e ∨ b = it := by simpa using hb
        rcases e' with z | z
        · rw [z]; exact hel
        · rw [z]; exact hil
      rw [upd_ne (Nat.ne_of_lt hb')]
      exact (hf b hb).1
  done := by
    intro X hP hw hK hc i pins s σ H E I hf st hg
    subst hP hw hK
    obtain ⟨⟨old, he⟩, hit, hne, hai, hae⟩ := st
    obtain ⟨xs, hq, hx⟩ := hg
    obtain ⟨its, rv, p, hz⟩ := I.tuple hq
    obtain ⟨f0, f1, f2, f3, f4, f5⟩ := hf it (by simp)
    have hl := rv.length
    have hT : s.TypeIs (.ref e) "enumerate" := ⟨_, he, rfl⟩
    have hcm : X.A.in1.handled = none := I.ok.hd hc
    unfold pyNext
    refine wpAny_bind (wpAny_attempt (wpAny_callSpecial?_slot (name := Str.ofString "__next__") hT F.slot_enumerate_next
      (wpAny_call_entry F.slot_enumerate_next hT F.entry_enumerate_next ?_ (F.args_enumerate_next_1 _))))
    show wpAny _ _ (field (.ref e) 2 >>= _) _ _ _
    refine wpAny_bind (wpAny_field he rfl (x := .ref it) rfl ?_)
    refine wpAny_bind (wpAny_nextOf_tuple_end hcm hit p (by simp; omega) fun h' x he' hx' => ?_)
    obtain ⟨o, ho, hc'⟩ := hx'
    refine wpAny_bind (wpAny_isInstance (T := "StopIteration") (b := true) ⟨o, ho, hc'⟩ isSubtype_stop ?_)
    exact wpAny_pure ⟨rfl, I.turned (t' := s.toks) (fun b o hb q => he' b o hb q) f0 f1 f3 f4 f5⟩
  self := fun A i s Q E st h => let ⟨⟨_, he⟩, _⟩ := st; wpAny_pyIter_enum he h
def iEnumT (K : PySem.W.Frag) (ta : TA) : TI := fun σ H R => ta σ H fun vs H1 => ∃ a xs, vs = [.ref a] ∧ SqT K H1 a xs ∧ R (IteT K a) H1
theorem pi_enumT {X : Cx} {e : Expr} {ta : TA} {p pos tpos : Pos} {elts : List Expr} {kk : Nat} (hg : Gl X "enumerate") (hm : X.mg "enumerate" = none) (ha : PA X [e] ta) (hs : starEach [e] X.env = [(false, eval e X.env)] := by rfl) :
    PI X (.Tuple elts kk tpos) (.Call (.Name "enumerate" p) [e] [] pos) (iEnumT X.K ta) := by
  refine ⟨fun pins s σ H R I h => ?_⟩
  refine Call_ (ld_blt I hg hm boot_enumerate (PyProof.Rows.callWith_type1 (thn (ha.run pos pins s σ H _ I h) fun us s1 ⟨vs, H1, I1, r1, q1⟩ => ?_) hs rfl))
  obtain ⟨a, xs, ex, hq, q⟩ := q1
  subst ex
  cases r1 with
  | cons r rr =>
    cases rr
    cases r
    obtain ⟨its, rv, p', hz⟩ := I1.tuple hq
    have hal : a < s1.heap.objs.size := p'.lt
    refine mi_call_enumT p' fun h' he hit hsz hk => wpAny_pyIter_enum he ?_
    have I2 : Inv X pins σ H1 { s1 with heap := h' } := I1.kept (t' := s1.toks) hk
    refine ⟨s1.heap.objs.size + 1, [s1.heap.objs.size + 1, s1.heap.objs.size], _, _, H1, rfl, I2, turn_enumT a (s1.heap.objs.size + 1) s1.heap.objs.size, ⟨⟨.none, he⟩, hit, Nat.succ_ne_self _, Nat.ne_of_lt hal, Nat.ne_of_lt (Nat.lt_succ_of_lt hal)⟩, fun b hb => ?_, q⟩
    have e' : b = s1.heap.objs.size + 1 ∨ b = s1.heap.objs.size := by simpa using hb
    have hle : s1.heap.objs.size ≤ b := by
      rcases e' with z | z
      · rw [z]; exact Nat.le_add_right _ _
      · rw [z]; exact Nat.le_refl _
    exact I1.fpOk hle (I1.hok.fresh hle)
end Mi
namespace Mi
open PySem PySem.Spec PyProof.Rows L2
def isI : W → Bool
  | .fz (.int _) => true
  | _ => false
def isS : W → Bool
  | .fz (.str _) => true
  | _ => false
def isT : W → Bool
  | .fz (.tup _) => true
  | _ => false
def fStrAdd : W → W → Res W
  | .fz (.str a), .fz (.str b) => if a.length + b.length ≤ 16777216 then .ok (.fz (.str (a ++ b))) else .err
  | _, _ => .err
def fTupAdd : W → W → Res W
  | .fz (.tup a), .fz (.tup b) => if a.length + b.length ≤ 16777216 then .ok (.fz (.tup (a ++ b))) else .err
  | _, _ => .err
def fLstAdd (x y : W) : Res W := match lstV x, lstV y with
  | some a, some b => if a.length + b.length ≤ 16777216 then .ok (.lst ((a ++ b).map W.fz)) else .err
  | _, _ => .err
def fAdd : W → W → Res W := fun x y => if isI x then fI (fun i j => .ok (.int (i + j))) x y else if isS x then fStrAdd x y else if isT x then fTupAdd x y else fLstAdd x y
def fSub : W → W → Res W := fI fun i j => .ok (.int (i - j))
def fNeg : W → Res W
  | .fz (.int i) => .ok (.fz (.int (-i)))
  | _ => .err
def fLstMul (x y : W) : Res W := match lstV x, y with
  | some a, .fz (.int k) => if -(2 ^ 63) ≤ k ∧ k < 2 ^ 63 ∧ a.length * k.toNat ≤ 16777216 then .ok (.lst ((List.replicate k.toNat a).flatten.map W.fz)) else .err
  | _, _ => .err
def fTupMul : W → W → Res W
  | .fz (.tup a), .fz (.int k) => if a ≠ [] ∧ 2 ≤ k ∧ k ≤ 1000 ∧ a.length ≤ 1000 then .ok (.fz (.tup (List.replicate k.toNat a).flatten)) else .err
  | _, _ => .err
def fMul : W → W → Res W := fun x y => if isI x then fI (fun i j => if CMul i j then .ok (.int (i * j)) else if CMulW i j then .ok (.int (i * j)) else .err) x y else if isT x then fTupMul x y else fLstMul x y
def fDiv : W → W → Res W := fI fun i j => if CDivW i j then .ok (.int (i / j)) else .err
def fMod : W → W → Res W := fI fun i j => if 0 < j then .ok (.int (i % j)) else .err
def fPow : W → W → Res W := fI fun i j => if CPow i j then .ok (.int (i ^ j.toNat)) else .err
def fLt : W → W → Res W := fI fun i j => .ok (.bl (decide (i < j)))
def fLe : W → W → Res W := fI fun i j => .ok (.bl (decide (i ≤ j)))
def fGt : W → W → Res W := fI fun i j => .ok (.bl (decide (j < i)))
def fGe : W → W → Res W := fI fun i j => .ok (.bl (decide (j ≤ i)))
mutual
def py : D → Option PyData
  | .non => some .none
  | .bl b => some (.bool b)
  | .int i => some (.int i)
  | .str s => some (.str s)
  | .tup ds => match pys ds with
    | some ps => some (.tuple ps)
    | none => none
  | .lst ds => match pys ds with
    | some ps => some (.list ps)
    | none => none
  | .scr ds => match pys ds with
    | some ps => some (.list ps)
    | none => none
  | .obj _ _ => none
  | .exc _ _ => none
  | .dct _ _ => none
def pys : List D → Option (List PyData)
  | [] => some []
  | d :: ds => match py d with
    | some p => match pys ds with
      | some ps => some (p :: ps)
      | none => none
    | none => none
end
mutual
theorem RepD.dp {C : Cfg} {H : Hp} {O : AP} : ∀ (d : D) (v : V) (p : PyData), RepD C H O d v → py d = some p → Dp C.K H v p
  | .non, v, p, h, e => by cases h; cases e; exact .non
  | .bl b, v, p, h, e => by cases h; cases e; exact .bl b
  | .int i, v, p, h, e => by cases h; cases e; exact .int i
  | .str s, v, p, h, e => by cases h; cases e; exact .str s
  | .tup ds, v, p, h, e => by
    obtain ⟨a, xs, e1, t, r⟩ := h
    subst e1
    simp only [py] at e
    cases q : pys ds with
    | none => rw [q] at e; cases e
    | some ps => rw [q] at e; cases e; exact .tup t.sq (RepDs.dp ds xs ps r q)
  | .lst ds, v, p, h, e => by
    obtain ⟨a, xs, e1, t, n, r⟩ := h
    subst e1
    simp only [py] at e
    cases q : pys ds with
    | none => rw [q] at e; cases e
    | some ps => rw [q] at e; cases e; exact .lst (SqL.of t) (RepDs.dp ds xs ps r q)
  | .scr ds, v, p, h, e => by
    obtain ⟨a, xs, e1, t, r⟩ := h
    subst e1
    simp only [py] at e
    cases q : pys ds with
    | none => rw [q] at e; cases e
    | some ps => rw [q] at e; cases e; exact .lst t.sq (RepDs.dp ds xs ps r q)
  | .obj _ _, v, p, h, e => by cases e
  | .exc _ _, v, p, h, e => by cases e
  | .dct _ _, v, p, h, e => by cases e
theorem RepDs.dp {C : Cfg} {H : Hp} {O : AP} : ∀ (ds : List D) (vs : List V) (ps : List PyData), RepDs C H O ds vs → pys ds = some ps → DpAll C.K H vs ps
  | [], vs, ps, h, e => by rw [show vs = [] from h]; cases e; exact .nil
  | d :: ds, vs, ps, h, e => by
    obtain ⟨x, r, e1, h1, h2⟩ := h
    subst e1
    simp only [pys] at e
    cases q : py d with
    | none => rw [q] at e; cases e
    | some p =>
      rw [q] at e
      cases q2 : pys ds with
      | none => rw [q2] at e; cases e
      | some ps' => rw [q2] at e; cases e; exact .cons (RepD.dp d x p h1 q) (RepDs.dp ds r ps' h2 q2)
end
def eqW (x y : W) : Res Bool := match py (frz x), py (frz y) with
  | some a, some b => if (SeqAt.shaped a && SeqAt.shaped b) = true then .ok (PyData.eqv a b) else .err
  | _, _ => .err
def fEq (x y : W) : Res W := (eqW x y).bind fun b => .ok (.fz (.bl b))
def fNe (x y : W) : Res W := (eqW x y).bind fun b => .ok (.fz (.bl (!b)))
def isNonW : W → Bool
  | .fz .non => true
  | _ => false
def fIsN (x y : W) : Res W := if isNonW y = true then .ok (.fz (.bl (isNonW x))) else .err
def fNotN (x y : W) : Res W := if isNonW y = true then .ok (.fz (.bl (!isNonW x))) else .err
section
variable {C : Cfg} {X : Cx}
theorem ops_strAdd : OpS C (fun x y H Q => ∃ i j, x = .str i ∧ y = .str j ∧ i.length + j.length ≤ sizeLine ∧ Q (.str (i ++ j)) H) fStrAdd := by
  intro H O x y wx wy w Lx Ly Q rx ry e q
  unfold fStrAdd at e
  split at e
  · rename_i a b
    split at e
    · rename_i hl
      cases e
      exact ⟨a, b, rx.2, ry.2, by rw [sizeLine_eq]; exact hl, gr_same (show RepD C H O (.str (a ++ b)) (.str (a ++ b)) from rfl) q⟩
    · cases e
  · cases e
theorem ops_tupAdd : OpS C (rCatA C.K) fTupAdd := by
  intro H O x y wx wy w Lx Ly Q rx ry e q
  unfold fTupAdd at e
  split at e
  · rename_i a b
    split at e
    · rename_i hl
      cases e
      obtain ⟨_, p1, xs, e1, t1, r1⟩ := rx
      obtain ⟨_, p2, ys, e2, t2, r2⟩ := ry
      have l1 := r1.length
      have l2 := r2.length
      refine ⟨p1, p2, xs, ys, e1, e2, t1.sq, t2.sq, by rw [sizeLine_eq]; omega, fun hx => ?_, fun hx hy => ?_, fun hx hy p hp => ?_⟩
      · subst hx
        have : a = [] := by cases a with | nil => rfl | cons _ _ => simp at l1
        subst this
        exact gr_same (show RepD C H O (.tup ([] ++ b)) (.ref p2) from ⟨p2, ys, rfl, t2, r2⟩) q
      · subst hy
        have : b = [] := by cases b with | nil => rfl | cons _ _ => simp at l2
        subst this
        exact gr_same (show RepD C H O (.tup (a ++ [])) (.ref p1) from ⟨p1, xs, rfl, t1, by rw [List.append_nil]; exact r1⟩) q
      · exact q (.ref p) _ _ [] (new_tup hp (RepDs.append r1 r2)) (Gr.new hp)
    · cases e
  · cases e
theorem ops_lstAdd : OpS C rCat fLstAdd := by
  intro H O x y wx wy w Lx Ly Q rx ry e q
  unfold fLstAdd at e
  split at e
  · rename_i a b ha hb
    split at e
    · rename_i hl
      cases e
      obtain ⟨p1, xs, e1, t1, r1⟩ := lstV_rep rx ha
      obtain ⟨p2, ys, e2, t2, r2⟩ := lstV_rep ry hb
      exact ⟨p1, p2, xs, ys, e1, e2, t1, t2, by rw [sizeLine_eq, r1.length, r2.length]; exact hl, fun p hp => q (.ref p) _ _ [p] (new_lst hp (RepDs.append r1 r2)) (Gr.newO hp)⟩
    · cases e
  · cases e
def rAddA (K : PySem.W.Frag) : R2 := fun x y H Q => (rI0 (fun i j => .int (i + j))) x y H Q ∨ (fun x y H Q => (∃ i j, x = .str i ∧ y = .str j ∧ i.length + j.length ≤ sizeLine ∧ Q (.str (i ++ j)) H) ∨ (fun x y H Q => rCatA K x y H Q ∨ rCat x y H Q) x y H Q) x y H Q
theorem ops_add : OpS C (rAddA C.K) fAdd := OpS.or (ops_I0 (gd := fun i j => .int (i + j)) fun _ _ _ _ => rfl) (OpS.or ops_strAdd (OpS.or ops_tupAdd ops_lstAdd fun x _ => isT x) fun x _ => isS x) fun x _ => isI x
theorem opr_add : OpR X (binaryOp .Add) (rAddA X.K) := op_add.or (op_add_str.or (op_catA.or op_cat))
theorem ops_sub : OpS C (rI0 fun i j => .int (i - j)) fSub := ops_I0 fun _ _ _ _ => rfl
theorem uns_neg : UnS C (rU fun i => .int (-i)) fNeg := by
  intro H O x wx w Lx Q rx e q
  unfold fNeg at e
  split at e
  · rename_i i
    cases e
    exact ⟨i, rx.2, gr_same (show RepD C H O (.int (-i)) (.int (-i)) from rfl) q⟩
  · cases e
theorem RepDs.rep {H : Hp} {O : AP} {ds : List D} {xs : List V} (h : RepDs C H O ds xs) : ∀ k : Nat, RepDs C H O (List.replicate k ds).flatten (List.replicate k xs).flatten
  | 0 => rfl
  | k + 1 => by rw [List.replicate_succ, List.replicate_succ, List.flatten_cons, List.flatten_cons]; exact RepDs.append h (RepDs.rep h k)
theorem ops_lstMul : OpS C rRep fLstMul := by
  intro H O x y wx wy w Lx Ly Q rx ry e q
  unfold fLstMul at e
  split at e
  · rename_i a k ha
    split at e
    · rename_i hl
      cases e
      obtain ⟨p1, xs, e1, t1, r1⟩ := lstV_rep rx ha
      exact ⟨p1, k, xs, e1, ry.2, t1, hl.1, hl.2.1, by rw [sizeLine_eq, r1.length]; exact hl.2.2, fun p hp => q (.ref p) _ _ [p] (new_lst hp (RepDs.rep r1 _)) (Gr.newO hp)⟩
    · cases e
  · cases e
theorem ops_tupMul : OpS C (rRepT C.K) fTupMul := by
  intro H O x y wx wy w Lx Ly Q rx ry e q
  unfold fTupMul at e
  split at e
  · rename_i a k
    split at e
    · rename_i hl
      cases e
      obtain ⟨_, p1, xs, e1, t1, r1⟩ := rx
      have l1 := r1.length
      refine ⟨p1, k, xs, e1, ry.2, t1.sq, fun z => hl.1 ?_, hl.2.1, hl.2.2.1, by rw [l1]; exact hl.2.2.2, fun p hp => q (.ref p) _ _ [] (new_tup hp (RepDs.rep r1 _)) (Gr.new hp)⟩
      subst z
      cases a with
      | nil => rfl
      | cons _ _ => simp at l1
    · cases e
  · cases e
def rMulI : R2 := fun x y H Q => (rI CMul fun i j => .int (i * j)) x y H Q ∨ (rI CMulW fun i j => .int (i * j)) x y H Q
theorem ops_mulI : OpS C rMulI (fI fun i j => if CMul i j then .ok (.int (i * j)) else if CMulW i j then .ok (.int (i * j)) else .err) := by
  intro H O x y wx wy w Lx Ly Q rx ry e q
  obtain ⟨i, j, d, rfl, rfl, e1, rfl⟩ := fI_ok e
  by_cases h1 : CMul i j
  · rw [if_pos h1] at e1; cases e1
    exact .inl ⟨i, j, rx.2, ry.2, h1, gr_same (show RepD C H O (.int (i * j)) (.int (i * j)) from rfl) q⟩
  · rw [if_neg h1] at e1
    by_cases h2 : CMulW i j
    · rw [if_pos h2] at e1; cases e1
      exact .inr ⟨i, j, rx.2, ry.2, h2, gr_same (show RepD C H O (.int (i * j)) (.int (i * j)) from rfl) q⟩
    · rw [if_neg h2] at e1; cases e1
def rMulA (K : PySem.W.Frag) : R2 := fun x y H Q => rMulI x y H Q ∨ (fun x y H Q => rRepT K x y H Q ∨ rRep x y H Q) x y H Q
theorem ops_mul : OpS C (rMulA C.K) fMul := OpS.or ops_mulI (OpS.or ops_tupMul ops_lstMul fun x _ => isT x) fun x _ => isI x
theorem opr_mul : OpR X (binaryOp .Mult) (rMulA X.K) := (op_mul.or op_mulW).or (op_repT.or op_rep)
theorem ops_div : OpS C (rI CDivW fun i j => .int (i / j)) fDiv := ops_I fun _ _ _ _ => rfl
theorem ops_mod : OpS C (rI (fun _ j => 0 < j) fun i j => .int (i % j)) fMod := ops_I (P := fun _ j => 0 < j) fun _ _ _ _ => rfl
theorem ops_pow : OpS C (rI CPow fun i j => .int (i ^ j.toNat)) fPow := ops_I fun _ _ _ _ => rfl
theorem ops_lt : OpS C (rI0 fun i j => .bl (decide (i < j))) fLt := ops_I0 fun _ _ _ _ => rfl
theorem ops_gt : OpS C (rI0 fun i j => .bl (decide (j < i))) fGt := ops_I0 fun _ _ _ _ => rfl
theorem ops_ge : OpS C (rI0 fun i j => .bl (decide (j ≤ i))) fGe := ops_I0 fun _ _ _ _ => rfl
theorem eqW_rep {H : Hp} {O : AP} {x y : V} {wx wy : W} {Lx Ly : List Addr} {b : Bool} (rx : RepW C H O wx x Lx) (ry : RepW C H O wy y Ly) (e : eqW wx wy = .ok b) : ∃ p q, Dp C.K H x p ∧ Dp C.K H y q ∧ SeqAt.shaped p = true ∧ SeqAt.shaped q = true ∧ PyData.eqv p q = b := by
  unfold eqW at e
  split at e
  · rename_i p q hp hq
    split at e
    · rename_i hs
      cases e
      obtain ⟨s1, s2⟩ := Bool.and_eq_true_iff.mp hs
      have rx' : RepD C H (Less O Lx) (frz wx) x := RepW.frz wx x Lx (fun a z => z) rx
      have ry' : RepD C H (Less O Ly) (frz wy) y := RepW.frz wy y Ly (fun a z => z) ry
      exact ⟨p, q, RepD.dp _ _ _ rx' hp, RepD.dp _ _ _ ry' hq, s1, s2, rfl⟩
    · cases e
  · cases e
theorem ops_eq : OpS C (rEqD C.K) fEq := by
  intro H O x y wx wy w Lx Ly Q rx ry e q
  obtain ⟨b, e1, e2⟩ := Res.of_bind e
  cases e2
  obtain ⟨p, p', h1, h2, h3, h4, h5⟩ := eqW_rep rx ry e1
  subst h5
  exact ⟨p, p', h1, h2, h3, h4, gr_same (show RepD C H O (.bl (PyData.eqv p p')) (.bl (PyData.eqv p p')) from rfl) q⟩
theorem ops_ne : OpS C (rNeD C.K) fNe := by
  intro H O x y wx wy w Lx Ly Q rx ry e q
  obtain ⟨b, e1, e2⟩ := Res.of_bind e
  cases e2
  obtain ⟨p, p', h1, h2, h3, h4, h5⟩ := eqW_rep rx ry e1
  subst h5
  exact ⟨p, p', h1, h2, h3, h4, gr_same (show RepD C H O (.bl (!PyData.eqv p p')) (.bl (!PyData.eqv p p')) from rfl) q⟩
theorem non_rep {H : Hp} {O : AP} {x : V} {wx : W} {Lx : List Addr} (rx : RepW C H O wx x Lx) : decide (x = .non) = isNonW wx := by
  cases wx with
  | lst ws => obtain ⟨a, _, _, e, _⟩ := rx; subst e; rfl
  | fz d =>
    cases d with
    | non => obtain ⟨_, e⟩ := rx; cases e; rfl
    | bl b => obtain ⟨_, e⟩ := rx; cases e; rfl
    | int i => obtain ⟨_, e⟩ := rx; cases e; rfl
    | str s => obtain ⟨_, e⟩ := rx; cases e; rfl
    | tup ds => obtain ⟨_, a, _, e, _⟩ := rx; subst e; rfl
    | lst ds => obtain ⟨_, a, _, e, _⟩ := rx; subst e; rfl
    | scr ds => obtain ⟨_, a, _, e, _⟩ := rx; subst e; rfl
    | obj c fs => obtain ⟨_, a, _, _, e, _⟩ := rx; subst e; rfl
    | exc c fs => obtain ⟨_, a, _, _, e, _⟩ := rx; subst e; rfl
    | dct ks ds => obtain ⟨_, a, _, e, _⟩ := rx; subst e; rfl
theorem ops_isN : OpS C (fun x y H Q => y = .non ∧ Q (.bl (decide (x = .non))) H) fIsN := by
  intro H O x y wx wy w Lx Ly Q rx ry e q
  unfold fIsN at e
  split at e
  · rename_i hn
    cases e
    have hy := non_rep ry
    rw [hn] at hy
    refine ⟨of_decide_eq_true hy, ?_⟩
    rw [non_rep rx]
    exact gr_same (show RepD C H O (.bl _) (.bl _) from rfl) q
  · cases e
end
def fLen : List W → Res W
  | [.fz (.str s)] => if s.length ≤ 16777216 then .ok (.fz (.int s.length)) else .err
  | [x] => match seqV x with
    | some ds => .ok (.fz (.int ds.length))
    | none => .err
  | _ => .err
def fAbs : List W → Res W
  | [.fz (.int i)] => .ok (.fz (.int (if i < 0 then -i else i)))
  | _ => .err
def fMax2 : List W → Res W
  | [.fz (.int i), .fz (.int j)] => .ok (.fz (.int (if j > i then j else i)))
  | _ => .err
def fMin2 : List W → Res W
  | [.fz (.int i), .fz (.int j)] => .ok (.fz (.int (if j < i then j else i)))
  | _ => .err
def fInt : List W → Res W
  | [.fz (.int i)] => .ok (.fz (.int i))
  | [.fz (.bl k)] => .ok (.fz (.int (if k then 1 else 0)))
  | _ => .err
def blsD : List D → Option (List Bool)
  | [] => some []
  | .bl i :: ds => match blsD ds with
    | some ns => some (i :: ns)
    | none => none
  | _ :: _ => none
def lsV : W → Option (List D)
  | .fz (.scr ds) => some ds
  | w => lstV w
def fAll : List W → Res W
  | [x] => match lsV x with
    | some ds => match blsD ds with
      | some ns => .ok (.fz (.bl (ns.all id)))
      | none => .err
    | none => .err
  | _ => .err
def fTuple : List W → Res W
  | [x] => match seqV x with
    | some ds => .ok (.fz (.tup ds))
    | none => .err
  | _ => .err
def fList : List W → Res W
  | [x] => match seqV x with
    | some ds => .ok (.lst (ds.map W.fz))
    | none => .err
  | _ => .err
section
variable {C : Cfg} {H : Hp} {O : AP}
theorem lsV_rep {w : W} {x : V} {L : List Addr} {ds : List D} (h : RepW C H O w x L) (e : lsV w = some ds) : ∃ a xs, x = .ref a ∧ SqL C.K H a xs ∧ RepDs C H O ds xs := by
  have gen : ∀ w, RepW C H O w x L → lstV w = some ds → ∃ a xs, x = .ref a ∧ SqL C.K H a xs ∧ RepDs C H O ds xs := fun w h e => by
    obtain ⟨a, xs, e1, h1, r⟩ := lstV_rep h e
    exact ⟨a, xs, e1, SqL.of h1, r⟩
  cases w with
  | lst ws => exact gen _ h e
  | fz d =>
    cases d with
    | scr es =>
      cases e
      obtain ⟨_, a, xs, e1, h1, r⟩ := h
      exact ⟨a, xs, e1, h1.sq, r⟩
    | _ => exact gen _ h e
theorem blsD_rep : ∀ {ds : List D} {xs : List V} {ns : List Bool}, RepDs C H O ds xs → blsD ds = some ns → xs = ns.map V.bl
  | [], xs, ns, h, e => by cases e; exact h
  | d :: ds, xs, ns, h, e => by
    obtain ⟨x, r, e1, h1, h2⟩ := h
    subst e1
    cases d with
    | bl i =>
      simp only [blsD] at e
      cases q : blsD ds with
      | none => rw [q] at e; cases e
      | some ms => rw [q] at e; cases e; rw [blsD_rep h2 q, show x = .bl i from h1]; rfl
    | _ => cases e
end
section
variable {C : Cfg} {X : Cx}
theorem cs_len : CallS C (fun xs H Q => (∃ p ys, xs = [.ref p] ∧ (SqL C.K H p ys ∨ SqT C.K H p ys) ∧ Q (.int ys.length) H) ∨ ∃ z, xs = [.str z] ∧ z.length ≤ sizeLine ∧ Q (.int z.length) H) fLen := by
  intro H O vs ws w Q r e q
  unfold fLen at e
  split at e
  · rename_i s
    obtain ⟨v, vr, L, e1, r1, r2⟩ := r
    rw [show vr = [] from r2] at e1
    split at e
    · rename_i hs
      cases e
      exact .inr ⟨s, by rw [e1, r1.2], by rw [sizeLine_eq]; exact hs, gr_same (show RepD C H O (.int s.length) (.int s.length) from rfl) q⟩
    · cases e
  · rename_i x _
    obtain ⟨v, vr, L, e1, r1, r2⟩ := r
    rw [show vr = [] from r2] at e1
    split at e
    · rename_i ds hd
      cases e
      obtain ⟨a, xs, e2, h1, rs⟩ := seqV_rep r1 hd
      refine .inl ⟨a, xs, by rw [e1, e2], h1, ?_⟩
      rw [rs.length]
      exact gr_same (show RepD C H O (.int ds.length) (.int ds.length) from rfl) q
    · cases e
  · cases e
theorem cr_lenA : CallR X (.builtin "len") (fun xs H Q => (∃ p ys, xs = [.ref p] ∧ (SqL X.K H p ys ∨ SqT X.K H p ys) ∧ Q (.int ys.length) H) ∨ ∃ z, xs = [.str z] ∧ z.length ≤ sizeLine ∧ Q (.int z.length) H) := call_len_seq.or call_len_str
theorem cs_abs : CallS C (fun xs H Q => ∃ i, xs = [.int i] ∧ Q (.int (if i < 0 then -i else i)) H) fAbs := by
  intro H O vs ws w Q r e q
  unfold fAbs at e
  split at e
  · rename_i i
    cases e
    obtain ⟨v, vr, L, e1, r1, r2⟩ := r
    rw [show vr = [] from r2, show v = .int i from r1.2] at e1
    exact ⟨i, e1, gr_same (show RepD C H O (.int _) (.int _) from rfl) q⟩
  · cases e
theorem cs_max2 : CallS C (fun xs H Q => ∃ i j, xs = [.int i, .int j] ∧ Q (.int (if j > i then j else i)) H) fMax2 := by
  intro H O vs ws w Q r e q
  unfold fMax2 at e
  split at e
  · rename_i i j
    cases e
    obtain ⟨v, vr, L, e1, r1, v2, vr2, L2, e2, r2, r3⟩ := r
    rw [e2, show vr2 = [] from r3, show v = .int i from r1.2, show v2 = .int j from r2.2] at e1
    exact ⟨i, j, e1, gr_same (show RepD C H O (.int _) (.int _) from rfl) q⟩
  · cases e
theorem cs_min2 : CallS C (fun xs H Q => ∃ i j, xs = [.int i, .int j] ∧ Q (.int (if j < i then j else i)) H) fMin2 := by
  intro H O vs ws w Q r e q
  unfold fMin2 at e
  split at e
  · rename_i i j
    cases e
    obtain ⟨v, vr, L, e1, r1, v2, vr2, L2, e2, r2, r3⟩ := r
    rw [e2, show vr2 = [] from r3, show v = .int i from r1.2, show v2 = .int j from r2.2] at e1
    exact ⟨i, j, e1, gr_same (show RepD C H O (.int _) (.int _) from rfl) q⟩
  · cases e
theorem cs_int : CallS C (fun xs H Q => (∃ i, xs = [.int i] ∧ Q (.int i) H) ∨ ∃ k, xs = [.bl k] ∧ Q (.int (if k then 1 else 0)) H) fInt := by
  intro H O vs ws w Q r e q
  unfold fInt at e
  split at e
  · rename_i i
    cases e
    obtain ⟨v, vr, L, e1, r1, r2⟩ := r
    rw [show vr = [] from r2, show v = .int i from r1.2] at e1
    exact .inl ⟨i, e1, gr_same (show RepD C H O (.int _) (.int _) from rfl) q⟩
  · rename_i i
    cases e
    obtain ⟨v, vr, L, e1, r1, r2⟩ := r
    rw [show vr = [] from r2, show v = .bl i from r1.2] at e1
    exact .inr ⟨i, e1, gr_same (show RepD C H O (.int _) (.int _) from rfl) q⟩
  · cases e
theorem cs_all : CallS C (rAll C.K) fAll := by
  intro H O vs ws w Q r e q
  unfold fAll at e
  split at e
  · rename_i x
    split at e
    · rename_i ds hd
      split at e
      · rename_i ns hn
        cases e
        obtain ⟨v, vr, L, e1, r1, r2⟩ := r
        rw [show vr = [] from r2] at e1
        obtain ⟨a, xs, e2, h1, rs⟩ := lsV_rep r1 hd
        rw [blsD_rep rs hn] at h1
        exact ⟨a, ns, by rw [e1, e2], h1, gr_same (show RepD C H O (.bl _) (.bl _) from rfl) q⟩
      · cases e
    · cases e
  · cases e
theorem cs_tuple : CallS C (fun xs H Q => ∃ p ys, xs = [.ref p] ∧ ((SqL C.K H p ys ∧ ∀ l, H l = none → Q (.ref l) (upd H l (.tup ys))) ∨ (SqT C.K H p ys ∧ Q (.ref p) H))) fTuple := by
  intro H O vs ws w Q r e q
  unfold fTuple at e
  split at e
  · rename_i x
    split at e
    · rename_i ds hd
      cases e
      obtain ⟨v, vr, L, e1, r1, r2⟩ := r
      rw [show vr = [] from r2] at e1
      by_cases ht : isT x = true
      · cases x with
        | lst _ => cases ht
        | fz d =>
          cases d with
          | tup es =>
            cases hd
            obtain ⟨_, a, xs, e2, t, rs⟩ := r1
            exact ⟨a, xs, by rw [e1, e2], .inr ⟨t.sq, gr_same (show RepD C H O (.tup ds) (.ref a) from ⟨a, xs, rfl, t, rs⟩) q⟩⟩
          | _ => cases ht
      · have hl : lsV x = some ds := by
          cases x with
          | lst ws => exact hd
          | fz d =>
            cases d with
            | tup es => exact absurd rfl ht
            | _ => exact hd
        obtain ⟨a, xs, e2, h1, rs⟩ := lsV_rep r1 hl
        exact ⟨a, xs, by rw [e1, e2], .inl ⟨h1, fun l hp => q (.ref l) _ _ [] (new_tup hp rs) (Gr.new hp)⟩⟩
    · cases e
  · cases e
theorem cs_list : CallS C (fun xs H Q => ∃ p ys, xs = [.ref p] ∧ (SqL C.K H p ys ∨ SqT C.K H p ys) ∧ ∀ l, H l = none → Q (.ref l) (upd H l (.lst ys))) fList := by
  intro H O vs ws w Q r e q
  unfold fList at e
  split at e
  · rename_i x
    split at e
    · rename_i ds hd
      cases e
      obtain ⟨v, vr, L, e1, r1, r2⟩ := r
      rw [show vr = [] from r2] at e1
      obtain ⟨a, xs, e2, h1, rs⟩ := seqV_rep r1 hd
      exact ⟨a, xs, by rw [e1, e2], h1, fun l hp => q (.ref l) _ _ [l] (new_lst hp rs) (Gr.newO hp)⟩
    · cases e
  · cases e
end
end Mi
namespace Mi
open PySem PySem.Spec PyProof.Rows L2
def cutD (ds : List D) (lo hi : Option Int) : List D := (ds.drop (HT.sIx ds.length 0 lo)).take (HT.sIx ds.length ds.length hi - HT.sIx ds.length 0 lo)
theorem RepDs.cut {C : Cfg} {H : Hp} {O : AP} {ds : List D} {xs : List V} (h : RepDs C H O ds xs) (lo hi : Option Int) : RepDs C H O (cutD ds lo hi) (cutV xs lo hi) := by
  unfold cutD cutV
  rw [h.length]
  exact RepDs.take _ (RepDs.drop _ h)
abbrev CO := En → Res (Option Int × En)
def tO (C : Cfg) (qt : Bool) (c : CO) : TO := fun σ H Q => ∃ O L ρ o ρ', EnvR C H O ρ σ L ∧ L.Nodup ∧ c ρ = .ok (o, ρ') ∧ ∀ H' O' L', PostT C σ H O L ρ qt ρ' H' O' L' → Q o H'
def SO (X : Cx) (cl : Nat → Addr) (qt : Bool) (e : Option Expr) (c : CO) : Prop := PO X e (tO ⟨X.K, cl⟩ qt c)
theorem PO.imp {X : Cx} {e : Option Expr} {t t' : TO} (h : PO X e t) (k : ∀ σ H Q, t' σ H Q → t σ H Q) : PO X e t' := by
  obtain ⟨r⟩ := h
  exact ⟨fun pins s σ H Q I q => r pins s σ H Q I (k σ H Q q)⟩
def oNone : CO := fun ρ => .ok (none, ρ)
def oSome (c : CE) : CO := fun ρ => (c ρ).bind fun (b, ρ1) => (intOf b).bind fun k => .ok (some k, ρ1)
def SlS (C : Cfg) (r : V → Option Int → Option Int → Hp → VK → Prop) (f : W → Option Int → Option Int → Res W) : Prop := ∀ (H : Hp) (O : AP) (x : V) (wx w : W) (lo hi : Option Int) (Lx : List Addr) (Q : VK), RepW C H O wx x Lx → f wx lo hi = .ok w →
  (∀ v H' O' Lw, RepW C H' O' w v Lw → Gr H O H' O' Lw → Q v H') → r x lo hi H Q
def cSl (f : W → Option Int → Option Int → Res W) (qs : Bool) (ca : CE) (cl ch : CO) : CE := fun ρ => (ca ρ).bind fun (a, ρ1) => (pend qs a).bind fun _ => (cl ρ1).bind fun (lo, ρ2) => (ch ρ2).bind fun (hi, ρ3) => (cont a ρ3).bind fun x => (f x lo hi).bind fun w => .ok (.tmp w, ρ3)
def fSl (x : W) (lo hi : Option Int) : Res W := if isT x = true then (match tupV x with
  | some ds => .ok (.fz (.tup (cutD ds lo hi)))
  | none => .err) else match lsV x with
  | some ds => .ok (.lst ((cutD ds lo hi).map W.fz))
  | none => .err
section
variable {X : Cx} {cl : Nat → Addr} {e : Expr} {ca : CE} {qa : Bool} {pos : Pos}
theorem so_none : SO X cl true none oNone := by
  refine PO.imp po_none fun σ H Q h => ?_
  obtain ⟨O, L, ρ, o, ρ', env, nd, c, q⟩ := h
  cases c
  exact q H O L ⟨env, nd, Stp.refl _ _ _, fun _ => ⟨rfl, fun _ _ e => e⟩⟩
theorem so_some (h : SE X cl qa e ca) : SO X cl qa (some e) (oSome ca) := by
  refine PO.imp (po_some h) fun σ H Q h => ?_
  obtain ⟨O, L, ρ, o, ρ', env, nd, c, q⟩ := h
  obtain ⟨⟨b, ρ1⟩, c1, c⟩ := Res.of_bind c
  obtain ⟨k, c2, c⟩ := Res.of_bind c
  cases c
  have eb := intOf_ok c2
  subst eb
  refine ⟨O, L, ρ, _, ρ', env, nd, c1, fun v H1 O1 L1 Lb P => ?_⟩
  obtain ⟨e1, e2⟩ := P.br
  subst e1
  have nd' := P.nd
  have st' := P.st
  rw [List.append_nil] at nd' st'
  exact ⟨k, e2, q H1 O1 L1 ⟨P.env, nd', st', P.qu⟩⟩
theorem PostT.asE {C : Cfg} {σ : Sg} {H H1 : Hp} {O O1 : AP} {L L1 : List Addr} {ρ ρ1 : En} (P : PostT C σ H O L ρ qa ρ1 H1 O1 L1) : PostE C σ H O L ρ qa (.tmp (.fz .non)) ρ1 .non H1 O1 L1 [] :=
  ⟨P.env, ⟨rfl, rfl⟩, by rw [List.append_nil]; exact P.nd, by rw [List.append_nil]; exact P.st, P.qu⟩
theorem se_slice {lo hi : Option Expr} {co ch : CO} {ql qh : Bool} {p2 : Pos} {r : V → Option Int → Option Int → Hp → VK → Prop} {f : W → Option Int → Option Int → Res W} (hr : SlR X r) (hs : SlS ⟨X.K, cl⟩ r f) (he : SE X cl qa e ca) (hl : SO X cl ql lo co) (hh : SO X cl qh hi ch) :
    SE X cl (qa && (ql && qh)) (.Subscript e (.Slice lo hi none p2) pos) (cSl f (ql && qh) ca co ch) := by
  refine PE.imp (pe_slice hr he hl hh) fun σ H Q h => ?_
  obtain ⟨O, L, ρ, b0, ρ', env, nd, c, q⟩ := h
  obtain ⟨⟨a, ρ1⟩, c1, c⟩ := Res.of_bind c
  obtain ⟨_, c2, c⟩ := Res.of_bind c
  obtain ⟨⟨l, ρ2⟩, c3, c⟩ := Res.of_bind c
  obtain ⟨⟨u, ρ3⟩, c4, c⟩ := Res.of_bind c
  obtain ⟨x, c5, c⟩ := Res.of_bind c
  obtain ⟨w, c6, c⟩ := Res.of_bind c
  cases c
  refine ⟨O, L, ρ, a, ρ1, env, nd, c1, fun va H1 O1 L1 La P1 => ?_⟩
  have own1 : ∀ z ∈ L1, O1 z := fun z hz => (P1.env.own z hz).1
  refine ⟨O1, L1, ρ1, l, ρ2, P1.env, (List.nodup_append.mp P1.nd).1, c3, fun H2 O2 L2 P2 => ?_⟩
  refine ⟨O2, L2, ρ2, u, ρ', P2.env, P2.nd, c4, fun H3 O3 L3 P3 => ?_⟩
  have P4 := (P2.trans P3).asE
  obtain ⟨ba, nd2⟩ := P1.br.pend own1 P1.nd P4 c2
  rw [List.append_nil] at nd2
  have ndd := List.nodup_append.mp nd2
  have d : ∀ z ∈ L3, z ∉ La := fun z hz q => ndd.2.2 z hz z q rfl
  obtain ⟨Lx, rx, _⟩ := cont_rep (T := La) ba P3.env ndd.1 d (fun z hz => hz) c5
  refine hs H3 (Less O3 La) va x w l u Lx _ rx c6 fun v H' O' Lw rw' g => ?_
  refine q v H' O' L3 Lw (post_of P3.env nd2 ?_ (fun hq => ?_) g rw')
  · exact P1.st.trans ((P2.st.trans P3.st).frame La)
  · have hq' : qa = true ∧ (ql = true ∧ qh = true) := by simpa using hq
    obtain ⟨h1, h2, h3⟩ := hq'
    exact ⟨(P3.qu h3).1.trans ((P2.qu h2).1.trans (P1.qu h1).1), fun z o e => (P3.qu h3).2 z o ((P2.qu h2).2 z o ((P1.qu h1).2 z o e))⟩
theorem cutV_whole {xs : List V} {lo hi : Option Int} (h : HT.sIx xs.length 0 lo = 0 ∧ HT.sIx xs.length xs.length hi = xs.length) : cutV xs lo hi = xs := by
  unfold cutV
  rw [h.1, h.2]
  simp
theorem sls_seq {C : Cfg} : SlS C (fun x lo hi H Q => rSlL C.K x lo hi H Q ∨ rSlA C.K x lo hi H Q) fSl := by
  intro H O x wx w lo hi Lx Q rx e q
  unfold fSl at e
  split at e
  · rename_i ht
    split at e
    · rename_i ds hd
      cases e
      obtain ⟨a, xs, e1, t, r⟩ := tupV_rep rx hd
      refine .inr ⟨a, xs, e1, t.sq, fun hw => ?_, fun hw p hp => q (.ref p) _ _ [] (new_tup hp (RepDs.cut r lo hi)) (Gr.new hp)⟩
      have r2 := RepDs.cut r lo hi
      rw [cutV_whole hw] at r2
      exact gr_same (show RepD C H O (.tup (cutD ds lo hi)) (.ref a) from ⟨a, xs, rfl, t, r2⟩) q
    · cases e
  · split at e
    · rename_i ds hd
      cases e
      obtain ⟨a, xs, e1, h1, r⟩ := lsV_rep rx hd
      exact .inl ⟨a, xs, e1, h1, fun p hp => q (.ref p) _ _ [p] (new_lst hp (RepDs.cut r lo hi)) (Gr.newO hp)⟩
    · cases e
theorem slr_seq : SlR X (fun x lo hi H Q => rSlL X.K x lo hi H Q ∨ rSlA X.K x lo hi H Q) := sl_list.or sl_tupA
end
def tyW : W → Option String
  | .fz .non => some "NoneType"
  | .fz (.bl _) => some "bool"
  | .fz (.int _) => some "int"
  | .fz (.str _) => some "str"
  | .fz (.tup _) => some "tuple"
  | .fz (.lst _) => some "list"
  | .fz (.scr _) => some "list"
  | .lst _ => some "list"
  | .fz (.obj _ _) => none
  | .fz (.exc _ _) => none
  | .fz (.dct _ _) => none
def isiB (t T : String) : Bool := t == T || (t == "bool" && T == "int")
def tysOk (T : String) : Bool := ["int", "bool", "str", "tuple", "list"].contains T
theorem isiB_kit {w : W} {t T : String} (h : tyW w = some t) (hT : tysOk T = true) : kitB t T = some (isiB t T) := by
  have h1 : t ∈ ["NoneType", "bool", "int", "str", "tuple", "list"] := by
    cases w with
    | lst _ => cases h; decide
    | fz d => cases d <;> first | (cases h; decide) | cases h
  have h2 : T ∈ ["int", "bool", "str", "tuple", "list"] := by simpa [tysOk] using hT
  have key : ∀ t ∈ ["NoneType", "bool", "int", "str", "tuple", "list"], ∀ T ∈ ["int", "bool", "str", "tuple", "list"], kitB t T = some (isiB t T) := by decide +kernel
  exact key t h1 T h2
theorem tyW_rep {C : Cfg} {H : Hp} {O : AP} {w : W} {x : V} {L : List Addr} {t : String} (r : RepW C H O w x L) (h : tyW w = some t) : TyX C.K H x (.type t) := by
  cases w with
  | lst ws =>
    cases h
    obtain ⟨a, xs, _, e, h1, _⟩ := r
    subst e
    exact .base (.lst h1)
  | fz d =>
    cases d with
    | non => cases h; rw [r.2]; exact .base .non
    | bl b => cases h; rw [r.2]; exact .base (.bl b)
    | int i => cases h; rw [r.2]; exact .base (.int i)
    | str s => cases h; rw [r.2]; exact .base (.str s)
    | tup ds =>
      cases h
      obtain ⟨_, a, xs, e, t, _⟩ := r
      subst e
      rcases t with ⟨h1 | ⟨o, h1⟩, _⟩ | ⟨o, its, n, h1, h2, _⟩
      · exact .base (.tup h1)
      · exact .fTuple h1
      · exact .kTuple h1 h2
    | lst ds =>
      cases h
      obtain ⟨_, a, xs, e, h1, _⟩ := r
      subst e
      exact .base (.lst h1)
    | scr ds =>
      cases h
      obtain ⟨_, a, xs, e, t, _⟩ := r
      subst e
      rcases t with ⟨h1 | ⟨o, h1⟩, _⟩ | ⟨o, its, n, h1, h2, _⟩
      · exact .base (.lst h1)
      · exact .base (.frz h1)
      · exact .kList h1 h2
    | obj c fs => cases h
    | exc c fs => cases h
    | dct ks ds => cases h
def fIsi (Ts : List String) (w : W) : Res W := match tyW w with
  | some t => .ok (.fz (.bl (Ts.any fun T => isiB t T)))
  | none => .err
theorem kitAny_of {K : PySem.W.Frag} {w : W} {t : String} (h : tyW w = some t) : ∀ {Ts : List String}, Ts.all tysOk = true → PySem.W.kitAny K (.type t) (Ts.map Value.type) = some (Ts.any fun T => isiB t T)
  | [], _ => kitAny_nil
  | T :: Ts, hT => by
    have hT' : tysOk T = true ∧ Ts.all tysOk = true := by simpa using hT
    have h1 : PySem.W.kitOne K (.type t) (.type T) = some (isiB t T) := kit_ty (isiB_kit h hT'.1)
    refine kitAny_cons h1 (fun hb => ?_) fun hb => ?_
    · rw [kitAny_of h hT'.2, List.any_cons, hb, Bool.false_or]
    · rw [List.any_cons, hb, Bool.true_or]
section
variable {X : Cx} {cl : Nat → Addr} {e : Expr} {ca : CE} {qa : Bool} {pos p p2 p3 p4 p5 : Pos}
structure TyN (X : Cx) (x : Str) (T : String) : Prop where
  gl : Gl X x
  mg : X.mg x = none
  bo : bootBuiltins x = some (.type T)
  n1 : x ≠ "__name__"
  n2 : (x == ("__debug__" : Str)) = false
theorem TyN.pe {x : Str} {T : String} (h : TyN X x T) : PE X (.Name x pos) (tC (.ty T)) := pe_bltn h.gl h.mg h.bo rfl h.n1 h.n2
theorem isi_core {C : Cfg} {Ts : List String} {σ : Sg} {H : Hp} {Q : VK} {r : V → Hp → VK → Prop} (hr : ∀ (H : Hp) (O : AP) (x : V) (w : W) (L : List Addr) (t : String) (Q : VK), RepW C H O w x L → tyW w = some t → (∀ H', (∀ a o, H a = some o → H' a = some o) → Q (.bl (Ts.any fun T => isiB t T)) H') → r x H Q)
    (h : tE C qa (cUn (fIsi Ts) ca) σ H Q) : tUn r (tE C qa ca) σ H Q := by
  refine un_core (f := fIsi Ts) (fun H O x wx w Lx Q rx e q => ?_) h
  unfold fIsi at e
  split at e
  · rename_i t ht
    cases e
    refine hr H O x wx Lx t Q rx ht fun H' ex => ?_
    exact q (.bl _) H' O [] ⟨rfl, rfl⟩ ⟨ex, fun a z => .inl z, fun a o _ z => z, fun a z => by simp at z, List.nodup_nil⟩
  · cases e
theorem se_isi1 {x : Str} {T : String} (hgi : Gl X "isinstance") (hmi : X.mg "isinstance" = none) (ht : TyN X x T) (hT : tysOk T = true) (he : SE X cl qa e ca) (hs : starEach [e, .Name x p2] X.env = (false, eval e X.env) :: starEach [.Name x p2] X.env := by rfl)
    (hs2 : starEach [Expr.Name x p2] X.env = (false, eval (.Name x p2) X.env) :: starEach [] X.env := by rfl) (hpl : (backTo pos (starEach [.Name x p2] X.env)).any (·.1) = false := by rfl) :
    SE X cl qa (.Call (.Name "isinstance" p) [e, .Name x p2] [] pos) (cUn (fIsi [T]) ca) := by
  refine PE.imp (pe_callB call_isi hgi hmi PyProof.Rows.boot_isinstance (pa_cons he (pa_cons ht.pe pa_nil hs2) hs) (by decide) (by decide) hs hpl) fun σ H Q h => ?_
  refine isi_core (C := ⟨X.K, cl⟩) (Ts := [T]) (r := fun x H1 Q => rIsi X.K [x, .ty T] H1 Q) (fun H O x w L t Q r hty q => ?_) h
  refine ⟨x, .ty T, .type t, .type T, isiB t T, rfl, .ty T, tyW_rep r hty, kit_ty (isiB_kit hty hT), ?_⟩
  have := q H fun _ _ e => e
  simpa using this
theorem se_isi2 {x y : Str} {T U : String} {k : Nat} (hgi : Gl X "isinstance") (hmi : X.mg "isinstance" = none) (ht : TyN X x T) (hu : TyN X y U) (hT : tysOk T = true) (hU : tysOk U = true) (he : SE X cl qa e ca)
    (hs : starEach [e, .Tuple [.Name x p2, .Name y p3] k p4] X.env = (false, eval e X.env) :: starEach [.Tuple [.Name x p2, .Name y p3] k p4] X.env := by rfl)
    (hs2 : starEach [Expr.Tuple [.Name x p2, .Name y p3] k p4] X.env = (false, eval (.Tuple [.Name x p2, .Name y p3] k p4) X.env) :: starEach [] X.env := by rfl)
    (hs3 : starEach [Expr.Name x p2, .Name y p3] X.env = (false, eval (.Name x p2) X.env) :: starEach [.Name y p3] X.env := by rfl) (hs4 : starEach [Expr.Name y p3] X.env = (false, eval (.Name y p3) X.env) :: starEach [] X.env := by rfl)
    (hpl : (backTo pos (starEach [.Tuple [.Name x p2, .Name y p3] k p4] X.env)).any (·.1) = false := by rfl) :
    SE X cl qa (.Call (.Name "isinstance" p) [e, .Tuple [.Name x p2, .Name y p3] k p4] [] pos) (cUn (fIsi [T, U]) ca) := by
  refine PE.imp (pe_callB call_isiT hgi hmi PyProof.Rows.boot_isinstance (pa_cons he (pa_cons (pe_tup (pa_cons ht.pe (pa_cons hu.pe pa_nil hs4) hs3)) pa_nil hs2) hs) (by decide) (by decide) hs hpl) fun σ H Q h => ?_
  refine isi_core (C := ⟨X.K, cl⟩) (Ts := [T, U]) (r := fun x H1 Q => ([V.ty T, V.ty U].length ≤ sizeLine ∧ ∀ p, H1 p = none → rIsiT X.K [x, .ref p] (upd H1 p (.tup [.ty T, .ty U])) Q)) (fun H O x w L t Q r hty q => ?_) h
  refine ⟨by show 2 ≤ sizeLine; rw [sizeLine_eq]; omega, fun p hp => ?_⟩
  have g : Gr H O (upd H p (.tup [.ty T, .ty U])) (Less O [p]) [] := Gr.new hp
  have r2 : RepW ⟨X.K, cl⟩ (upd H p (.tup [.ty T, .ty U])) (Less O [p]) w x L := RepW.keep w x L (g.keepL fun a ha => (RepW.own w x L r a ha).1) r
  refine ⟨x, p, [.ty T, .ty U], .type t, [.type T, .type U], _, rfl, upd_same, .cons (.ty T) (.cons (.ty U) .nil), tyW_rep r2 hty, kitAny_of (Ts := [T, U]) hty (by simp [hT, hU]), q _ g.ex⟩
end
end Mi
namespace Mi
open PySem PySem.Spec PyProof.Rows L2
theorem PI.or {X : Cx} {tg e : Expr} {t u : TI} (h : PI X tg e t) (h' : PI X tg e u) : PI X tg e (fun σ H R => t σ H R ∨ u σ H R) := ⟨fun pins s σ H R I q => q.elim (h.run pins s σ H R I) (h'.run pins s σ H R I)⟩
def srcV : W → Option (List D)
  | .fz (.lst ds) => some ds
  | .fz (.tup ds) => some ds
  | .fz (.scr ds) => some ds
  | .lst ws => some (frzs ws)
  | _ => none
def iSeq (c : CE) : CI := fun ρ => (c ρ).bind fun (b, ρ1) => (take b ρ1).bind fun (w, ρ2) => (Res.of (srcV w)).bind fun ds => .ok (ds, ρ2)
section
variable {C : Cfg} {H : Hp} {O : AP}
theorem jr_list {K : PySem.W.Frag} (hK : C.K = K) {a : Addr} {xs : List V} {ds : List D} (h : Sc C H O a xs) (r : RepDs C H O ds xs) : JR C H O (Itl K a) ds := by
  subst hK
  intro i H1 O1 k
  have h1 := (h.keep k).sq
  have r1 := RepDs.keep k ds xs r
  refine ⟨fun d hd => ?_, fun hl => ⟨xs, h1, by rw [r.length]; exact hl⟩⟩
  obtain ⟨x, hx, rx⟩ := r1.get hd
  refine ⟨⟨xs, x, h1, hx⟩, fun y H2 hy => ?_⟩
  obtain ⟨e, hy⟩ := hy
  subst e
  have : some y = some x := (hy xs h1).symm.trans hx
  cases this
  exact ⟨O1, Gr.refl _ _, rx⟩
theorem jr_tup {K : PySem.W.Frag} (hK : C.K = K) {a : Addr} {xs : List V} {ds : List D} (h : Tp C H O a xs) (r : RepDs C H O ds xs) : JR C H O (Itt K a) ds := by
  subst hK
  intro i H1 O1 k
  have h1 := (h.keep k).sq
  have r1 := RepDs.keep k ds xs r
  refine ⟨fun d hd => ?_, fun hl => ⟨xs, h1, by rw [r.length]; exact hl⟩⟩
  obtain ⟨x, hx, rx⟩ := r1.get hd
  refine ⟨⟨xs, x, h1, hx⟩, fun y H2 hy => ?_⟩
  obtain ⟨e, hy⟩ := hy
  subst e
  have : some y = some x := (hy xs h1).symm.trans hx
  cases this
  exact ⟨O1, Gr.refl _ _, rx⟩
theorem new_pair {H1 H2 : Hp} {O1 : AP} {T : Addr} {x y : V} {d e : D} (hT : H1 T = none) (eH : H2 = upd H1 T (.tup [x, y])) (rx : RepD C H1 O1 d x) (ry : RepD C H1 O1 e y) : ∃ O2, Gr H1 O1 H2 O2 [] ∧ RepD C H2 O2 (.tup [d, e]) (.ref T) := by
  subst eH
  exact ⟨_, Gr.new hT, (new_tup hT (.cons rx (.cons ry .nil))).2⟩
def enumD : Nat → List D → List D
  | _, [] => []
  | i, d :: ds => .tup [.int (i : Nat), d] :: enumD (i + 1) ds
theorem enumD_get : ∀ {k : Nat} {ds : List D} {i : Nat} {e : D}, (enumD k ds)[i]? = some e → ∃ d, ds[i]? = some d ∧ e = .tup [.int ((k + i : Nat) : Int), d]
  | k, [], i, e, h => by simp [enumD] at h
  | k, d :: ds, 0, e, h => by simp [enumD] at h; exact ⟨d, by simp, h.symm⟩
  | k, d :: ds, i + 1, e, h => by
    obtain ⟨d', h1, h2⟩ := enumD_get (k := k + 1) (ds := ds) (i := i) (e := e) (by simpa [enumD] using h)
    exact ⟨d', by simpa using h1, by rw [h2]; congr 3; omega⟩
theorem enumD_len : ∀ (k : Nat) (ds : List D), (enumD k ds).length = ds.length
  | _, [] => rfl
  | k, d :: ds => by simp [enumD, enumD_len]
theorem jr_enumL {K : PySem.W.Frag} (hK : C.K = K) {a : Addr} {xs : List V} {ds : List D} (h : Sc C H O a xs) (r : RepDs C H O ds xs) : JR C H O (Ite K a) (enumD 0 ds) := by
  subst hK
  intro i H1 O1 k
  have h1 := (h.keep k).sq
  have r1 := RepDs.keep k ds xs r
  refine ⟨fun e he => ?_, fun hl => ⟨xs, h1, by rw [r.length, ← enumD_len 0 ds]; exact hl⟩⟩
  obtain ⟨d, hd, e2⟩ := enumD_get he
  subst e2
  obtain ⟨x, hx, rx⟩ := r1.get hd
  refine ⟨⟨xs, x, h1, hx⟩, fun y H2 hy => ?_⟩
  obtain ⟨T, x', e, hT, eH, hy⟩ := hy
  subst e
  have : some x' = some x := (hy xs h1).symm.trans hx
  cases this
  rw [Nat.zero_add]
  exact new_pair hT eH (show RepD C H1 O1 (.int (i : Nat)) (.int (i : Nat)) from rfl) rx
theorem jr_enumT {K : PySem.W.Frag} (hK : C.K = K) {a : Addr} {xs : List V} {ds : List D} (h : Tp C H O a xs) (r : RepDs C H O ds xs) : JR C H O (IteT K a) (enumD 0 ds) := by
  subst hK
  intro i H1 O1 k
  have h1 := (h.keep k).sq
  have r1 := RepDs.keep k ds xs r
  refine ⟨fun e he => ?_, fun hl => ⟨xs, h1, by rw [r.length, ← enumD_len 0 ds]; exact hl⟩⟩
  obtain ⟨d, hd, e2⟩ := enumD_get he
  subst e2
  obtain ⟨x, hx, rx⟩ := r1.get hd
  refine ⟨⟨xs, x, h1, hx⟩, fun y H2 hy => ?_⟩
  obtain ⟨T, x', e, hT, eH, hy⟩ := hy
  subst e
  have : some x' = some x := (hy xs h1).symm.trans hx
  cases this
  rw [Nat.zero_add]
  exact new_pair hT eH (show RepD C H1 O1 (.int (i : Nat)) (.int (i : Nat)) from rfl) rx
def zipD (ds es : List D) : List D := List.zipWith (fun d e => .tup [d, e]) ds es
theorem zipD_get {ds es : List D} {i : Nat} {p : D} (h : (zipD ds es)[i]? = some p) : ∃ d e, ds[i]? = some d ∧ es[i]? = some e ∧ p = .tup [d, e] := by
  unfold zipD at h
  rw [List.getElem?_zipWith] at h
  cases hd : ds[i]? with
  | none => rw [hd] at h; simp at h
  | some d =>
    cases he : es[i]? with
    | none => rw [hd, he] at h; simp at h
    | some e => rw [hd, he] at h; simp at h; exact ⟨d, e, rfl, rfl, h.symm⟩
theorem jr_zipL {K : PySem.W.Frag} (hK : C.K = K) {a b : Addr} {xs ys : List V} {ds es : List D} (h : Sc C H O a xs) (r : RepDs C H O ds xs) (h' : Sc C H O b ys) (r' : RepDs C H O es ys) : JR C H O (Itz K a b) (zipD ds es) := by
  subst hK
  intro i H1 O1 k
  have h1 := (h.keep k).sq
  have r1 := RepDs.keep k ds xs r
  have h2 := (h'.keep k).sq
  have r2 := RepDs.keep k es ys r'
  refine ⟨fun p hp => ?_, fun hl => ⟨xs, ys, h1, h2, ?_⟩⟩
  · obtain ⟨d, e, hd, he, e2⟩ := zipD_get hp
    subst e2
    obtain ⟨x, hx, rx⟩ := r1.get hd
    obtain ⟨y, hy, ry⟩ := r2.get he
    refine ⟨⟨xs, ys, x, y, h1, h2, hx, hy⟩, fun v H2 hv => ?_⟩
    obtain ⟨T, x', y', e, hT, eH, hx', hy'⟩ := hv
    subst e
    have e1 : some x' = some x := (hx' xs h1).symm.trans hx
    have e2 : some y' = some y := (hy' ys h2).symm.trans hy
    cases e1; cases e2
    exact new_pair hT eH rx ry
  · have l1 := r.length
    have l2 := r'.length
    unfold zipD at hl
    rw [List.length_zipWith] at hl
    omega
theorem jr_zipT {K : PySem.W.Frag} (hK : C.K = K) {a b : Addr} {xs ys : List V} {ds es : List D} (h : Tp C H O a xs) (r : RepDs C H O ds xs) (h' : Tp C H O b ys) (r' : RepDs C H O es ys) : JR C H O (RZ.ItzT K a b) (zipD ds es) := by
  subst hK
  intro i H1 O1 k
  have h1 := (h.keep k).sq
  have r1 := RepDs.keep k ds xs r
  have h2 := (h'.keep k).sq
  have r2 := RepDs.keep k es ys r'
  refine ⟨fun p hp => ?_, fun hl => ⟨xs, ys, h1, h2, ?_⟩⟩
  · obtain ⟨d, e, hd, he, e2⟩ := zipD_get hp
    subst e2
    obtain ⟨x, hx, rx⟩ := r1.get hd
    obtain ⟨y, hy, ry⟩ := r2.get he
    refine ⟨⟨xs, ys, x, y, h1, h2, hx, hy⟩, fun v H2 hv => ?_⟩
    obtain ⟨T, x', y', e, hT, eH, hx', hy'⟩ := hv
    subst e
    have e1 : some x' = some x := (hx' xs h1).symm.trans hx
    have e2 : some y' = some y := (hy' ys h2).symm.trans hy
    cases e1; cases e2
    exact new_pair hT eH rx ry
  · have l1 := r.length
    have l2 := r'.length
    unfold zipD at hl
    rw [List.length_zipWith] at hl
    omega
def rangeD (lo : Int) (n : Nat) : List D := (List.range n).map fun i => .int (lo + (i : Nat))
theorem rangeD_len (lo : Int) (n : Nat) : (rangeD lo n).length = n := by unfold rangeD; rw [List.length_map, List.length_range]
theorem jr_range {lo : Int} {n : Nat} : JR C H O (Itr lo n) (rangeD lo n) := by
  intro i H1 O1 k
  refine ⟨fun d hd => ?_, fun hl => by rw [rangeD_len] at hl; exact hl⟩
  unfold rangeD at hd
  rw [List.getElem?_map] at hd
  cases hr : (List.range n)[i]? with
  | none => rw [hr] at hd; cases hd
  | some j =>
    rw [hr] at hd
    have hj : j = i ∧ i < n := by
      obtain ⟨h1, h2⟩ := List.getElem?_eq_some_iff.mp hr
      rw [List.getElem_range] at h2
      exact ⟨h2.symm, by simpa using h1⟩
    obtain ⟨rfl, hn⟩ := hj
    cases hd
    refine ⟨hn, fun x H2 hy => ?_⟩
    obtain ⟨e, ex⟩ := hy
    subst e; subst ex
    exact ⟨O1, Gr.refl _ _, rfl⟩
theorem src_rep {w : W} {x : V} {Lw : List Addr} {ds : List D} (r : RepW C H O w x Lw) (e : srcV w = some ds) : ∃ a xs, x = .ref a ∧ RepDs C H (Less O Lw) ds xs ∧ (isT w = true → Tp C H (Less O Lw) a xs) ∧ (isT w = false → Sc C H (Less O Lw) a xs) := by
  cases w with
  | lst ws =>
    cases e
    obtain ⟨a, xs, L', e1, h1, h2, h3, rs⟩ := r
    subst h3
    exact ⟨a, xs, e1, RepWs.frz ws xs L' (fun b q => ⟨q.1, fun z => q.2 (by simp [z])⟩) rs, fun z => (by cases z), fun _ => .inl ⟨.inl h1, fun q => q.2 (by simp)⟩⟩
  | fz d =>
    obtain ⟨eL, rd⟩ := r
    subst eL
    have rd' : RepD C H (Less O []) d x := RepD.keep (fun a o e n => ⟨e, fun q => n q.1⟩) d x rd
    cases d with
    | lst es =>
      cases e
      obtain ⟨a, xs, e1, h1, n, rs⟩ := rd'
      exact ⟨a, xs, e1, rs, fun z => (by cases z), fun _ => .inl ⟨.inl h1, n⟩⟩
    | tup es =>
      cases e
      obtain ⟨a, xs, e1, h1, rs⟩ := rd'
      exact ⟨a, xs, e1, rs, fun _ => h1, fun z => (by cases z)⟩
    | scr es =>
      cases e
      obtain ⟨a, xs, e1, h1, rs⟩ := rd'
      exact ⟨a, xs, e1, rs, fun z => (by cases z), fun _ => h1⟩
    | _ => cases e
end
section
variable {X : Cx} {cl : Nat → Addr} {tg e e2 : Expr} {ca cb : CE} {qa qb : Bool} {p pos : Pos}
theorem si_seq (he : SE X cl qa e ca) : SI X cl tg e (iSeq ca) := by
  refine PI.imp (PI.or (pi_list he) (pi_tup he)) fun σ H R h => ?_
  obtain ⟨O, L, ρ, ds, ρ', env, nd, c, q⟩ := h
  obtain ⟨⟨b, ρ1⟩, c1, c⟩ := Res.of_bind c
  obtain ⟨⟨w, ρ2⟩, c2, c⟩ := Res.of_bind c
  obtain ⟨ds', c3, c⟩ := Res.of_bind c
  cases c
  have common : ∀ (v : V) (H1 : Hp) (O1 : AP) (L1 Lb : List Addr), PostE ⟨X.K, cl⟩ σ H O L ρ qa b ρ1 v H1 O1 L1 Lb → ∃ O2 L2 Lw, EnvR ⟨X.K, cl⟩ H1 (Less O2 Lw) ρ' σ L2 ∧ L2.Nodup ∧ Stp H O L H1 (Less O2 Lw) L2 ∧ RepW ⟨X.K, cl⟩ H1 O2 w v Lw := fun v H1 O1 L1 Lb P => by
    obtain ⟨O2, L2, Lw, g1, g2, g3, g4, g5, g6⟩ := take_rep P.br P.env P.nd c2
    have nn := List.nodup_append.mp g3
    exact ⟨O2, L2, Lw, g1.less (fun a ha z => nn.2.2 a ha a z rfl), nn.1, (P.st.trans (Stp.ofO g4 g5 g6)).drop, g2⟩
  cases ht : isT w with
  | false =>
    refine .inl ⟨O, L, ρ, b, ρ1, env, nd, c1, fun v H1 O1 L1 Lb P => ?_⟩
    obtain ⟨O2, L2, Lw, e1, n1, s1, r1⟩ := common v H1 O1 L1 Lb P
    obtain ⟨a, xs, ea, rs, _, hs⟩ := src_rep r1 (Res.of_ok c3)
    have sc := hs ht
    exact ⟨a, ea, ⟨xs, sc.sq⟩, q _ H1 _ L2 e1 n1 s1 (jr_list rfl sc rs)⟩
  | true =>
    refine .inr ⟨O, L, ρ, b, ρ1, env, nd, c1, fun v H1 O1 L1 Lb P => ?_⟩
    obtain ⟨O2, L2, Lw, e1, n1, s1, r1⟩ := common v H1 O1 L1 Lb P
    obtain ⟨a, xs, ea, rs, hs, _⟩ := src_rep r1 (Res.of_ok c3)
    have sc := hs ht
    exact ⟨a, ea, ⟨xs, sc.sq⟩, q _ H1 _ L2 e1 n1 s1 (jr_tup rfl sc rs)⟩
def iEnumM (c : CE) : CI := fun ρ => (c ρ).bind fun (b, ρ1) => (take b ρ1).bind fun (w, ρ2) => (Res.of (srcV w)).bind fun ds => .ok (enumD 0 ds, ρ2)
theorem si_enum {elts : List Expr} {kk : Nat} {tpos : Pos} (hg : Gl X "enumerate") (hm : X.mg "enumerate" = none) (he : SE X cl qa e ca) (hs : starEach [e] X.env = [(false, eval e X.env)] := by rfl) :
    SI X cl (.Tuple elts kk tpos) (.Call (.Name "enumerate" p) [e] [] pos) (iEnumM ca) := by
  have pa : PA X [e] (tCons (tE ⟨X.K, cl⟩ qa ca) tNil) := pa_cons he pa_nil hs
  refine PI.imp (PI.or (pi_enum hg hm pa hs) (pi_enumT hg hm pa hs)) fun σ H R h => ?_
  obtain ⟨O, L, ρ, ds, ρ', env, nd, c, q⟩ := h
  obtain ⟨⟨b, ρ1⟩, c1, c⟩ := Res.of_bind c
  obtain ⟨⟨w, ρ2⟩, c2, c⟩ := Res.of_bind c
  obtain ⟨ds', c3, c⟩ := Res.of_bind c
  cases c
  have common : ∀ (v : V) (H1 : Hp) (O1 : AP) (L1 Lb : List Addr), PostE ⟨X.K, cl⟩ σ H O L ρ qa b ρ1 v H1 O1 L1 Lb → ∃ O2 L2 Lw, EnvR ⟨X.K, cl⟩ H1 (Less O2 Lw) ρ' σ L2 ∧ L2.Nodup ∧ Stp H O L H1 (Less O2 Lw) L2 ∧ RepW ⟨X.K, cl⟩ H1 O2 w v Lw := fun v H1 O1 L1 Lb P => by
    obtain ⟨O2, L2, Lw, g1, g2, g3, g4, g5, g6⟩ := take_rep P.br P.env P.nd c2
    have nn := List.nodup_append.mp g3
    exact ⟨O2, L2, Lw, g1.less (fun a ha z => nn.2.2 a ha a z rfl), nn.1, (P.st.trans (Stp.ofO g4 g5 g6)).drop, g2⟩
  cases ht : isT w with
  | false =>
    refine .inl ⟨O, L, ρ, b, ρ1, env, nd, c1, fun v H1 O1 L1 Lb P => ?_⟩
    obtain ⟨O2, L2, Lw, e1, n1, s1, r1⟩ := common v H1 O1 L1 Lb P
    obtain ⟨a, xs, ea, rs, _, hs⟩ := src_rep r1 (Res.of_ok c3)
    have sc := hs ht
    subst ea
    exact ⟨a, xs, rfl, sc.sq, q _ H1 _ L2 e1 n1 s1 (jr_enumL rfl sc rs)⟩
  | true =>
    refine .inr ⟨O, L, ρ, b, ρ1, env, nd, c1, fun v H1 O1 L1 Lb P => ?_⟩
    obtain ⟨O2, L2, Lw, e1, n1, s1, r1⟩ := common v H1 O1 L1 Lb P
    obtain ⟨a, xs, ea, rs, hs, _⟩ := src_rep r1 (Res.of_ok c3)
    have sc := hs ht
    subst ea
    exact ⟨a, xs, rfl, sc.sq, q _ H1 _ L2 e1 n1 s1 (jr_enumT rfl sc rs)⟩
def iRange1 (c : CE) : CI := fun ρ => (c ρ).bind fun (b, ρ1) => (intOf b).bind fun j => (chk (decide (-(2 ^ 62) ≤ j ∧ j < 2 ^ 62))).bind fun _ => .ok (rangeD 0 j.toNat, ρ1)
theorem PostE.ofInt {C : Cfg} {σ : Sg} {H H1 : Hp} {O O1 : AP} {L L1 Lb : List Addr} {ρ ρ1 : En} {k : Int} {v : V} (P : PostE C σ H O L ρ qa (.tmp (.fz (.int k))) ρ1 v H1 O1 L1 Lb) : v = .int k ∧ PostT C σ H O L ρ qa ρ1 H1 O1 L1 := by
  obtain ⟨e1, e2⟩ := P.br
  subst e1
  have nd' := P.nd
  have st' := P.st
  rw [List.append_nil] at nd' st'
  exact ⟨e2, P.env, nd', st', P.qu⟩
theorem si_range1 (hg : Gl X "range") (hm : X.mg "range" = none) (he : SE X cl qa e ca) (hs : starEach [e] X.env = [(false, eval e X.env)] := by rfl) : SI X cl tg (.Call (.Name "range" p) [e] [] pos) (iRange1 ca) := by
  refine PI.imp (pi_range1 hg hm (pa_cons he pa_nil hs) hs) fun σ H R h => ?_
  obtain ⟨O, L, ρ, ds, ρ', env, nd, c, q⟩ := h
  obtain ⟨⟨b, ρ1⟩, c1, c⟩ := Res.of_bind c
  obtain ⟨j, c2, c⟩ := Res.of_bind c
  obtain ⟨_, c3, c⟩ := Res.of_bind c
  cases c
  have eb := intOf_ok c2
  subst eb
  refine ⟨O, L, ρ, _, ρ', env, nd, c1, fun v H1 O1 L1 Lb P => ?_⟩
  obtain ⟨e1, P'⟩ := P.ofInt
  have hj := chk_dec c3
  subst e1
  exact ⟨j, rfl, hj.1, hj.2, q _ H1 O1 L1 P'.env P'.nd P'.st jr_range⟩
def iRange2 (ca cb : CE) : CI := fun ρ => (ca ρ).bind fun (a, ρ1) => (intOf a).bind fun i => (cb ρ1).bind fun (b, ρ2) => (intOf b).bind fun j => (chk (decide (-(2 ^ 62) ≤ i ∧ i < 2 ^ 62 ∧ -(2 ^ 62) ≤ j ∧ j < 2 ^ 62))).bind fun _ => .ok (rangeD i (j - i).toNat, ρ2)
end
def iZipM (cb : CBs) : CI := fun ρ => (cb ρ).bind fun (bs, ρ1) => (chk (bs.all flatB)).bind fun _ => (takes bs ρ1).bind fun (ws, ρ2) => match ws with
  | [a, b] => (chk (isT a == isT b)).bind fun _ => (Res.of (srcV a)).bind fun ds => (Res.of (srcV b)).bind fun es => .ok (zipD ds es, ρ2)
  | _ => .err
section
variable {X : Cx} {cl : Nat → Addr} {e e2 : Expr} {cb : CBs} {qb : Bool} {p pos tpos : Pos} {elts : List Expr} {kk : Nat}
theorem Sc.less {C : Cfg} {H : Hp} {O O' : AP} {a : Addr} {xs : List V} (h : Sc C H O a xs) (k : ∀ a, O' a → O a) : Sc C H O' a xs := h.keep fun a o e n => ⟨e, fun q => n (k a q)⟩
theorem si_zip (hg : Gl X "zip") (hm : X.mg "zip" = none) (hb : SB X cl qb [e, e2] cb) (hs : starEach [e, e2] X.env = (false, eval e X.env) :: starEach [e2] X.env := by rfl) (hpl : (backTo pos (starEach [e2] X.env)).any (·.1) = false := by rfl) :
    SI X cl (.Tuple elts kk tpos) (.Call (.Name "zip" p) [e, e2] [] pos) (iZipM cb) := by
  refine PI.imp (RZ.pi_zipA hg hm hb hs hpl) fun σ H R h => ?_
  obtain ⟨O, L, ρ, ds, ρ', env, nd, c, q⟩ := h
  obtain ⟨⟨bs, ρ1⟩, c1, c⟩ := Res.of_bind c
  obtain ⟨_, c2, c⟩ := Res.of_bind c
  obtain ⟨⟨ws, ρ2⟩, c3, c⟩ := Res.of_bind c
  dsimp only at c
  split at c
  · rename_i a b
    obtain ⟨_, c4, c⟩ := Res.of_bind c
    obtain ⟨es1, c5, c⟩ := Res.of_bind c
    obtain ⟨es2, c6, c⟩ := Res.of_bind c
    cases c
    refine ⟨O, L, ρ, bs, ρ1, env, nd, c1, fun vs H1 O1 L1 Lb P => ?_⟩
    obtain ⟨O2, L2, Lw, g1, g2, g3, g4, g5, g6, _⟩ := takes_rep P.br P.env P.nd (chk_ok c2) c3
    obtain ⟨v1, r1, M1, M2, e1, e3, w1, v2, r2, M3, M4, e4, e5, w2, e6, e7⟩ := g2
    subst e1; subst e4; subst e6; subst e5; subst e7
    subst e3
    have nn := List.nodup_append.mp g3
    have env2 := g1.less (T := M1 ++ (M3 ++ [])) (fun a ha z => nn.2.2 a ha a z rfl)
    have s2 : Stp H O L H1 (Less O2 (M1 ++ (M3 ++ []))) L2 := (P.st.trans (Stp.ofO g4 g5 g6)).drop
    obtain ⟨a1, xs1, ea1, rs1, ht1, hl1⟩ := src_rep w1 (Res.of_ok c5)
    obtain ⟨a2, xs2, ea2, rs2, ht2, hl2⟩ := src_rep w2 (Res.of_ok c6)
    subst ea1; subst ea2
    have k1 : ∀ z, Less O2 (M1 ++ (M3 ++ [])) z → Less O2 M1 z := fun z hz => ⟨hz.1, fun t => hz.2 (by simp [t])⟩
    have k2 : ∀ z, Less O2 (M1 ++ (M3 ++ [])) z → Less O2 M3 z := fun z hz => ⟨hz.1, fun t => hz.2 (by simp [t])⟩
    have rs1' := RepDs.keep (H' := H1) (O' := Less O2 (M1 ++ (M3 ++ []))) (fun z o e n => ⟨e, fun q => n (k1 z q)⟩) _ _ rs1
    have rs2' := RepDs.keep (H' := H1) (O' := Less O2 (M1 ++ (M3 ++ []))) (fun z o e n => ⟨e, fun q => n (k2 z q)⟩) _ _ rs2
    have heq : isT a = isT b := by simpa using chk_ok c4
    refine ⟨a1, a2, xs1, xs2, rfl, ?_⟩
    cases ht : isT a with
    | false =>
      have sc1 := (hl1 ht).less k1
      have sc2 := (hl2 (heq ▸ ht)).less k2
      exact .inl ⟨sc1.sq, sc2.sq, q _ H1 _ L2 env2 nn.1 s2 (jr_zipL rfl sc1 rs1' sc2 rs2')⟩
    | true =>
      have sc1 := (ht1 ht).keep (H' := H1) (O' := Less O2 (M1 ++ (M3 ++ []))) fun z o e n => ⟨e, fun q => n (k1 z q)⟩
      have sc2 := (ht2 (heq ▸ ht)).keep (H' := H1) (O' := Less O2 (M1 ++ (M3 ++ []))) fun z o e n => ⟨e, fun q => n (k2 z q)⟩
      exact .inr ⟨sc1.sq, sc2.sq, q _ H1 _ L2 env2 nn.1 s2 (jr_zipT rfl sc1 rs1' sc2 rs2')⟩
  · cases c
end
end Mi
namespace Mi
open PySem PySem.Spec PyProof.Rows L2
theorem PK.imp {X : Cx} {e : List Keyword} {t t' : TA} (h : PK X e t) (k : ∀ σ H Q, t' σ H Q → t σ H Q) : PK X e t' := ⟨fun pos pins s σ H Q I q => h.run pos pins s σ H Q I (k σ H Q q)⟩
def SK (X : Cx) (cl : Nat → Addr) (qt : Bool) (es : List Keyword) (c : CBs) : Prop := PK X es (tB ⟨X.K, cl⟩ qt c)
def pick {α : Type} (ix : List Nat) (l : List α) : List α := ix.filterMap fun i => l[i]?
theorem RepWs.get0 {C : Cfg} {H : Hp} {O : AP} : ∀ {ws : List W} {vs : List V} {i : Nat}, RepWs C H O ws vs [] → (∀ w, ws[i]? = some w → ∃ v, vs[i]? = some v ∧ RepW C H O w v []) ∧ (ws[i]? = none → vs[i]? = none)
  | [], vs, i, h => by rw [h.1]; exact ⟨fun w h => by simp at h, fun _ => by simp⟩
  | w :: ws, vs, i, h => by
    obtain ⟨v, r, L1, L2, e, e2, h1, h2⟩ := h
    obtain ⟨z1, z2⟩ := List.append_eq_nil_iff.mp e2.symm
    subst z1; subst z2; subst e
    cases i with
    | zero => exact ⟨fun w' h => by simp at h; subst h; exact ⟨v, by simp, h1⟩, fun h => by simp at h⟩
    | succ i =>
      obtain ⟨g1, g2⟩ := RepWs.get0 (i := i) h2
      exact ⟨fun w' h => by obtain ⟨v', q1, q2⟩ := g1 w' (by simpa using h); exact ⟨v', by simpa using q1, q2⟩, fun h => by simpa using g2 (by simpa using h)⟩
theorem pick_rep {C : Cfg} {H : Hp} {O : AP} {ws : List W} {vs : List V} (r : RepWs C H O ws vs []) : ∀ ix : List Nat, RepWs C H O (pick ix ws) (pick ix vs) []
  | [] => ⟨rfl, rfl⟩
  | i :: ix => by
    unfold pick
    rw [List.filterMap_cons, List.filterMap_cons]
    obtain ⟨g1, g2⟩ := RepWs.get0 (i := i) r
    cases h : ws[i]? with
    | none =>
      rw [g2 h]
      exact pick_rep r ix
    | some w =>
      obtain ⟨v, hv, rv⟩ := g1 w h
      rw [hv]
      exact ⟨v, _, [], [], rfl, rfl, rv, pick_rep r ix⟩
structure FnK (X : Cx) (cl : Nat → Addr) (x : Str) (ks : List Str) (ix : List Nat) (F : Fn) : Prop where
  ex : ∃ (k : Nat) (f : Addr) (fd : FuncData) (ps : List Str), FnOk X.prog X.w X.K X.mg X.base CX0 k f fd ps (spM ⟨X.K, cl⟩ F) ∧ Room k X.A ∧ X.mg x = some (.ref f) ∧ PySem.W.keepIn X.K (.ref f) = true ∧ KBn X.K fd ps 0 ks (fun _ ws => pick ix ws) (fun _ zs => pick ix zs)
def cCallKV (F : Fn) (ix : List Nat) (n : Nat) (cb : CBs) : CE := fun ρ => (cb ρ).bind fun (bs, ρ1) => (chk (bs.length == n)).bind fun _ => (conts bs ρ1).bind fun ws => (F (pick ix (ws.map fun w => .fz (frz w)))).bind fun (r, _) => (chk (scal r)).bind fun _ => .ok (.tmp r, ρ1)
def cCallKP (qd : Bool) (F : Fn) (ix : List Nat) (n : Nat) (cb : CBs) : CE := fun ρ => (cb ρ).bind fun (bs, ρ1) => (chk (bs.length == n)).bind fun _ => (chk (shut qd bs)).bind fun _ => (takes bs ρ1).bind fun (ws, ρ2) => (F (pick ix (ws.map fun w => .fz (frz w)))).bind fun (r, _) => .ok (.tmp r, ρ2)
def tCallK0 (m : Nat) (sp : Sp) (ix : List Nat) (E : XK) (tk : TA) : TE := fun σ H Q => tk σ H fun zs H2 => zs.length = m ∧ sp (pick ix zs) H2 Q E
theorem BRs.length {C : Cfg} {H : Hp} {O : AP} {ρ : En} {σ : Sg} : ∀ {bs : List B} {vs : List V} {L : List Addr}, BRs C H O ρ σ bs vs L → vs.length = bs.length
  | [], _, _, h => by rw [h.1]; rfl
  | b :: bs, vs, L, h => by
    obtain ⟨v, r, _, _, e, _, _, h2⟩ := h
    rw [e, List.length_cons, List.length_cons, BRs.length h2]
theorem callKV_core {C : Cfg} {F : Fn} {ix : List Nat} {n : Nat} {cb : CBs} {qb : Bool} {E : XK} {σ : Sg} {H : Hp} {Q : VK} (h : tE C qb (cCallKV F ix n cb) σ H Q) : tCallK0 n (spM C F) ix E (tB C qb cb) σ H Q := by
  obtain ⟨O, L, ρ, b0, ρ', env, nd, c, q⟩ := h
  obtain ⟨⟨bs, ρ1⟩, c1, c⟩ := Res.of_bind c
  obtain ⟨_, c0, c⟩ := Res.of_bind c
  obtain ⟨ws, c2, c⟩ := Res.of_bind c
  obtain ⟨⟨r, bk⟩, c3, c⟩ := Res.of_bind c
  obtain ⟨_, c4, c⟩ := Res.of_bind c
  cases c
  refine ⟨O, L, ρ, bs, ρ', env, nd, c1, fun vs H1 O1 L1 Lb P => ?_⟩
  refine ⟨P.br.length.trans (by simpa using chk_ok c0), ?_⟩
  have ndd := List.nodup_append.mp P.nd
  have d : ∀ z ∈ L1, z ∉ Lb := fun z hz q => ndd.2.2 z hz z q rfl
  have own1 : ∀ a ∈ L1, O1 a := fun a ha => (P.env.own a ha).1
  refine ⟨Less O1 (L1 ++ Lb), [], _, r, bk, pick_rep (conts_frz P.env ndd.1 P.br (fun a ha => ha) d c2) ix, List.nodup_nil, c3, fun v H' O' L' Lr rr rb ndr st => ?_⟩
  obtain ⟨eL, rr'⟩ := scal_rep (H' := H') (O' := fun a => O' a ∨ a ∈ L1) (chk_ok c4) rr
  subst eL
  have kL : KeepL H1 O1 H' (fun a => O' a ∨ a ∈ L1) L1 := by
    refine ⟨fun a o e n => ⟨st.fr a o e (by simp), fun z => ?_⟩, fun a ha o e => ⟨st.fr a o e (by simp), .inr ha⟩⟩
    rcases z with z | z
    · rcases st.nw a z with z | z
      · exact n z.1
      · rw [e] at z; cases z
    · exact n (own1 a z)
  refine q v H' (fun a => O' a ∨ a ∈ L1) L1 [] ⟨EnvR.keep kL P.env, rr', by rw [List.append_nil]; exact ndd.1, ?_, fun hq => ⟨(P.qu hq).1, fun a o e => st.fr a o ((P.qu hq).2 a o e) (by simp)⟩⟩
  rw [List.append_nil]
  refine P.st.trans ⟨fun a o e _ => st.fr a o e (by simp), fun a z => ?_, fun a o e z n => .inl (st.ol a o e ⟨z, n⟩ (by simp)), fun a ha => .inl (by simp [ha]), st.dm⟩
  rcases z with z | z
  · rcases st.nw a z with z | z
    · exact .inl z.1
    · exact .inr z
  · exact .inl (own1 a z)
theorem callKP_core {C : Cfg} {F : Fn} {ix : List Nat} {n : Nat} {cb : CBs} {qb qd : Bool} {E : XK} {σ : Sg} {H : Hp} {Q : VK} (h : tE C (qb && qd) (cCallKP qd F ix n cb) σ H Q) : tCallK0 n (spM C F) ix E (tB C qb cb) σ H Q := by
  obtain ⟨O, L, ρ, b0, ρ', env, nd, c, q⟩ := h
  obtain ⟨⟨bs, ρ1⟩, c1, c⟩ := Res.of_bind c
  obtain ⟨_, c0, c⟩ := Res.of_bind c
  obtain ⟨_, cs, c⟩ := Res.of_bind c
  obtain ⟨hf, ht⟩ := shut_ok (chk_ok cs)
  obtain ⟨⟨ws, ρ2⟩, c2, c⟩ := Res.of_bind c
  obtain ⟨⟨r, bk⟩, c3, c⟩ := Res.of_bind c
  cases c
  refine ⟨O, L, ρ, bs, ρ1, env, nd, c1, fun vs H1 O1 L1 Lb P => ?_⟩
  refine ⟨P.br.length.trans (by simpa using chk_ok c0), ?_⟩
  obtain ⟨O2, L2, Lw, g1, g2, g3, g4, g5, g6, g7⟩ := takes_rep P.br P.env P.nd hf c2
  have rd : RepDs C H1 (Less O2 Lw) (frzs ws) vs := RepWs.frz ws vs Lw (fun a q => q) g2
  have rs : RepWs C H1 (Less O2 Lw) (ws.map fun w => .fz (frz w)) vs [] := by
    have := RepWs.ofD rd
    rw [frzs_map, List.map_map] at this
    exact this
  have ndw := List.nodup_append.mp g3
  have d2 : ∀ a ∈ L2, a ∉ Lw := fun a ha z => ndw.2.2 a ha a z rfl
  have e2 := g1.less d2
  refine ⟨Less O2 Lw, [], _, r, bk, pick_rep rs ix, List.nodup_nil, c3, fun v H' O' L' Lr rr rb ndr st => ?_⟩
  have own2 : ∀ a ∈ L2, Less O2 Lw a := fun a ha => (e2.own a ha).1
  have kL : KeepL H1 (Less O2 Lw) H' O' L2 := st.keepL (by simp) own2 (by simp)
  have nr : (L2 ++ Lr).Nodup := by
    refine List.nodup_append.mpr ⟨ndw.1, (List.nodup_append.mp ndr).2.1, fun a ha b hb e => ?_⟩
    subst e
    rcases st.ll a (by simp [hb]) with z | z
    · simp at z
    · obtain ⟨_, xs, e⟩ := g1.own a ha; rw [z] at e; cases e
  refine q v H' O' L2 Lr ⟨EnvR.keep kL e2, rr, nr, ?_, fun hq => ?_⟩
  · have s1 : Stp H O L H1 (Less O2 Lw) L2 := (P.st.trans (Stp.ofO g4 g5 g6)).drop
    refine s1.trans ⟨fun a o e _ => st.fr a o e (by simp), st.nw, fun a o e z _ => st.ol a o e z (by simp), fun a ha => ?_, st.dm⟩
    rcases List.mem_append.mp ha with ha | ha
    · exact .inl ha
    · rcases st.ll a (by simp [ha]) with z | z
      · simp at z
      · exact .inr z
  · have hq' : qb = true ∧ qd = true := by simpa using hq
    exact ⟨(g7 (ht hq'.2)).trans (P.qu hq'.1).1, fun a o e => st.fr a o ((P.qu hq'.1).2 a o e) (by simp)⟩
section
variable {X : Cx} {cl : Nat → Addr} {x : Str} {ks : List Str} {ix : List Nat} {F : Fn} {p pos kpos : Pos} {e : Expr} {kws : List Keyword} {ca : CE} {cb : CBs} {qa qb qd : Bool} {nm : Option Str}
theorem sk_nil : SK X cl true [] cNil := by
  refine PK.imp pk_nil fun σ H Q h => ?_
  obtain ⟨O, L, ρ, bs, ρ', env, nd, c, q⟩ := h
  cases c
  exact q [] H O L [] ⟨env, ⟨rfl, rfl⟩, by rw [List.append_nil]; exact nd, by rw [List.append_nil]; exact Stp.refl _ _ _, fun _ => ⟨rfl, fun _ _ e => e⟩⟩
theorem sk_cons (ha : SE X cl qa e ca) (hb : SK X cl qb kws cb) : SK X cl (qa && qb) (⟨nm, e, kpos⟩ :: kws) (cCons qb ca cb) := PK.imp (pk_cons ha hb) fun σ H Q h => cons_core h
theorem pe_callK0 {CX : CXT} {k : Nat} {f : Addr} {fd : FuncData} {ps : List Str} {sp : Sp} {E : XK} {tk : TA} (G : FnOk X.prog X.w X.K X.mg X.base CX k f fd ps sp) (hr : Room k X.A) (hg : Gl X x) (hm : X.mg x = some (.ref f)) (hk : PySem.W.keepIn X.K (.ref f) = true)
    (hb : KBn X.K fd ps 0 ks (fun _ ws => pick ix ws) (fun _ zs => pick ix zs)) (hx : Passes CX X E) (hkw : PK X kws tk)
    (hall : (backToKw pos (keywordEach kws X.env)).all (·.1.isSome) = true := by rfl) (hks : (backToKw pos (keywordEach kws X.env)).filterMap (·.1) = ks := by rfl) (hdb : (x == ("__debug__" : Str)) = false := by decide)
    (hpl : ((backTo pos (starEach [] X.env)).any (·.1) || (backToKw pos (keywordEach kws X.env)).any (·.1.isNone)) = false := by rfl) :
    PE X (.Call (.Name x p) [] kws pos) (tCallK0 ks.length sp ix E tk) := by
  refine ⟨fun pins s σ H Q I h => ?_⟩
  refine wpAny_Call_Name_kw (ld_glob I hg hm ?_ hdb)
  refine PySem.W.callWith_KW0 (h₀ := X.base) I.ok.mod.kin hk hall ?_ hpl
  refine thn (hkw.run pos pins s σ H _ I h) fun ws s2 ⟨zs, H2, I2, rz, l2, q2⟩ => ⟨I2.kIn, ?_⟩
  rw [hks]
  exact run_fnN (us := []) (vs := []) G hr hb hx I2 .nil rz rfl l2 q2
theorem se_callKV (hf : FnK X cl x ks ix F) (hg : Gl X x) (hkw : SK X cl qb kws cb) (hall : (backToKw pos (keywordEach kws X.env)).all (·.1.isSome) = true := by rfl) (hks : (backToKw pos (keywordEach kws X.env)).filterMap (·.1) = ks := by rfl) (hdb : (x == ("__debug__" : Str)) = false := by decide)
    (hpl : ((backTo pos (starEach [] X.env)).any (·.1) || (backToKw pos (keywordEach kws X.env)).any (·.1.isNone)) = false := by rfl) : SE X cl qb (.Call (.Name x p) [] kws pos) (cCallKV F ix ks.length cb) := by
  obtain ⟨k, f, fd, ps, G, hr, hm, hk, hbd⟩ := hf.ex
  exact PE.imp (pe_callK0 G hr hg hm hk hbd pass0 hkw hall hks hdb hpl) fun σ H Q h => callKV_core h
theorem se_callKP (hf : FnK X cl x ks ix F) (hg : Gl X x) (hkw : SK X cl qb kws cb) (hall : (backToKw pos (keywordEach kws X.env)).all (·.1.isSome) = true := by rfl) (hks : (backToKw pos (keywordEach kws X.env)).filterMap (·.1) = ks := by rfl) (hdb : (x == ("__debug__" : Str)) = false := by decide)
    (hpl : ((backTo pos (starEach [] X.env)).any (·.1) || (backToKw pos (keywordEach kws X.env)).any (·.1.isNone)) = false := by rfl) : SE X cl (qb && qd) (.Call (.Name x p) [] kws pos) (cCallKP qd F ix ks.length cb) := by
  obtain ⟨k, f, fd, ps, G, hr, hm, hk, hbd⟩ := hf.ex
  exact PE.imp (pe_callK0 G hr hg hm hk hbd pass0 hkw hall hks hdb hpl) fun σ H Q h => callKP_core h
end
instance {a b : Int} : Decidable (RgOk a b) := inferInstanceAs (Decidable (_ ∧ _))
def cRgTup (c : CE) : CE := fun ρ => (c ρ).bind fun (b, ρ1) => (intOf b).bind fun j => (chk (decide (RgOk 0 j))).bind fun _ => .ok (.tmp (.fz (.tup (rangeD 0 (j - 0).toNat))), ρ1)
def cRgLst (c : CE) : CE := fun ρ => (c ρ).bind fun (b, ρ1) => (intOf b).bind fun j => (chk (decide (RgOk 0 j))).bind fun _ => .ok (.tmp (.lst ((rangeD 0 (j - 0).toNat).map W.fz)), ρ1)
section
variable {X : Cx} {cl : Nat → Addr} {e : Expr} {ca : CE} {qa : Bool} {p p2 pos pos2 : Pos}
theorem PostT.grow {C : Cfg} {σ : Sg} {H H1 H' : Hp} {O O1 O' : AP} {L L1 Lw : List Addr} {ρ ρ1 : En} {w : W} {v : V} (P : PostT C σ H O L ρ qa ρ1 H1 O1 L1) (g : Gr H1 O1 H' O' Lw) (r : RepW C H' O' w v Lw) : PostE C σ H O L ρ qa (.tmp w) ρ1 v H' O' L1 Lw := by
  refine ⟨P.env.grow g, r, ?_, P.st.trans g.stp, fun q => ⟨(P.qu q).1, fun a o e => g.ex a o ((P.qu q).2 a o e)⟩⟩
  refine List.nodup_append.mpr ⟨P.nd, g.nd, fun a ha b hb e => ?_⟩
  subst e
  obtain ⟨_, xs, e⟩ := P.env.own a ha
  rw [g.nw a hb] at e; cases e
end
end Mi
namespace Mi
open PySem PySem.Spec PyProof.Rows L2
structure Blt (mg : Str → Option Value) : Prop where
  len : mg "len" = none
  abs : mg "abs" = none
  max : mg "max" = none
  min : mg "min" = none
  int : mg "int" = none
  str : mg "str" = none
  bool : mg "bool" = none
  sum : mg "sum" = none
  all : mg "all" = none
  any : mg "any" = none
  tuple : mg "tuple" = none
  list : mg "list" = none
  isinstance : mg "isinstance" = none
  range : mg "range" = none
  enumerate : mg "enumerate" = none
  zip : mg "zip" = none
  sorted : mg "sorted" = none
  reversed : mg "reversed" = none
  set : mg "set" = none
theorem FnM.blk {X : Cx} {cl : Nat → Addr} {x : Str} {F : Fn} (h : FnM X cl x F) {s : Shared} {H : Hp} {scope : Scope} {env : Env} {fp : List Addr} : FnM (X.blk s H scope env fp) cl x F := ⟨h.ex⟩
theorem FnK.blk {X : Cx} {cl : Nat → Addr} {x : Str} {ks : List Str} {ix : List Nat} {F : Fn} (h : FnK X cl x ks ix F) {s : Shared} {H : Hp} {scope : Scope} {env : Env} {fp : List Addr} : FnK (X.blk s H scope env fp) cl x ks ix F := ⟨h.ex⟩
abbrev BX (P : Program) (w : World) (K : PySem.W.Frag) (mg : Str → Option Value) (base : Heap) (N : List Str) (q : Str) (sc : Scope) (f : Addr) (cdv : Value) (A : Around) (outer : List Env) (s : Shared) (H : Hp) (E : XK) : Cx := (cxOf CX0 P w K mg base N q sc f cdv A outer s H E).nox
section
variable {X : Cx} {cl : Nat → Addr} {a b c e : Expr} {es : List Expr} {ca cb : CE} {cbs : CBs} {qa qb : Bool} {pos p p2 p3 p4 : Pos}
theorem dv (i : Nat) {x : Str} (hN : X.N[i]? = some x := by rfl) (hv : Vis X.env.scope x := by first | exact Or.inl rfl | exact Or.inr (Or.inl rfl) | exact Or.inr (Or.inr rfl)) (hd : (x == ("__debug__" : Str)) = false := by decide)
    (hcd : (x == ("__classdict__" : Str)) = false := by decide) : SE X cl true (.Name x pos) (cVar i) := se_var hN hv hd hcd
theorem dAdd (ha : SE X cl qa a ca) (hb : SE X cl qb b cb) : SE X cl (qa && qb) (.BinOp a .Add b pos) (cBin fAdd qb ca cb) := se_bin opr_add ops_add ha hb
theorem dSub (ha : SE X cl qa a ca) (hb : SE X cl qb b cb) : SE X cl (qa && qb) (.BinOp a .Sub b pos) (cBin fSub qb ca cb) := se_bin op_sub ops_sub ha hb
theorem dMul (ha : SE X cl qa a ca) (hb : SE X cl qb b cb) : SE X cl (qa && qb) (.BinOp a .Mult b pos) (cBin fMul qb ca cb) := se_bin opr_mul ops_mul ha hb
theorem dDiv (ha : SE X cl qa a ca) (hb : SE X cl qb b cb) : SE X cl (qa && qb) (.BinOp a .FloorDiv b pos) (cBin fDiv qb ca cb) := se_bin op_fdivW ops_div ha hb
theorem dMod (ha : SE X cl qa a ca) (hb : SE X cl qb b cb) : SE X cl (qa && qb) (.BinOp a .Mod b pos) (cBin fMod qb ca cb) := se_bin op_mod ops_mod ha hb
theorem dPow (ha : SE X cl qa a ca) (hb : SE X cl qb b cb) : SE X cl (qa && qb) (.BinOp a .Pow b pos) (cBin fPow qb ca cb) := se_bin op_pow ops_pow ha hb
theorem dNeg (ha : SE X cl qa a ca) : SE X cl qa (.UnaryOp .USub a pos) (cUn fNeg ca) := se_un un_neg uns_neg ha
theorem dGe (ha : SE X cl qa a ca) (hb : SE X cl qb b cb) : SE X cl (qa && qb) (.Compare a [.GtE] [b] pos) (cBin fGe qb ca cb) := se_cmp op_ge ops_ge ha hb (nomark _)
theorem dEq (hu : X.A.units + 64 < cLine) (ha : SE X cl qa a ca) (hb : SE X cl qb b cb) : SE X cl (qa && qb) (.Compare a [.Eq] [b] pos) (cBin fEq qb ca cb) := se_cmp (op_eqD hu) ops_eq ha hb (nomark _)
theorem dIs (ha : SE X cl qa a ca) (hb : SE X cl qb b cb) : SE X cl (qa && qb) (.Compare a [.Is] [b] pos) (cBin fIsN qb ca cb) := se_cmp op_isN ops_isN ha hb (nomark _)
theorem tLt' (ha : SE X cl qa a ca) (hb : SE X cl qb b cb) : ST X cl (qa && qb) (.Compare a [.Lt] [b] pos) (cTest (cBin fLt qb ca cb)) := st_cmp op_lt ops_lt ha hb (nomark _)
theorem tGt' (ha : SE X cl qa a ca) (hb : SE X cl qb b cb) : ST X cl (qa && qb) (.Compare a [.Gt] [b] pos) (cTest (cBin fGt qb ca cb)) := st_cmp op_gt ops_gt ha hb (nomark _)
theorem tEq' (hu : X.A.units + 64 < cLine) (ha : SE X cl qa a ca) (hb : SE X cl qb b cb) : ST X cl (qa && qb) (.Compare a [.Eq] [b] pos) (cTest (cBin fEq qb ca cb)) := st_cmp (op_eqD hu) ops_eq ha hb (nomark _)
theorem tNe' (hu : X.A.units + 64 < cLine) (ha : SE X cl qa a ca) (hb : SE X cl qb b cb) : ST X cl (qa && qb) (.Compare a [.NotEq] [b] pos) (cTest (cBin fNe qb ca cb)) := st_cmp (op_neD hu) ops_ne ha hb (nomark _)
theorem tIs' (ha : SE X cl qa a ca) (hb : SE X cl qb b cb) : ST X cl (qa && qb) (.Compare a [.Is] [b] pos) (cTest (cBin fIsN qb ca cb)) := st_cmp op_isN ops_isN ha hb (nomark _)
theorem dIx (ha : SE X cl qa a ca) (hb : SE X cl qb b cb) (hs : PlainIx b := by intro _ _; rfl) : SE X cl (qa && qb) (.Subscript a b pos) (cBin fIdx qb ca cb) := PE.imp (pe_ix ix_seq ha hb hs) fun σ H Q h => bin_core ops_idx h
theorem dSl {lo hi : Option Expr} {co ch : CO} {ql qh : Bool} (he : SE X cl qa e ca) (hl : SO X cl ql lo co) (hh : SO X cl qh hi ch) : SE X cl (qa && (ql && qh)) (.Subscript e (.Slice lo hi none p2) pos) (cSl fSl (ql && qh) ca co ch) := se_slice slr_seq sls_seq he hl hh
theorem dLen (hg : Gl X "len") (hm : X.mg "len" = none) (hb : SB X cl qb (e :: es) cbs) (he : starEach (e :: es) X.env = (false, eval e X.env) :: starEach es X.env := by rfl) (hpl : (backTo pos (starEach es X.env)).any (·.1) = false := by rfl) :
    SE X cl qb (.Call (.Name "len" p) (e :: es) [] pos) (cCallB fLen cbs) := se_callB cr_lenA cs_len hg hm PySem.boot_len hb (by decide) (by decide) he hpl
theorem dAbs (hg : Gl X "abs") (hm : X.mg "abs" = none) (hb : SB X cl qb (e :: es) cbs) (he : starEach (e :: es) X.env = (false, eval e X.env) :: starEach es X.env := by rfl) (hpl : (backTo pos (starEach es X.env)).any (·.1) = false := by rfl) :
    SE X cl qb (.Call (.Name "abs" p) (e :: es) [] pos) (cCallB fAbs cbs) := se_callB call_abs cs_abs hg hm (by decide +kernel) hb (by decide) (by decide) he hpl
theorem dMax2 (hc : X.calm = true) (hg : Gl X "max") (hm : X.mg "max" = none) (hb : SB X cl qb (e :: es) cbs) (he : starEach (e :: es) X.env = (false, eval e X.env) :: starEach es X.env := by rfl) (hpl : (backTo pos (starEach es X.env)).any (·.1) = false := by rfl) :
    SE X cl qb (.Call (.Name "max" p) (e :: es) [] pos) (cCallB fMax2 cbs) := se_callB (call_max2 hc) cs_max2 hg hm (by decide +kernel) hb (by decide) (by decide) he hpl
theorem dMin2 (hc : X.calm = true) (hg : Gl X "min") (hm : X.mg "min" = none) (hb : SB X cl qb (e :: es) cbs) (he : starEach (e :: es) X.env = (false, eval e X.env) :: starEach es X.env := by rfl) (hpl : (backTo pos (starEach es X.env)).any (·.1) = false := by rfl) :
    SE X cl qb (.Call (.Name "min" p) (e :: es) [] pos) (cCallB fMin2 cbs) := se_callB (call_min2 hc) cs_min2 hg hm (by decide +kernel) hb (by decide) (by decide) he hpl
theorem dAll (hc : X.calm = true) (hg : Gl X "all") (hm : X.mg "all" = none) (hb : SB X cl qb (e :: es) cbs) (he : starEach (e :: es) X.env = (false, eval e X.env) :: starEach es X.env := by rfl) (hpl : (backTo pos (starEach es X.env)).any (·.1) = false := by rfl) :
    SE X cl qb (.Call (.Name "all" p) (e :: es) [] pos) (cCallB fAll cbs) := se_callB (cr_all hc) cs_all hg hm (by decide +kernel) hb (by decide) (by decide) he hpl
theorem dInt (hg : Gl X "int") (hm : X.mg "int" = none) (hb : SB X cl qb (e :: es) cbs) (he : starEach (e :: es) X.env = (false, eval e X.env) :: starEach es X.env := by rfl) (hpl : (backTo pos (starEach es X.env)).any (·.1) = false := by rfl) :
    SE X cl qb (.Call (.Name "int" p) (e :: es) [] pos) (cCallB fInt cbs) := se_callTy call_int1 cs_int hg hm (by decide +kernel) hb (by decide) (by decide) he hpl
theorem dTuple (hg : Gl X "tuple") (hm : X.mg "tuple" = none) (hb : SB X cl qb (e :: es) cbs) (he : starEach (e :: es) X.env = (false, eval e X.env) :: starEach es X.env := by rfl) (hpl : (backTo pos (starEach es X.env)).any (·.1) = false := by rfl) :
    SE X cl qb (.Call (.Name "tuple" p) (e :: es) [] pos) (cCallB fTuple cbs) := se_callTy call_tuple_of cs_tuple hg hm (by decide +kernel) hb (by decide) (by decide) he hpl
theorem dList (hg : Gl X "list") (hm : X.mg "list" = none) (hb : SB X cl qb (e :: es) cbs) (he : starEach (e :: es) X.env = (false, eval e X.env) :: starEach es X.env := by rfl) (hpl : (backTo pos (starEach es X.env)).any (·.1) = false := by rfl) :
    SE X cl qb (.Call (.Name "list" p) (e :: es) [] pos) (cCallB fList cbs) := se_callTy call_list_of cs_list hg hm (by decide +kernel) hb (by decide) (by decide) he hpl
theorem tyInt (hg : Gl X "int") (hm : X.mg "int" = none) : TyN X "int" "int" := ⟨hg, hm, by decide +kernel, by decide, by decide⟩
theorem tyBool (hg : Gl X "bool") (hm : X.mg "bool" = none) : TyN X "bool" "bool" := ⟨hg, hm, by decide +kernel, by decide, by decide⟩
theorem tyStr (hg : Gl X "str") (hm : X.mg "str" = none) : TyN X "str" "str" := ⟨hg, hm, by decide +kernel, by decide, by decide⟩
theorem tyTuple (hg : Gl X "tuple") (hm : X.mg "tuple" = none) : TyN X "tuple" "tuple" := ⟨hg, hm, by decide +kernel, by decide, by decide⟩
theorem tyList (hg : Gl X "list") (hm : X.mg "list" = none) : TyN X "list" "list" := ⟨hg, hm, by decide +kernel, by decide, by decide⟩
end
theorem fn_def {P : Program} {w : World} {K : PySem.W.Frag} {mg : Str → Option Value} {base : Heap} {cl : Nat → Addr} {x q : Str} {st : Stmt} {N ps : List Str} {k : Nat} {f : Addr} {fd : FuncData} {io : KP} {body : CS}
    (F : FunD K x q (defArgs st) (defBody st) (defScope st) [] [] f fd) (S : FnScope N ps (defScope st)) (hio : ∀ i, ps.length ≤ i → io i = false)
    (hb : ∀ (cdv : Value) (A : Around) (outer : List Env) (s : Shared) (H : Hp) (E : XK), Room k (A.deeper (envOfC q (defScope st) s.heap.objs.size f cdv)) → SSs (BX P w K mg base N q (defScope st) f cdv A outer s H E) cl io (defBody st) body) :
    FnOk P w K mg base CX0 (k + 1) f fd ps (spM ⟨K, cl⟩ (runDef ps.length N.length io body)) := by
  refine F.ok S (fun vs H Q E h => ?_) (fun cdv A outer s H vs Q E hr h => ⟨tS ⟨K, cl⟩ io body, PSs.nox (hb cdv A outer s H E hr), def_core hio h⟩)
  obtain ⟨O, L, ws, r, back, rs, nd, c, _⟩ := h
  obtain ⟨_, c1, _⟩ := Res.of_bind c
  have hl : ws.length = ps.length := by simpa using chk_ok c1
  rw [rs.length, hl]
end Mi
namespace Mi
open PySem PySem.Spec PyProof.Rows L2
def ioOf (l : List Nat) : KP := fun i => l.contains i
theorem ioOf_out {l : List Nat} {n : Nat} (h : (l.all fun j => decide (j < n)) = true) : ∀ i, n ≤ i → ioOf l i = false := fun i hi => by
  unfold ioOf
  cases e : l.contains i with
  | false => rfl
  | true =>
    have := List.all_eq_true.mp h i (by simpa using e)
    have := of_decide_eq_true this
    omega
theorem vals_pick {zs : List V} {ws : List Value} (r : Vals zs ws) : ∀ ix : List Nat, Vals (pick ix zs) (pick ix ws)
  | [] => .nil
  | i :: ix => by
    unfold pick
    rw [List.filterMap_cons, List.filterMap_cons]
    cases h : zs[i]? with
    | none =>
      rw [Vals.none_of r h]
      exact vals_pick r ix
    | some x =>
      obtain ⟨u, hu, ru⟩ := Vals.get r h
      rw [hu]
      exact .cons ru (vals_pick r ix)
section
variable {K : PySem.W.Frag} {x qual : Str} {params : Arguments} {body : List Stmt} {scope : Scope} {f : Addr} {fd : FuncData} {ps : List Str}
theorem kbn_of {ks : List Str} {ix : List Nat} (F : FunD K x qual params body scope [] [] f fd)
    (h : ∀ (kV doc pm : Value) (an : Option Addr) (cdv ct : Value) (us : List Value), us.length = ks.length → bindArgs (PySem.W.fnOf x qual params body scope .none kV doc pm an cdv ct) ⟨[], ks.zip us⟩ = pure (ps.zip (pick ix us))) :
    KBn K fd ps 0 ks (fun _ ws => pick ix ws) (fun _ zs => pick ix zs) := by
  obtain ⟨oc, od, dV, kV, doc, pm, an, cdv, ct, osl, rfl, lk, hcd, hD, hK⟩ := F.ex
  rcases hD with ⟨_, rfl⟩ | ⟨e, _⟩
  · refine ⟨fun s us ws X l1 l2 => ?_, fun r1 r2 => vals_pick r2 ix⟩
    cases us with
    | nil => exact .of_eq (h kV doc pm an cdv ct ws l2)
    | cons u r => cases l1
  · exact absurd rfl e
end
structure Dn (P : Program) (w : World) (K : PySem.W.Frag) (mg : Str → Option Value) (base : Heap) (cl : Nat → Addr) (x : Str) (k : Nat) (F : Fn) : Prop where
  ex : ∃ (f : Addr) (fd : FuncData) (ps : List Str), FnOk P w K mg base CX0 k f fd ps (spM ⟨K, cl⟩ F) ∧ mg x = some (.ref f) ∧ PySem.W.keepIn K (.ref f) = true ∧ Binds K fd ps []
structure Dk (P : Program) (w : World) (K : PySem.W.Frag) (mg : Str → Option Value) (base : Heap) (cl : Nat → Addr) (x : Str) (ks : List Str) (ix : List Nat) (k : Nat) (F : Fn) : Prop where
  ex : ∃ (f : Addr) (fd : FuncData) (ps : List Str), FnOk P w K mg base CX0 k f fd ps (spM ⟨K, cl⟩ F) ∧ mg x = some (.ref f) ∧ PySem.W.keepIn K (.ref f) = true ∧ KBn K fd ps 0 ks (fun _ ws => pick ix ws) (fun _ zs => pick ix zs)
section
variable {P : Program} {w : World} {K : PySem.W.Frag} {mg : Str → Option Value} {base : Heap} {cl : Nat → Addr} {x : Str} {k j : Nat} {F : Fn} {N : List Str} {q : Str} {sc : Scope} {f : Addr} {cdv : Value} {A : Around} {outer : List Env} {s : Shared} {H : Hp} {E : XK}
theorem Dn.fm (d : Dn P w K mg base cl x k F) (hr : Room j (A.deeper (envOfC q sc s.heap.objs.size f cdv))) (h : k ≤ j) : FnM (BX P w K mg base N q sc f cdv A outer s H E) cl x F := by
  obtain ⟨f, fd, ps, G, m, kp, b⟩ := d.ex
  exact ⟨k, f, fd, ps, G, hr.mono h, m, kp, b⟩
theorem Dk.fm {ks : List Str} {ix : List Nat} (d : Dk P w K mg base cl x ks ix k F) (hr : Room j (A.deeper (envOfC q sc s.heap.objs.size f cdv))) (h : k ≤ j) : FnK (BX P w K mg base N q sc f cdv A outer s H E) cl x ks ix F := by
  obtain ⟨f, fd, ps, G, m, kp, b⟩ := d.ex
  exact ⟨k, f, fd, ps, G, hr.mono h, m, kp, b⟩
end
abbrev errF : Fn := fun _ => .err
theorem fn_zero {P : Program} {w : World} {K : PySem.W.Frag} {mg : Str → Option Value} {base : Heap} {cl : Nat → Addr} {x q : Str} {st : Stmt} {N ps : List Str} {k : Nat} {f : Addr} {fd : FuncData}
    (F : FunD K x q (defArgs st) (defBody st) (defScope st) [] [] f fd) (S : FnScope N ps (defScope st)) : FnOk P w K mg base CX0 (k + 1) f fd ps (spM ⟨K, cl⟩ errF) := by
  refine F.ok S (fun vs H Q E h => ?_) (fun cdv A outer s H vs Q E hr h => ?_)
  · obtain ⟨O, L, ws, r, back, rs, nd, c, _⟩ := h
    cases c
  · obtain ⟨O, L, ws, r, back, rs, nd, c, _⟩ := h
    cases c
theorem ints_rep {C : Cfg} {H : Hp} {O : AP} : ∀ ns : List Int, RepDs C H O (ns.map D.int) (ns.map V.int)
  | [] => rfl
  | n :: ns => ⟨.int n, _, rfl, rfl, ints_rep ns⟩
theorem law_sp {K : PySem.W.Frag} {cl : Nat → Addr} {F : Fn} {H : Hp} {a : Addr} {ns : List Int} {E : XK} (hS : SqL K H a (ns.map V.int)) (h : ∃ bk, F [.fz (.scr (ns.map D.int))] = .ok (.fz (.bl true), bk)) : spM ⟨K, cl⟩ F [.ref a] H (fun v _ => v = .bl true) E := by
  obtain ⟨bk, h⟩ := h
  have sc : Sc ⟨K, cl⟩ H (fun _ => False) a (ns.map V.int) := by
    rcases hS with z | z
    · exact .inl ⟨z, fun q => q⟩
    · exact .inr z
  have r0 : RepW ⟨K, cl⟩ H (fun _ => False) (.fz (.scr (ns.map D.int))) (.ref a) [] := ⟨rfl, a, ns.map V.int, rfl, sc, ints_rep ns⟩
  have rs : RepWs ⟨K, cl⟩ H (fun _ => False) [.fz (.scr (ns.map D.int))] [.ref a] [] := ⟨.ref a, [], [], [], rfl, rfl, r0, rfl, rfl⟩
  exact ⟨fun _ => False, [], _, _, bk, rs, List.nodup_nil, h, fun v H' O' L' Lr r _ _ _ => r.2⟩
end Mi
namespace Mi
open PySem PySem.Spec PyProof.Rows L2
def cChainI (p p' : Int → Int → Bool) (ca cb cc : CE) : CE := fun ρ => (ca ρ).bind fun (a, ρ1) => (intOf a).bind fun i => (cb ρ1).bind fun (b, ρ2) => (intOf b).bind fun j =>
  if p i j = true then (cc ρ2).bind fun (c, ρ3) => (intOf c).bind fun k => .ok (.tmp (.fz (.bl (p' j k))), ρ3) else .ok (.tmp (.fz (.bl false)), ρ2)
theorem PostT.bl {C : Cfg} {σ : Sg} {H H1 : Hp} {O O1 : AP} {L L1 : List Addr} {ρ ρ1 : En} {q : Bool} (P : PostT C σ H O L ρ q ρ1 H1 O1 L1) (k : Bool) : PostE C σ H O L ρ q (.tmp (.fz (.bl k))) ρ1 (.bl k) H1 O1 L1 [] :=
  ⟨P.env, ⟨rfl, rfl⟩, by rw [List.append_nil]; exact P.nd, by rw [List.append_nil]; exact P.st, P.qu⟩
section
variable {X : Cx} {cl : Nat → Addr} {a b c : Expr} {ca cb cc : CE} {qa qb qc : Bool} {pos : Pos}
theorem dg {x z : Str} {t : _} (hg : Gl X x) (hm : X.mg x = some (.str z t)) (hd : (x == ("__debug__" : Str)) = false := by decide) : SE X cl true (.Name x pos) (cC (.str z)) := se_c (v := .str z) (pe_glob hg hm (show ∃ t', Value.str z t = Value.str z t' from ⟨t, rfl⟩) hd) fun _ _ => rfl
end
theorem env_setF {C : Cfg} {kp : KP} {σ : Sg} {H : Hp} {O : AP} {L Lw T : List Addr} {ρ : En} {i : Nat} {w : W} {v : V} (env : EnvR C H O ρ σ L) (r : RepW C H O w v Lw) (nd : (L ++ (Lw ++ T)).Nodup) (ht : ∀ a ∈ T, O a) (hi : i < ρ.length) (hk : kp i = false) :
    ∃ O' L', EnvR C H O' (ρ.set i (some w)) (σ.set i (some v)) L' ∧ (L' ++ T).Nodup ∧ KeepL H O H O' T ∧ (∀ a, O' a → O a) ∧ (∀ a ∈ L', a ∈ L ++ Lw) ∧ (∀ a, O a → a ∉ L ++ Lw → O' a) ∧ ∀ j, kp j = true → (σ.set i (some v))[j]? = σ[j]? := by
  obtain ⟨y, M1, M0, q1, q2, q4, q5⟩ := env.focus (List.getElem?_eq_getElem hi)
  have pm : (L ++ (Lw ++ T)).Perm (M1 ++ (M0 ++ (Lw ++ T))) := by rw [← List.append_assoc M1]; exact q4.append_right (Lw ++ T)
  have ndM := pm.nodup_iff.mp nd
  have ow : ∀ a ∈ L ++ (Lw ++ T), O a := fun a ha => by
    rcases List.mem_append.mp ha with h | h
    · exact (env.own a h).1
    · rcases List.mem_append.mp h with h | h
      · exact (RepW.own w v Lw r a h).1
      · exact ht a h
  have dis : ∀ a ∈ M0 ++ (Lw ++ T), a ∉ M1 := fun a ha z => (List.nodup_append.mp ndM).2.2 a z a ha rfl
  have k0 : KeepL H O H (Less O M1) (M0 ++ (Lw ++ T)) := keep_less dis fun a ha => ow a (pm.mem_iff.mpr (by simp only [List.mem_append] at ha ⊢; exact .inr ha))
  obtain ⟨L', p1, p2⟩ := q5 H (Less O M1) (some w) (some v) Lw (k0.sub fun a ha => by simp [ha]) ⟨v, rfl, RepW.keep w v Lw (k0.sub fun a ha => by simp [ha]) r⟩
  have nd0 := (List.nodup_append.mp ndM).2.1
  refine ⟨Less O M1, L', p2, ?_, k0.sub fun a ha => by simp [ha], fun a q => q.1, fun a ha => ?_, fun a q n => ⟨q, fun z => n ?_⟩, fun j hj => ?_⟩
  · have : (M0 ++ Lw ++ T).Nodup := by rw [List.append_assoc]; exact nd0
    exact ((p1.trans List.perm_append_comm).append_right T).nodup_iff.mpr this
  · have h1 := p1.mem_iff.mp ha
    rcases List.mem_append.mp h1 with h | h
    · simp [h]
    · exact List.mem_append.mpr (.inl (q4.mem_iff.mpr (by simp [h])))
  · exact List.mem_append.mpr (.inl (q4.mem_iff.mpr (by simp [z])))
  · have hne : i ≠ j := fun z => by rw [z, hj] at hk; cases hk
    rw [List.getElem?_set_ne hne]
def cPar2 (i j : Nat) (cb : CBs) : CS := fun ρ => (cb ρ).bind fun (bs, ρ1) => (chk (bs.all flatB)).bind fun _ => (takes bs ρ1).bind fun (ws, ρ2) => match ws with
  | [v, w] => (chk (decide (i < ρ2.length ∧ j < ρ2.length))).bind fun _ => .ok (.nx, (ρ2.set i (some v)).set j (some w))
  | _ => .err
section
variable {X : Cx} {cl : Nat → Addr} {a b : Expr} {cb : CBs} {qb : Bool} {pos : Pos} {kp : KP}
theorem ss_par2 {i j : Nat} {x y : Str} {px py pt : Pos} {kt k2 pt2} (hc : X.calm = true) (hN : X.N.Nodup) (hi : X.N[i]? = some x) (hj : X.N[j]? = some y) (hij : i ≠ j) (hx : X.env.scope.names.lookup x = some .local) (hy : X.env.scope.names.lookup y = some .local)
    (hki : kp i = false) (hkj : kp j = false) (hb : SB X cl qb [a, b] cb) (hw : swappedStores [.Tuple [.Name x px, .Name y py] kt pt] (.Tuple [a, b] k2 pt2) X.env = pure (some [x, y]))
    (hs : swapsWithSole [.Tuple [.Name x px, .Name y py] kt pt] (.Tuple [a, b] k2 pt2) pos.line X.env = pure false := by rfl) : SS X cl kp (.Assign [.Tuple [.Name x px, .Name y py] kt pt] (.Tuple [a, b] k2 pt2) pos) (cPar2 i j cb) := by
  refine PS.imp (ps_par hc hN hi hj hij hx hy hb hw hs) fun Dn σ H h => ?_
  obtain ⟨O, L, ρ, fl, ρ', env, nd, c, q⟩ := h
  obtain ⟨⟨bs, ρ1⟩, c1, c⟩ := Res.of_bind c
  obtain ⟨_, c2, c⟩ := Res.of_bind c
  obtain ⟨⟨ws, ρ2⟩, c3, c⟩ := Res.of_bind c
  refine ⟨O, L, ρ, bs, ρ1, env, nd, c1, fun vs H1 O1 L1 Lb P => ?_⟩
  obtain ⟨O2, L2, Lw, g1, g2, g3, g4, g5, g6, _⟩ := takes_rep P.br P.env P.nd (chk_ok c2) c3
  match ws, c, g2 with
  | [v, w], c, g2 =>
    obtain ⟨_, c4, c⟩ := Res.of_bind c
    cases c
    have hl := chk_dec c4
    obtain ⟨xv, r, La, Lr, e1, e2, r1, yv, r', Lc, Ld, e3, e4, r2, e5, e6⟩ := g2
    subst e3; subst e4; subst e5; subst e6; subst e1; subst e2
    rw [List.append_nil] at g3
    have g5 : ∀ a ∈ L2 ++ (La ++ Lc), a ∈ L1 ++ Lb := fun a ha => g5 a (by rw [List.append_nil]; exact ha)
    have o2 : ∀ z ∈ Lc, O2 z := fun z hz => (RepW.own w yv Lc r2 z hz).1
    obtain ⟨O3, L3, f1, f2, f3, f4, f5, f6, f7⟩ := env_setF (kp := kp) g1 r1 g3 o2 hl.1 hki
    obtain ⟨O4, L4, P4⟩ := env_set (kp := kp) f1 (RepW.keep w yv Lc f3 r2) f2 (by rw [List.length_set]; exact hl.2) hkj
    refine ⟨xv, yv, rfl, q _ H1 O4 L4 [] ⟨P4.env, P4.nd, ?_, fun k hk => (P4.kp k hk).trans (f7 k hk), P4.ln.trans (List.length_set ..)⟩ rfl⟩
    have s1 : Stp H1 O1 (L1 ++ Lb) H1 O2 (L2 ++ (La ++ Lc)) := Stp.ofO g4 g5 g6
    have s2 : Stp H1 O2 (L2 ++ (La ++ Lc)) H1 O3 (L3 ++ Lc) := Stp.ofO f4 (fun z hz => by
      rcases List.mem_append.mp hz with h | h
      · have := f5 z h; simp only [List.mem_append] at this ⊢; rcases this with h | h; exact .inl h; exact .inr (.inl h)
      · simp [h]) fun z q n => f6 z q fun m => n (by simp only [List.mem_append] at m ⊢; rcases m with h | h; exact .inl h; exact .inr (.inl h))
    exact ((P.st.trans s1).trans s2).trans P4.st
end
end Mi
namespace Mi
open PySem PySem.Spec PyProof.Rows L2
def cAugI (i : Nat) (f : Int → Int → Int) (ce : CE) : CS := fun ρ => match ρ[i]? with
  | some (some (.fz (.int n))) => (ce ρ).bind fun (b, ρ1) => (intOf b).bind fun k => (chk (decide (i < ρ1.length))).bind fun _ => .ok (.nx, ρ1.set i (some (.fz (.int (f n k)))))
  | _ => .err
section
variable {X : Cx} {cl : Nat → Addr} {e : Expr} {ce : CE} {q : Bool} {pos : Pos} {kp : KP}
end
end Mi
namespace Mi
open PySem PySem.Spec PyProof.Rows L2
section
variable {X : Cx} {cl : Nat → Addr} {a b c : Expr} {ca cb : CE} {qa qb : Bool} {pos : Pos}
end
def cPar3 (i j l : Nat) (cb : CBs) : CS := fun ρ => (cb ρ).bind fun (bs, ρ1) => (chk (bs.all flatB)).bind fun _ => (takes bs ρ1).bind fun (ws, ρ2) => match ws with
  | [u, v, w] => (chk (decide (i < ρ2.length ∧ j < ρ2.length ∧ l < ρ2.length))).bind fun _ => .ok (.nx, ((ρ2.set i (some u)).set j (some v)).set l (some w))
  | _ => .err
end Mi
namespace Mi
open PySem PySem.Spec PyProof.Rows L2
section
variable {X : Cx} {cl : Nat → Addr} {a b c : Expr} {cb : CBs} {qb : Bool} {pos : Pos} {kp : KP}
end
end Mi
namespace Mi
open PySem PySem.Spec PyProof.Rows L2
def extV : W → Option (List W)
  | .lst ws => some ws
  | .fz (.lst ds) => some (ds.map W.fz)
  | _ => none
def cExt (qa : Bool) (co ca : CE) : CE := fun ρ => (co ρ).bind fun (b, ρ1) => (isPl b ρ1).bind fun (i, p) => (pend qa (.bor i p)).bind fun _ => (ca ρ1).bind fun (a, ρ2) => (chk (p.isEmpty || isTmp a)).bind fun _ => (take a ρ2).bind fun (w, ρ3) =>
  (Res.of (extV w)).bind fun ws2 => (mutP i p (fun ws => if ws.length + ws2.length ≤ 16777216 then some (ws ++ ws2) else none) ρ3).bind fun ρ4 => .ok (.tmp (.fz .non), ρ4)
section
variable {X : Cx} {cl : Nat → Addr} {o e : Expr} {co ca : CE} {qo qa : Bool} {apos cpos : Pos}
end
end Mi
namespace Mi
open PySem PySem.Spec PyProof.Rows L2
def cRgTup2 (ca cb : CE) : CE := fun ρ => (ca ρ).bind fun (a, ρ1) => (intOf a).bind fun i => (cb ρ1).bind fun (b, ρ2) => (intOf b).bind fun j => (chk (decide (RgOk i j))).bind fun _ => .ok (.tmp (.fz (.tup (rangeD i (j - i).toNat))), ρ2)
def cRgLst2 (ca cb : CE) : CE := fun ρ => (ca ρ).bind fun (a, ρ1) => (intOf a).bind fun i => (cb ρ1).bind fun (b, ρ2) => (intOf b).bind fun j => (chk (decide (RgOk i j))).bind fun _ => .ok (.tmp (.lst ((rangeD i (j - i).toNat).map W.fz)), ρ2)
section
variable {X : Cx} {cl : Nat → Addr} {e e2 : Expr} {ca cb : CE} {qa qb : Bool} {p p2 pos pos2 : Pos}
end
end Mi
namespace Mi
open PySem PySem.Spec PyProof.Rows L2 HT
section
variable {prog : Program} {w : World} {A : Around} {s : Shared} {E : Value → Shared → Prop}
end
end Mi
namespace Mi
open PySem PySem.Spec PyProof.Rows L2
theorem PG.or {X : Cx} {e : Expr} {t t' : TG} (h : PG X e t) (h' : PG X e t') : PG X e (fun v σ H Q => t v σ H Q ∨ t' v σ H Q) :=
  ⟨fun pins s σ H v u Q I r q => q.elim (fun q => h.run pins s σ H v u Q I r q) (fun q => h'.run pins s σ H v u Q I r q)⟩
def gUnp (gs : CGs) : CG := fun w ρ => match frz w with
  | .tup ds => gs ds ρ
  | .lst ds => gs ds ρ
  | _ => .err
theorem Stp.give {H H' : Hp} {O O' : AP} {L Lw M : List Addr} (s : Stp H (Less O Lw) L H' O' M) : Stp H O (L ++ Lw) H' O' M where
  fr := fun a o e n => s.fr a o e fun z => n (by simp [z])
  nw := fun a q => (s.nw a q).imp (fun z => z.1) id
  ol := fun a o e q n => s.ol a o e ⟨q, fun z => n (by simp [z])⟩ fun z => n (by simp [z])
  ll := fun a h => (s.ll a h).imp (fun z => by simp [z]) id
  dm := s.dm
theorem sg_unp {X : Cx} {cl : Nat → Addr} {kp : KP} {pos : Pos} {es : List Expr} {k n : Nat} {gs : CGs} (hc : X.calm = true) (h : SGs X cl kp es gs) (hl : ∀ ds ρ ρ', gs ds ρ = .ok ρ' → ds.length = n)
    (hn : (assignEach es X.env).length = n := by rfl) (hst : (assignEach es X.env).findIdx? (·.1) = none := by rfl) : SG X cl kp (.Tuple es k pos) (gUnp gs) := by
  refine PG.imp (PG.or (pg_tup hc h hn hst) (pg_unl hc h hn hst)) fun v σ H Q hw => ?_
  obtain ⟨O, L, Lw, ρ, w, ρ', env, r, nd, c, q⟩ := hw
  have ndd := List.nodup_append.mp nd
  have rD : RepD ⟨X.K, cl⟩ H (Less O Lw) (frz w) v := RepW.frz w v Lw (fun a z => ⟨z.1, z.2⟩) r
  have env' : EnvR ⟨X.K, cl⟩ H (Less O Lw) ρ σ L := env.less fun a ha z => ndd.2.2 a ha a z rfl
  have fin : ∀ σ' H' O' L', PostS ⟨X.K, cl⟩ kp σ H (Less O Lw) L ρ' σ' H' O' L' [] → Q σ' H' := fun σ' H' O' L' P => q σ' H' O' L' ⟨P.env, P.nd, P.st.give, P.kp, P.ln⟩
  unfold gUnp at c
  split at c
  · rename_i ds e
    rw [e] at rD
    obtain ⟨a, xs, e1, tp, rs⟩ := rD
    exact .inl ⟨a, xs, e1, tp.sq, by rw [rs.length]; exact hl _ _ _ c, Less O Lw, L, ρ, ds, ρ', env', rs, ndd.1, c, fin⟩
  · rename_i ds e
    rw [e] at rD
    obtain ⟨a, xs, e1, h1, n1, rs⟩ := rD
    exact .inr ⟨a, xs, e1, .inl (.inl h1), by rw [rs.length]; exact hl _ _ _ c, Less O Lw, L, ρ, ds, ρ', env', rs, ndd.1, c, fin⟩
  · cases c
end Mi
namespace Mi
open PySem PySem.Spec PyProof.Rows L2
def cBinF (f : W → W → Res W) (q : Bool) (ca cb : CE) : CE := fun ρ => (ca ρ).bind fun (a, ρ1) => (pend q a).bind fun _ => (cb ρ1).bind fun (b, ρ2) => (chk (Mi.flatB b)).bind fun _ => (take a ρ2).bind fun (x, ρ3) => (cont b ρ3).bind fun y => (f (.fz (frz x)) y).bind fun w => .ok (.tmp w, ρ3)
theorem binF_core {C : Cfg} {r : R2} {f : W → W → Res W} {qa qb : Bool} {ca cb : CE} (hs : OpS C r f) {σ : Sg} {H : Hp} {Q : VK} (h : tE C false (cBinF f qb ca cb) σ H Q) : tOp r (tE C qa ca) (tE C qb cb) σ H Q := by
  obtain ⟨O, L, ρ, b0, ρ', env, nd, c, q⟩ := h
  obtain ⟨⟨a, ρ1⟩, c1, c⟩ := Res.of_bind c
  obtain ⟨⟨⟩, c2, c⟩ := Res.of_bind c
  obtain ⟨⟨b, ρ2⟩, c3, c⟩ := Res.of_bind c
  obtain ⟨_, c0, c⟩ := Res.of_bind c
  obtain ⟨⟨x, ρ3⟩, c4, c⟩ := Res.of_bind c
  obtain ⟨y, c5, c⟩ := Res.of_bind c
  obtain ⟨w, c6, c⟩ := Res.of_bind c
  cases c
  have fb := chk_ok c0
  refine ⟨O, L, ρ, a, ρ1, env, nd, c1, fun va H1 O1 L1 La P1 => ?_⟩
  have own1 : ∀ z ∈ L1, O1 z := fun z hz => (P1.env.own z hz).1
  refine ⟨O1, L1, ρ1, b, ρ2, P1.env, (List.nodup_append.mp P1.nd).1, c3, fun vb H2 O2 L2 Lb P2 => ?_⟩
  obtain ⟨ba, nd2⟩ := P1.br.pend own1 P1.nd P2 c2
  -- (L2 ++ Lb) ++ La
  have nA := List.nodup_append.mp nd2
  have nB := List.nodup_append.mp nA.1
  have ndA : (L2 ++ La).Nodup := List.nodup_append.mpr ⟨nB.1, nA.2.1, fun a ha b hb e => nA.2.2 a (by simp [ha]) b hb e⟩
  obtain ⟨O3, L3, Lw, g1, g2, g3, g4, g5, g6⟩ := take_rep ba P2.env ndA c4
  have dB : ∀ z ∈ Lb, z ∉ L2 ++ La := fun z hz q => by
    rcases List.mem_append.mp q with q | q
    · exact nB.2.2 z q z hz rfl
    · exact nA.2.2 z (by simp [hz]) z q rfl
  have ownB : ∀ z ∈ Lb, O2 z := by
    intro z hz
    cases b with
    | tmp wb => exact (RepW.own wb vb Lb P2.br z hz).1
    | bor i p => obtain ⟨e, _⟩ := P2.br; rw [e] at hz; simp at hz
  have kB : KeepL H2 O2 H2 O3 Lb := ⟨fun z o e n => ⟨e, fun q => n (g4 z q)⟩, fun z hz o e => ⟨e, g6 z (ownB z hz) (dB z hz)⟩⟩
  have bb : BR C H2 O3 ρ' σ b vb Lb := BR.keep fb P2.br kB
  have ndd := List.nodup_append.mp g3
  have d3 : ∀ z ∈ L3, z ∉ Lb ++ Lw := fun z hz q => by
    rcases List.mem_append.mp q with q | q
    · exact dB z q (g5 z (by simp [hz]))
    · exact ndd.2.2 z hz z q rfl
  have nd4 : (L3 ++ (Lb ++ Lw)).Nodup := List.nodup_append.mpr ⟨ndd.1, List.nodup_append.mpr ⟨nB.2.1, ndd.2.1, fun a ha b hb e => by subst e; exact dB a ha (g5 a (by simp [hb]))⟩, fun a ha b hb e => by subst e; exact d3 a ha hb⟩
  obtain ⟨Ly, ry, _⟩ := cont_rep (T := Lb ++ Lw) bb g1 ndd.1 d3 (fun z hz => by simp [hz]) c5
  have rx : RepD C H2 (Less O3 (Lb ++ Lw)) (frz x) va := RepW.frz x va Lw (fun a q => ⟨q.1, fun z => q.2 (by simp [z])⟩) g2
  refine hs H2 (Less O3 (Lb ++ Lw)) va vb (.fz (frz x)) y w [] Ly _ ⟨rfl, rx⟩ ry c6 fun v H' O' Lw' rw' g => ?_
  refine q v H' O' L3 Lw' (post_of g1 nd4 ?_ (fun hq => by cases hq) g rw')
  refine (P1.st.trans (P2.st.frame La)).trans (Stp.ofO g4 (fun z hz => ?_) (fun z q n => g6 z q fun k => n ?_))
  · rcases List.mem_append.mp hz with hz | hz
    · have := g5 z (by simp [hz])
      rcases List.mem_append.mp this with k | k <;> simp [k]
    · rcases List.mem_append.mp hz with hz | hz
      · simp [hz]
      · have := g5 z (by simp [hz])
        rcases List.mem_append.mp this with k | k <;> simp [k]
  · rcases List.mem_append.mp k with k | k <;> simp [k]
section
variable {X : Cx} {cl : Nat → Addr} {a b : Expr} {ca cb : CE} {qa qb : Bool} {pos : Pos}
theorem se_binF {op : Operator} {r : R2} {f : W → W → Res W} (ho : OpR X (binaryOp op) r) (hs : OpS ⟨X.K, cl⟩ r f) (ha : SE X cl qa a ca) (hb : SE X cl qb b cb) : SE X cl false (.BinOp a op b pos) (cBinF f qb ca cb) :=
  PE.imp (pe_op ho ha hb) fun σ H Q h => binF_core hs h
end
def chain (l : List CS) (z : CS) : CS := l.foldr cSeq z
end Mi
namespace Mi
open PySem PySem.Spec PyProof.Rows L2
def mutS (i : Nat) (p : List Nat) (k : Int) (w : W) (ρ : En) : Res En := mutP i p (fun ws => match ixN ws.length k with
    | some j => some (ws.set j w)
    | none => none) ρ
def mutA (i : Nat) (p : List Nat) (w : W) (ρ : En) : Res En := mutP i p (fun ws => if ws.length < 16777216 then some (ws ++ [w]) else none) ρ
def fzT (b : B) (ρ : En) : Res (W × En) := (take b ρ).bind fun (w, ρ') => .ok (.fz (frz w), ρ')
def backs1 (io : KP) (n : Nat) (w x : W) : Res W := if io n = true then .ok x else match w with
    | .fz d => .ok (.fz d)
    | .lst _ => .err
def lcT (vs : List Nat) (g : CG) (ct : CT) (ce : CE) (dl : List D) (ρ : En) : Res (List W × En) := (ce ρ).bind fun (b, ρc) => (take b ρc).bind fun (w, ρd) => (lcL vs g ct ce dl (wipeE ρd vs)).bind fun (ws, ρ') => .ok (w :: ws, ρ')
def kbin5 (op : W → W → Res W) (q : Bool) (ca : CE) (cb : CE) (ρ : En) (a : B) (ρ1 : En) (u : Unit) (b : B) (ρ2 : En) (x : W) (y : W) : (W) → Res (B × En) := fun z => match z with
  | w => .ok (.tmp w, ρ2)
def kbin4 (op : W → W → Res W) (q : Bool) (ca : CE) (cb : CE) (ρ : En) (a : B) (ρ1 : En) (u : Unit) (b : B) (ρ2 : En) (x : W) : (W) → Res (B × En) := fun z => match z with
  | y => (op x y).bind (kbin5 op q ca cb ρ a ρ1 u b ρ2 x y)
def kbin3 (op : W → W → Res W) (q : Bool) (ca : CE) (cb : CE) (ρ : En) (a : B) (ρ1 : En) (u : Unit) (b : B) (ρ2 : En) : (W) → Res (B × En) := fun z => match z with
  | x => (cont b ρ2).bind (kbin4 op q ca cb ρ a ρ1 u b ρ2 x)
def kbin2 (op : W → W → Res W) (q : Bool) (ca : CE) (cb : CE) (ρ : En) (a : B) (ρ1 : En) (u : Unit) : (B) × (En) → Res (B × En) := fun z => match z with
  | (b, ρ2) => (cont a ρ2).bind (kbin3 op q ca cb ρ a ρ1 u b ρ2)
def kbin1 (op : W → W → Res W) (q : Bool) (ca : CE) (cb : CE) (ρ : En) (a : B) (ρ1 : En) : (Unit) → Res (B × En) := fun z => match z with
  | u => (cb ρ1).bind (kbin2 op q ca cb ρ a ρ1 u)
def kbin0 (op : W → W → Res W) (q : Bool) (ca : CE) (cb : CE) (ρ : En) : (B) × (En) → Res (B × En) := fun z => match z with
  | (a, ρ1) => (pend q a).bind (kbin1 op q ca cb ρ a ρ1)
theorem v_bin6 {op : W → W → Res W} {q : Bool} {ca : CE} {cb : CE} {ρ : En} {a : B} {ρ1 : En} {u : Unit} {b : B} {ρ2 : En} {x : W} {y : W} {w : W} : kbin5 op q ca cb ρ a ρ1 u b ρ2 x y w = .ok (.tmp w, ρ2) := rfl
theorem v_bin5 {op : W → W → Res W} {q : Bool} {ca : CE} {cb : CE} {ρ : En} {a : B} {ρ1 : En} {u : Unit} {b : B} {ρ2 : En} {x : W} {y : W} : kbin4 op q ca cb ρ a ρ1 u b ρ2 x y = (op x y).bind (kbin5 op q ca cb ρ a ρ1 u b ρ2 x y) := rfl
theorem v_bin4 {op : W → W → Res W} {q : Bool} {ca : CE} {cb : CE} {ρ : En} {a : B} {ρ1 : En} {u : Unit} {b : B} {ρ2 : En} {x : W} : kbin3 op q ca cb ρ a ρ1 u b ρ2 x = (cont b ρ2).bind (kbin4 op q ca cb ρ a ρ1 u b ρ2 x) := rfl
theorem v_bin3 {op : W → W → Res W} {q : Bool} {ca : CE} {cb : CE} {ρ : En} {a : B} {ρ1 : En} {u : Unit} {b : B} {ρ2 : En} : kbin2 op q ca cb ρ a ρ1 u (b, ρ2) = (cont a ρ2).bind (kbin3 op q ca cb ρ a ρ1 u b ρ2) := rfl
theorem v_bin2 {op : W → W → Res W} {q : Bool} {ca : CE} {cb : CE} {ρ : En} {a : B} {ρ1 : En} {u : Unit} : kbin1 op q ca cb ρ a ρ1 u = (cb ρ1).bind (kbin2 op q ca cb ρ a ρ1 u) := rfl
theorem v_bin1 {op : W → W → Res W} {q : Bool} {ca : CE} {cb : CE} {ρ : En} {a : B} {ρ1 : En} : kbin0 op q ca cb ρ (a, ρ1) = (pend q a).bind (kbin1 op q ca cb ρ a ρ1) := rfl
theorem v_bin {op : W → W → Res W} {q : Bool} {ca : CE} {cb : CE} {ρ : En} : cBin op q ca cb ρ = (ca ρ).bind (kbin0 op q ca cb ρ) := rfl
def kun2 (un : W → Res W) (ca : CE) (ρ : En) (a : B) (ρ1 : En) (x : W) : (W) → Res (B × En) := fun z => match z with
  | w => .ok (.tmp w, ρ1)
def kun1 (un : W → Res W) (ca : CE) (ρ : En) (a : B) (ρ1 : En) : (W) → Res (B × En) := fun z => match z with
  | x => (un x).bind (kun2 un ca ρ a ρ1 x)
def kun0 (un : W → Res W) (ca : CE) (ρ : En) : (B) × (En) → Res (B × En) := fun z => match z with
  | (a, ρ1) => (cont a ρ1).bind (kun1 un ca ρ a ρ1)
theorem v_un3 {un : W → Res W} {ca : CE} {ρ : En} {a : B} {ρ1 : En} {x : W} {w : W} : kun2 un ca ρ a ρ1 x w = .ok (.tmp w, ρ1) := rfl
theorem v_un2 {un : W → Res W} {ca : CE} {ρ : En} {a : B} {ρ1 : En} {x : W} : kun1 un ca ρ a ρ1 x = (un x).bind (kun2 un ca ρ a ρ1 x) := rfl
theorem v_un1 {un : W → Res W} {ca : CE} {ρ : En} {a : B} {ρ1 : En} : kun0 un ca ρ (a, ρ1) = (cont a ρ1).bind (kun1 un ca ρ a ρ1) := rfl
theorem v_un {un : W → Res W} {ca : CE} {ρ : En} : cUn un ca ρ = (ca ρ).bind (kun0 un ca ρ) := rfl
def ktest1 (ce : CE) (ρ : En) (b : B) (ρ1 : En) : (Bool) → Res (Bool × En) := fun z => match z with
  | k => .ok (k, ρ1)
def ktest0 (ce : CE) (ρ : En) : (B) × (En) → Res (Bool × En) := fun z => match z with
  | (b, ρ1) => (boolOf b).bind (ktest1 ce ρ b ρ1)
theorem v_test2 {ce : CE} {ρ : En} {b : B} {ρ1 : En} {k : Bool} : ktest1 ce ρ b ρ1 k = .ok (k, ρ1) := rfl
theorem v_test1 {ce : CE} {ρ : En} {b : B} {ρ1 : En} : ktest0 ce ρ (b, ρ1) = (boolOf b).bind (ktest1 ce ρ b ρ1) := rfl
theorem v_test {ce : CE} {ρ : En} : cTest ce ρ = (ce ρ).bind (ktest0 ce ρ) := rfl
def kcons2 (q : Bool) (ca : CE) (cbs : CBs) (ρ : En) (a : B) (ρ1 : En) (b : B) (ρ2 : En) : (List B) × (En) → Res (List B × En) := fun z => match z with
  | (bs, ρ3) => .ok (b :: bs, ρ3)
def kcons1 (q : Bool) (ca : CE) (cbs : CBs) (ρ : En) (a : B) (ρ1 : En) : (B) × (En) → Res (List B × En) := fun z => match z with
  | (b, ρ2) => (cbs ρ2).bind (kcons2 q ca cbs ρ a ρ1 b ρ2)
def kcons0 (q : Bool) (ca : CE) (cbs : CBs) (ρ : En) : (B) × (En) → Res (List B × En) := fun z => match z with
  | (a, ρ1) => (early q a ρ1).bind (kcons1 q ca cbs ρ a ρ1)
theorem v_cons3 {q : Bool} {ca : CE} {cbs : CBs} {ρ : En} {a : B} {ρ1 : En} {b : B} {ρ2 : En} {bs : List B} {ρ3 : En} : kcons2 q ca cbs ρ a ρ1 b ρ2 (bs, ρ3) = .ok (b :: bs, ρ3) := rfl
theorem v_cons2 {q : Bool} {ca : CE} {cbs : CBs} {ρ : En} {a : B} {ρ1 : En} {b : B} {ρ2 : En} : kcons1 q ca cbs ρ a ρ1 (b, ρ2) = (cbs ρ2).bind (kcons2 q ca cbs ρ a ρ1 b ρ2) := rfl
theorem v_cons1 {q : Bool} {ca : CE} {cbs : CBs} {ρ : En} {a : B} {ρ1 : En} : kcons0 q ca cbs ρ (a, ρ1) = (early q a ρ1).bind (kcons1 q ca cbs ρ a ρ1) := rfl
theorem v_cons {q : Bool} {ca : CE} {cbs : CBs} {ρ : En} : cCons q ca cbs ρ = (ca ρ).bind (kcons0 q ca cbs ρ) := rfl
def kstar3 (ca : CE) (cbs : CBs) (ρ : En) (a : B) (ρ1 : En) (x : W) (ds : List D) : (List B) × (En) → Res (List B × En) := fun z => match z with
  | (bs, ρ2) => .ok (ds.map (fun d => B.tmp (.fz d)) ++ bs, ρ2)
def kstar2 (ca : CE) (cbs : CBs) (ρ : En) (a : B) (ρ1 : En) (x : W) : (List D) → Res (List B × En) := fun z => match z with
  | ds => (cbs ρ1).bind (kstar3 ca cbs ρ a ρ1 x ds)
def kstar1 (ca : CE) (cbs : CBs) (ρ : En) (a : B) (ρ1 : En) : (W) → Res (List B × En) := fun z => match z with
  | x => (Res.of (seqV x)).bind (kstar2 ca cbs ρ a ρ1 x)
def kstar0 (ca : CE) (cbs : CBs) (ρ : En) : (B) × (En) → Res (List B × En) := fun z => match z with
  | (a, ρ1) => (cont a ρ1).bind (kstar1 ca cbs ρ a ρ1)
theorem v_star4 {ca : CE} {cbs : CBs} {ρ : En} {a : B} {ρ1 : En} {x : W} {ds : List D} {bs : List B} {ρ2 : En} : kstar3 ca cbs ρ a ρ1 x ds (bs, ρ2) = .ok (ds.map (fun d => B.tmp (.fz d)) ++ bs, ρ2) := rfl
theorem v_star3 {ca : CE} {cbs : CBs} {ρ : En} {a : B} {ρ1 : En} {x : W} {ds : List D} : kstar2 ca cbs ρ a ρ1 x ds = (cbs ρ1).bind (kstar3 ca cbs ρ a ρ1 x ds) := rfl
theorem v_star2 {ca : CE} {cbs : CBs} {ρ : En} {a : B} {ρ1 : En} {x : W} : kstar1 ca cbs ρ a ρ1 x = (Res.of (seqV x)).bind (kstar2 ca cbs ρ a ρ1 x) := rfl
theorem v_star1 {ca : CE} {cbs : CBs} {ρ : En} {a : B} {ρ1 : En} : kstar0 ca cbs ρ (a, ρ1) = (cont a ρ1).bind (kstar1 ca cbs ρ a ρ1) := rfl
theorem v_star {ca : CE} {cbs : CBs} {ρ : En} : cStar ca cbs seqV ρ = (ca ρ).bind (kstar0 ca cbs ρ) := rfl
def ktup3 (q : Bool) (cbs : CBs) (ρ : En) (bs : List B) (ρ1 : En) (u : Unit) (ws : List W) (ρ2 : En) : (Unit) → Res (B × En) := fun z => match z with
  | u2 => .ok (.tmp (.fz (.tup (frzs ws))), ρ2)
def ktup2 (q : Bool) (cbs : CBs) (ρ : En) (bs : List B) (ρ1 : En) (u : Unit) : (List W) × (En) → Res (B × En) := fun z => match z with
  | (ws, ρ2) => (chk (decide (ws.length ≤ 16777216))).bind (ktup3 q cbs ρ bs ρ1 u ws ρ2)
def ktup1 (q : Bool) (cbs : CBs) (ρ : En) (bs : List B) (ρ1 : En) : (Unit) → Res (B × En) := fun z => match z with
  | u => (takes bs ρ1).bind (ktup2 q cbs ρ bs ρ1 u)
def ktup0 (q : Bool) (cbs : CBs) (ρ : En) : (List B) × (En) → Res (B × En) := fun z => match z with
  | (bs, ρ1) => (chk (shut q bs)).bind (ktup1 q cbs ρ bs ρ1)
theorem v_tup3 {q : Bool} {cbs : CBs} {ρ : En} {bs : List B} {ρ1 : En} {u : Unit} {ws : List W} {ρ2 : En} : ktup2 q cbs ρ bs ρ1 u (ws, ρ2) = (chk (decide (ws.length ≤ 16777216))).bind (ktup3 q cbs ρ bs ρ1 u ws ρ2) := rfl
theorem v_tup2 {q : Bool} {cbs : CBs} {ρ : En} {bs : List B} {ρ1 : En} {u : Unit} : ktup1 q cbs ρ bs ρ1 u = (takes bs ρ1).bind (ktup2 q cbs ρ bs ρ1 u) := rfl
theorem v_tup1 {q : Bool} {cbs : CBs} {ρ : En} {bs : List B} {ρ1 : En} : ktup0 q cbs ρ (bs, ρ1) = (chk (shut q bs)).bind (ktup1 q cbs ρ bs ρ1) := rfl
theorem v_tup {q : Bool} {cbs : CBs} {ρ : En} : cTup q cbs ρ = (cbs ρ).bind (ktup0 q cbs ρ) := rfl
def klst3 (q : Bool) (cbs : CBs) (ρ : En) (bs : List B) (ρ1 : En) (u : Unit) (ws : List W) (ρ2 : En) : (Unit) → Res (B × En) := fun z => match z with
  | u2 => .ok (.tmp (.lst ws), ρ2)
def klst2 (q : Bool) (cbs : CBs) (ρ : En) (bs : List B) (ρ1 : En) (u : Unit) : (List W) × (En) → Res (B × En) := fun z => match z with
  | (ws, ρ2) => (chk (decide (ws.length ≤ 16777216))).bind (klst3 q cbs ρ bs ρ1 u ws ρ2)
def klst1 (q : Bool) (cbs : CBs) (ρ : En) (bs : List B) (ρ1 : En) : (Unit) → Res (B × En) := fun z => match z with
  | u => (takes bs ρ1).bind (klst2 q cbs ρ bs ρ1 u)
def klst0 (q : Bool) (cbs : CBs) (ρ : En) : (List B) × (En) → Res (B × En) := fun z => match z with
  | (bs, ρ1) => (chk (shut q bs)).bind (klst1 q cbs ρ bs ρ1)
theorem v_lst3 {q : Bool} {cbs : CBs} {ρ : En} {bs : List B} {ρ1 : En} {u : Unit} {ws : List W} {ρ2 : En} : klst2 q cbs ρ bs ρ1 u (ws, ρ2) = (chk (decide (ws.length ≤ 16777216))).bind (klst3 q cbs ρ bs ρ1 u ws ρ2) := rfl
theorem v_lst2 {q : Bool} {cbs : CBs} {ρ : En} {bs : List B} {ρ1 : En} {u : Unit} : klst1 q cbs ρ bs ρ1 u = (takes bs ρ1).bind (klst2 q cbs ρ bs ρ1 u) := rfl
theorem v_lst1 {q : Bool} {cbs : CBs} {ρ : En} {bs : List B} {ρ1 : En} : klst0 q cbs ρ (bs, ρ1) = (chk (shut q bs)).bind (klst1 q cbs ρ bs ρ1) := rfl
theorem v_lst {q : Bool} {cbs : CBs} {ρ : En} : cLst q cbs ρ = (cbs ρ).bind (klst0 q cbs ρ) := rfl
def kcallB2 (fl : List W → Res W) (cbs : CBs) (ρ : En) (bs : List B) (ρ1 : En) (ws : List W) : (W) → Res (B × En) := fun z => match z with
  | w => .ok (.tmp w, ρ1)
def kcallB1 (fl : List W → Res W) (cbs : CBs) (ρ : En) (bs : List B) (ρ1 : En) : (List W) → Res (B × En) := fun z => match z with
  | ws => (fl ws).bind (kcallB2 fl cbs ρ bs ρ1 ws)
def kcallB0 (fl : List W → Res W) (cbs : CBs) (ρ : En) : (List B) × (En) → Res (B × En) := fun z => match z with
  | (bs, ρ1) => (conts bs ρ1).bind (kcallB1 fl cbs ρ bs ρ1)
theorem v_callB3 {fl : List W → Res W} {cbs : CBs} {ρ : En} {bs : List B} {ρ1 : En} {ws : List W} {w : W} : kcallB2 fl cbs ρ bs ρ1 ws w = .ok (.tmp w, ρ1) := rfl
theorem v_callB2 {fl : List W → Res W} {cbs : CBs} {ρ : En} {bs : List B} {ρ1 : En} {ws : List W} : kcallB1 fl cbs ρ bs ρ1 ws = (fl ws).bind (kcallB2 fl cbs ρ bs ρ1 ws) := rfl
theorem v_callB1 {fl : List W → Res W} {cbs : CBs} {ρ : En} {bs : List B} {ρ1 : En} : kcallB0 fl cbs ρ (bs, ρ1) = (conts bs ρ1).bind (kcallB1 fl cbs ρ bs ρ1) := rfl
theorem v_callB {fl : List W → Res W} {cbs : CBs} {ρ : En} : cCallB fl cbs ρ = (cbs ρ).bind (kcallB0 fl cbs ρ) := rfl
def kandT0 (ct : CT) (ct2 : CT) (ρ : En) : (Bool) × (En) → Res (Bool × En) := fun z => match z with
  | (k, ρ1) => if k = true then ct2 ρ1 else .ok (false, ρ1)
theorem v_andT1 {ct : CT} {ct2 : CT} {ρ : En} {k : Bool} {ρ1 : En} : kandT0 ct ct2 ρ (k, ρ1) = if k = true then ct2 ρ1 else .ok (false, ρ1) := rfl
theorem v_andT {ct : CT} {ct2 : CT} {ρ : En} : cAndT ct ct2 ρ = (ct ρ).bind (kandT0 ct ct2 ρ) := rfl
def korT0 (ct : CT) (ct2 : CT) (ρ : En) : (Bool) × (En) → Res (Bool × En) := fun z => match z with
  | (k, ρ1) => if k = true then .ok (true, ρ1) else ct2 ρ1
theorem v_orT1 {ct : CT} {ct2 : CT} {ρ : En} {k : Bool} {ρ1 : En} : korT0 ct ct2 ρ (k, ρ1) = if k = true then .ok (true, ρ1) else ct2 ρ1 := rfl
theorem v_orT {ct : CT} {ct2 : CT} {ρ : En} : cOrT ct ct2 ρ = (ct ρ).bind (korT0 ct ct2 ρ) := rfl
def knotT0 (ct : CT) (ρ : En) : (Bool) × (En) → Res (Bool × En) := fun z => match z with
  | (k, ρ1) => .ok (!k, ρ1)
theorem v_notT1 {ct : CT} {ρ : En} {k : Bool} {ρ1 : En} : knotT0 ct ρ (k, ρ1) = .ok (!k, ρ1) := rfl
theorem v_notT {ct : CT} {ρ : En} : cNotT ct ρ = (ct ρ).bind (knotT0 ct ρ) := rfl
def kand1 (ca : CE) (cb : CE) (ρ : En) (a : B) (ρ1 : En) : (Bool) → Res (B × En) := fun z => match z with
  | k => if k = true then cb ρ1 else .ok (.tmp (.fz (.bl false)), ρ1)
def kand0 (ca : CE) (cb : CE) (ρ : En) : (B) × (En) → Res (B × En) := fun z => match z with
  | (a, ρ1) => (boolOf a).bind (kand1 ca cb ρ a ρ1)
theorem v_and2 {ca : CE} {cb : CE} {ρ : En} {a : B} {ρ1 : En} {k : Bool} : kand1 ca cb ρ a ρ1 k = if k = true then cb ρ1 else .ok (.tmp (.fz (.bl false)), ρ1) := rfl
theorem v_and1 {ca : CE} {cb : CE} {ρ : En} {a : B} {ρ1 : En} : kand0 ca cb ρ (a, ρ1) = (boolOf a).bind (kand1 ca cb ρ a ρ1) := rfl
theorem v_and {ca : CE} {cb : CE} {ρ : En} : cAnd ca cb ρ = (ca ρ).bind (kand0 ca cb ρ) := rfl
def kor1 (ca : CE) (cb : CE) (ρ : En) (a : B) (ρ1 : En) : (Bool) → Res (B × En) := fun z => match z with
  | k => if k = true then .ok (.tmp (.fz (.bl true)), ρ1) else cb ρ1
def kor0 (ca : CE) (cb : CE) (ρ : En) : (B) × (En) → Res (B × En) := fun z => match z with
  | (a, ρ1) => (boolOf a).bind (kor1 ca cb ρ a ρ1)
theorem v_or2 {ca : CE} {cb : CE} {ρ : En} {a : B} {ρ1 : En} {k : Bool} : kor1 ca cb ρ a ρ1 k = if k = true then .ok (.tmp (.fz (.bl true)), ρ1) else cb ρ1 := rfl
theorem v_or1 {ca : CE} {cb : CE} {ρ : En} {a : B} {ρ1 : En} : kor0 ca cb ρ (a, ρ1) = (boolOf a).bind (kor1 ca cb ρ a ρ1) := rfl
theorem v_or {ca : CE} {cb : CE} {ρ : En} : cOr ca cb ρ = (ca ρ).bind (kor0 ca cb ρ) := rfl
def knot1 (ca : CE) (ρ : En) (a : B) (ρ1 : En) : (Bool) → Res (B × En) := fun z => match z with
  | k => .ok (.tmp (.fz (.bl (!k))), ρ1)
def knot0 (ca : CE) (ρ : En) : (B) × (En) → Res (B × En) := fun z => match z with
  | (a, ρ1) => (boolOf a).bind (knot1 ca ρ a ρ1)
theorem v_not2 {ca : CE} {ρ : En} {a : B} {ρ1 : En} {k : Bool} : knot1 ca ρ a ρ1 k = .ok (.tmp (.fz (.bl (!k))), ρ1) := rfl
theorem v_not1 {ca : CE} {ρ : En} {a : B} {ρ1 : En} : knot0 ca ρ (a, ρ1) = (boolOf a).bind (knot1 ca ρ a ρ1) := rfl
theorem v_not {ca : CE} {ρ : En} : cNot ca ρ = (ca ρ).bind (knot0 ca ρ) := rfl
def kif0 (ct : CT) (ca : CE) (cb : CE) (ρ : En) : (Bool) × (En) → Res (B × En) := fun z => match z with
  | (k, ρ1) => if k = true then ca ρ1 else cb ρ1
theorem v_if1 {ct : CT} {ca : CE} {cb : CE} {ρ : En} {k : Bool} {ρ1 : En} : kif0 ct ca cb ρ (k, ρ1) = if k = true then ca ρ1 else cb ρ1 := rfl
theorem v_if {ct : CT} {ca : CE} {cb : CE} {ρ : En} : cIf ct ca cb ρ = (ct ρ).bind (kif0 ct ca cb ρ) := rfl
def korL0 (ca : CE) (cb : CE) (ρ : En) : (B) × (En) → Res (B × En) := fun z => match z with
  | (a, ρ1) => match a with
      | .tmp (.lst ws) => if ws.isEmpty = true then cb ρ1 else .ok (.tmp (.lst ws), ρ1)
      | _ => .err
theorem v_orL1 {ca : CE} {cb : CE} {ρ : En} {a : B} {ρ1 : En} : korL0 ca cb ρ (a, ρ1) = match a with
  | .tmp (.lst ws) => if ws.isEmpty = true then cb ρ1 else .ok (.tmp (.lst ws), ρ1)
  | _ => .err := rfl
theorem v_orL {ca : CE} {cb : CE} {ρ : En} : cOrL ca cb ρ = (ca ρ).bind (korL0 ca cb ρ) := rfl
def kseq0 (c1 : CS) (c2 : CS) (ρ : En) : (Fl) × (En) → Res (Fl × En) := fun z => match z with
  | (f, ρ1) => match f with
      | .nx => c2 ρ1
      | f => .ok (f, ρ1)
theorem v_seq1 {c1 : CS} {c2 : CS} {ρ : En} {f : Fl} {ρ1 : En} : kseq0 c1 c2 ρ (f, ρ1) = match f with
  | .nx => c2 ρ1
  | f => .ok (f, ρ1) := rfl
theorem v_seq {c1 : CS} {c2 : CS} {ρ : En} : cSeq c1 c2 ρ = (c1 ρ).bind (kseq0 c1 c2 ρ) := rfl
def kifS0 (ct : CT) (c1 : CS) (c2 : CS) (ρ : En) : (Bool) × (En) → Res (Fl × En) := fun z => match z with
  | (k, ρ1) => if k = true then c1 ρ1 else c2 ρ1
theorem v_ifS1 {ct : CT} {c1 : CS} {c2 : CS} {ρ : En} {k : Bool} {ρ1 : En} : kifS0 ct c1 c2 ρ (k, ρ1) = if k = true then c1 ρ1 else c2 ρ1 := rfl
theorem v_ifS {ct : CT} {c1 : CS} {c2 : CS} {ρ : En} : cIfS ct c1 c2 ρ = (ct ρ).bind (kifS0 ct c1 c2 ρ) := rfl
def kret1 (ce : CE) (ρ : En) (b : B) (ρ1 : En) : (W) × (En) → Res (Fl × En) := fun z => match z with
  | (w, ρ2) => .ok (.ret w, ρ2)
def kret0 (ce : CE) (ρ : En) : (B) × (En) → Res (Fl × En) := fun z => match z with
  | (b, ρ1) => (move b ρ1).bind (kret1 ce ρ b ρ1)
theorem v_ret2 {ce : CE} {ρ : En} {b : B} {ρ1 : En} {w : W} {ρ2 : En} : kret1 ce ρ b ρ1 (w, ρ2) = .ok (.ret w, ρ2) := rfl
theorem v_ret1 {ce : CE} {ρ : En} {b : B} {ρ1 : En} : kret0 ce ρ (b, ρ1) = (move b ρ1).bind (kret1 ce ρ b ρ1) := rfl
theorem v_ret {ce : CE} {ρ : En} : cRet ce ρ = (ce ρ).bind (kret0 ce ρ) := rfl
def kdrop0 (ce : CE) (ρ : En) : (B) × (En) → Res (Fl × En) := fun z => match z with
  | (b, ρ1) => .ok (.nx, ρ1)
theorem v_drop1 {ce : CE} {ρ : En} {b : B} {ρ1 : En} : kdrop0 ce ρ (b, ρ1) = .ok (.nx, ρ1) := rfl
theorem v_drop {ce : CE} {ρ : En} : cDrop ce ρ = (ce ρ).bind (kdrop0 ce ρ) := rfl
def kasg2 (g : CG) (ce : CE) (ρ : En) (b : B) (ρ1 : En) (w : W) (ρ2 : En) : (En) → Res (Fl × En) := fun z => match z with
  | ρ3 => .ok (.nx, ρ3)
def kasg1 (g : CG) (ce : CE) (ρ : En) (b : B) (ρ1 : En) : (W) × (En) → Res (Fl × En) := fun z => match z with
  | (w, ρ2) => (g w ρ2).bind (kasg2 g ce ρ b ρ1 w ρ2)
def kasg0 (g : CG) (ce : CE) (ρ : En) : (B) × (En) → Res (Fl × En) := fun z => match z with
  | (b, ρ1) => (take b ρ1).bind (kasg1 g ce ρ b ρ1)
theorem v_asg3 {g : CG} {ce : CE} {ρ : En} {b : B} {ρ1 : En} {w : W} {ρ2 : En} {ρ3 : En} : kasg2 g ce ρ b ρ1 w ρ2 ρ3 = .ok (.nx, ρ3) := rfl
theorem v_asg2 {g : CG} {ce : CE} {ρ : En} {b : B} {ρ1 : En} {w : W} {ρ2 : En} : kasg1 g ce ρ b ρ1 (w, ρ2) = (g w ρ2).bind (kasg2 g ce ρ b ρ1 w ρ2) := rfl
theorem v_asg1 {g : CG} {ce : CE} {ρ : En} {b : B} {ρ1 : En} : kasg0 g ce ρ (b, ρ1) = (take b ρ1).bind (kasg1 g ce ρ b ρ1) := rfl
theorem v_asg {g : CG} {ce : CE} {ρ : En} : cAsg g ce ρ = (ce ρ).bind (kasg0 g ce ρ) := rfl
def kgset0 (i : Nat) (w : W) (ρ : En) : (Unit) → Res (En) := fun z => match z with
  | u => .ok (ρ.set i (some w))
theorem v_gset1 {i : Nat} {w : W} {ρ : En} {u : Unit} : kgset0 i w ρ u = .ok (ρ.set i (some w)) := rfl
theorem v_gset {i : Nat} {w : W} {ρ : En} : gSet i w ρ = (chk (decide (i < ρ.length))).bind (kgset0 i w ρ) := rfl
def kgsub4 (q : Bool) (co : CE) (ci : CE) (w : W) (ρ : En) (b : B) (ρ1 : En) (u : Unit) (bi : B) (ρ2 : En) (j : Int) : (Nat) × (List Nat) → Res (En) := fun z => match z with
  | (i, p) => mutS i p j w ρ2
def kgsub3 (q : Bool) (co : CE) (ci : CE) (w : W) (ρ : En) (b : B) (ρ1 : En) (u : Unit) (bi : B) (ρ2 : En) : (Int) → Res (En) := fun z => match z with
  | j => (isPl b ρ2).bind (kgsub4 q co ci w ρ b ρ1 u bi ρ2 j)
def kgsub2 (q : Bool) (co : CE) (ci : CE) (w : W) (ρ : En) (b : B) (ρ1 : En) (u : Unit) : (B) × (En) → Res (En) := fun z => match z with
  | (bi, ρ2) => (intOf bi).bind (kgsub3 q co ci w ρ b ρ1 u bi ρ2)
def kgsub1 (q : Bool) (co : CE) (ci : CE) (w : W) (ρ : En) (b : B) (ρ1 : En) : (Unit) → Res (En) := fun z => match z with
  | u => (ci ρ1).bind (kgsub2 q co ci w ρ b ρ1 u)
def kgsub0 (q : Bool) (co : CE) (ci : CE) (w : W) (ρ : En) : (B) × (En) → Res (En) := fun z => match z with
  | (b, ρ1) => (pend q b).bind (kgsub1 q co ci w ρ b ρ1)
theorem v_gsub5 {q : Bool} {co : CE} {ci : CE} {w : W} {ρ : En} {b : B} {ρ1 : En} {u : Unit} {bi : B} {ρ2 : En} {j : Int} {i : Nat} {p : List Nat} : kgsub4 q co ci w ρ b ρ1 u bi ρ2 j (i, p) = mutS i p j w ρ2 := rfl
theorem v_gsub4 {q : Bool} {co : CE} {ci : CE} {w : W} {ρ : En} {b : B} {ρ1 : En} {u : Unit} {bi : B} {ρ2 : En} {j : Int} : kgsub3 q co ci w ρ b ρ1 u bi ρ2 j = (isPl b ρ2).bind (kgsub4 q co ci w ρ b ρ1 u bi ρ2 j) := rfl
theorem v_gsub3 {q : Bool} {co : CE} {ci : CE} {w : W} {ρ : En} {b : B} {ρ1 : En} {u : Unit} {bi : B} {ρ2 : En} : kgsub2 q co ci w ρ b ρ1 u (bi, ρ2) = (intOf bi).bind (kgsub3 q co ci w ρ b ρ1 u bi ρ2) := rfl
theorem v_gsub2 {q : Bool} {co : CE} {ci : CE} {w : W} {ρ : En} {b : B} {ρ1 : En} {u : Unit} : kgsub1 q co ci w ρ b ρ1 u = (ci ρ1).bind (kgsub2 q co ci w ρ b ρ1 u) := rfl
theorem v_gsub1 {q : Bool} {co : CE} {ci : CE} {w : W} {ρ : En} {b : B} {ρ1 : En} : kgsub0 q co ci w ρ (b, ρ1) = (pend q b).bind (kgsub1 q co ci w ρ b ρ1) := rfl
theorem v_gsub {q : Bool} {co : CE} {ci : CE} {w : W} {ρ : En} : gSub q co ci w ρ = (co ρ).bind (kgsub0 q co ci w ρ) := rfl
def kgsc0 (g : CG) (gs : CGs) (d : D) (dl : List D) (ρ : En) : (En) → Res (En) := fun z => match z with
  | ρ1 => gs dl ρ1
theorem v_gsc1 {g : CG} {gs : CGs} {d : D} {dl : List D} {ρ : En} {ρ1 : En} : kgsc0 g gs d dl ρ ρ1 = gs dl ρ1 := rfl
theorem v_gsc {g : CG} {gs : CGs} {d : D} {dl : List D} {ρ : En} : gsCons g gs (d :: dl) ρ = (g (.fz d) ρ).bind (kgsc0 g gs d dl ρ) := rfl
def kgsn0 (dl : List D) (ρ : En) : (Unit) → Res (En) := fun z => match z with
  | u => .ok ρ
theorem v_gsn1 {dl : List D} {ρ : En} {u : Unit} : kgsn0 dl ρ u = .ok ρ := rfl
theorem v_gsn {dl : List D} {ρ : En} : gsNil dl ρ = (chk dl.isEmpty).bind (kgsn0 dl ρ) := rfl
def kfor0 (it : CI) (g : CG) (c1 : CS) (ρ : En) : (List D) × (En) → Res (Fl × En) := fun z => match z with
  | (ds, ρ1) => forL g c1 ds ρ1
theorem v_for1 {it : CI} {g : CG} {c1 : CS} {ρ : En} {ds : List D} {ρ1 : En} : kfor0 it g c1 ρ (ds, ρ1) = forL g c1 ds ρ1 := rfl
theorem v_for {it : CI} {g : CG} {c1 : CS} {ρ : En} : cFor it g c1 ρ = (it ρ).bind (kfor0 it g c1 ρ) := rfl
def kforc1 (g : CG) (c1 : CS) (d : D) (dl : List D) (ρ : En) (ρ1 : En) : (Fl) × (En) → Res (Fl × En) := fun z => match z with
  | (f, ρ2) => match f with
        | .nx => forL g c1 dl ρ2
        | .ct => forL g c1 dl ρ2
        | .bk => .ok (.nx, ρ2)
        | .ret w => .ok (.ret w, ρ2)
def kforc0 (g : CG) (c1 : CS) (d : D) (dl : List D) (ρ : En) : (En) → Res (Fl × En) := fun z => match z with
  | ρ1 => (c1 ρ1).bind (kforc1 g c1 d dl ρ ρ1)
theorem v_forc2 {g : CG} {c1 : CS} {d : D} {dl : List D} {ρ : En} {ρ1 : En} {f : Fl} {ρ2 : En} : kforc1 g c1 d dl ρ ρ1 (f, ρ2) = match f with
    | .nx => forL g c1 dl ρ2
    | .ct => forL g c1 dl ρ2
    | .bk => .ok (.nx, ρ2)
    | .ret w => .ok (.ret w, ρ2) := rfl
theorem v_forc1 {g : CG} {c1 : CS} {d : D} {dl : List D} {ρ : En} {ρ1 : En} : kforc0 g c1 d dl ρ ρ1 = (c1 ρ1).bind (kforc1 g c1 d dl ρ ρ1) := rfl
theorem v_forc {g : CG} {c1 : CS} {d : D} {dl : List D} {ρ : En} : forL g c1 (d :: dl) ρ = (g (.fz d) ρ).bind (kforc0 g c1 d dl ρ) := rfl
def klcc1 (vs : List Nat) (g : CG) (ct : CT) (ce : CE) (d : D) (dl : List D) (ρ : En) (ρ1 : En) : (Bool) × (En) → Res (List W × En) := fun z => match z with
  | (k, ρ2) => if k = true then lcT vs g ct ce dl ρ2 else lcL vs g ct ce dl (wipeE ρ2 vs)
def klcc0 (vs : List Nat) (g : CG) (ct : CT) (ce : CE) (d : D) (dl : List D) (ρ : En) : (En) → Res (List W × En) := fun z => match z with
  | ρ1 => (ct ρ1).bind (klcc1 vs g ct ce d dl ρ ρ1)
theorem v_lcc2 {vs : List Nat} {g : CG} {ct : CT} {ce : CE} {d : D} {dl : List D} {ρ : En} {ρ1 : En} {k : Bool} {ρ2 : En} : klcc1 vs g ct ce d dl ρ ρ1 (k, ρ2) = if k = true then lcT vs g ct ce dl ρ2 else lcL vs g ct ce dl (wipeE ρ2 vs) := rfl
theorem v_lcc1 {vs : List Nat} {g : CG} {ct : CT} {ce : CE} {d : D} {dl : List D} {ρ : En} {ρ1 : En} : klcc0 vs g ct ce d dl ρ ρ1 = (ct ρ1).bind (klcc1 vs g ct ce d dl ρ ρ1) := rfl
theorem v_lcc {vs : List Nat} {g : CG} {ct : CT} {ce : CE} {d : D} {dl : List D} {ρ : En} : lcL vs g ct ce (d :: dl) ρ = (g (.fz d) ρ).bind (klcc0 vs g ct ce d dl ρ) := rfl
def klcT2 (vs : List Nat) (g : CG) (ct : CT) (ce : CE) (dl : List D) (ρ : En) (b : B) (ρ1 : En) (w : W) (ρ2 : En) : (List W) × (En) → Res (List W × En) := fun z => match z with
  | (ws, ρ3) => .ok (w :: ws, ρ3)
def klcT1 (vs : List Nat) (g : CG) (ct : CT) (ce : CE) (dl : List D) (ρ : En) (b : B) (ρ1 : En) : (W) × (En) → Res (List W × En) := fun z => match z with
  | (w, ρ2) => (lcL vs g ct ce dl (wipeE ρ2 vs)).bind (klcT2 vs g ct ce dl ρ b ρ1 w ρ2)
def klcT0 (vs : List Nat) (g : CG) (ct : CT) (ce : CE) (dl : List D) (ρ : En) : (B) × (En) → Res (List W × En) := fun z => match z with
  | (b, ρ1) => (take b ρ1).bind (klcT1 vs g ct ce dl ρ b ρ1)
theorem v_lcT3 {vs : List Nat} {g : CG} {ct : CT} {ce : CE} {dl : List D} {ρ : En} {b : B} {ρ1 : En} {w : W} {ρ2 : En} {ws : List W} {ρ3 : En} : klcT2 vs g ct ce dl ρ b ρ1 w ρ2 (ws, ρ3) = .ok (w :: ws, ρ3) := rfl
theorem v_lcT2 {vs : List Nat} {g : CG} {ct : CT} {ce : CE} {dl : List D} {ρ : En} {b : B} {ρ1 : En} {w : W} {ρ2 : En} : klcT1 vs g ct ce dl ρ b ρ1 (w, ρ2) = (lcL vs g ct ce dl (wipeE ρ2 vs)).bind (klcT2 vs g ct ce dl ρ b ρ1 w ρ2) := rfl
theorem v_lcT1 {vs : List Nat} {g : CG} {ct : CT} {ce : CE} {dl : List D} {ρ : En} {b : B} {ρ1 : En} : klcT0 vs g ct ce dl ρ (b, ρ1) = (take b ρ1).bind (klcT1 vs g ct ce dl ρ b ρ1) := rfl
theorem v_lcT {vs : List Nat} {g : CG} {ct : CT} {ce : CE} {dl : List D} {ρ : En} : lcT vs g ct ce dl ρ = (ce ρ).bind (klcT0 vs g ct ce dl ρ) := rfl
def klc3 (vs : List Nat) (it : CI) (g : CG) (ct : CT) (ce : CE) (ρ : En) (ds : List D) (ρ1 : En) (u : Unit) (u2 : Unit) : (List W) × (En) → Res (B × En) := fun z => match z with
  | (ws, ρ2) => .ok (.tmp (.lst ws), restE ρ1 vs ρ2)
def klc2 (vs : List Nat) (it : CI) (g : CG) (ct : CT) (ce : CE) (ρ : En) (ds : List D) (ρ1 : En) (u : Unit) : (Unit) → Res (B × En) := fun z => match z with
  | u2 => (lcL vs g ct ce ds (wipeE ρ1 vs)).bind (klc3 vs it g ct ce ρ ds ρ1 u u2)
def klc1 (vs : List Nat) (it : CI) (g : CG) (ct : CT) (ce : CE) (ρ : En) (ds : List D) (ρ1 : En) : (Unit) → Res (B × En) := fun z => match z with
  | u => (chk (decide (ds.length ≤ 16777216))).bind (klc2 vs it g ct ce ρ ds ρ1 u)
def klc0 (vs : List Nat) (it : CI) (g : CG) (ct : CT) (ce : CE) (ρ : En) : (List D) × (En) → Res (B × En) := fun z => match z with
  | (ds, ρ1) => (chk (vs.all fun v => decide (v < ρ1.length))).bind (klc1 vs it g ct ce ρ ds ρ1)
theorem v_lc4 {vs : List Nat} {it : CI} {g : CG} {ct : CT} {ce : CE} {ρ : En} {ds : List D} {ρ1 : En} {u : Unit} {u2 : Unit} {ws : List W} {ρ2 : En} : klc3 vs it g ct ce ρ ds ρ1 u u2 (ws, ρ2) = .ok (.tmp (.lst ws), restE ρ1 vs ρ2) := rfl
theorem v_lc2 {vs : List Nat} {it : CI} {g : CG} {ct : CT} {ce : CE} {ρ : En} {ds : List D} {ρ1 : En} {u : Unit} : klc1 vs it g ct ce ρ ds ρ1 u = (chk (decide (ds.length ≤ 16777216))).bind (klc2 vs it g ct ce ρ ds ρ1 u) := rfl
theorem v_lc1 {vs : List Nat} {it : CI} {g : CG} {ct : CT} {ce : CE} {ρ : En} {ds : List D} {ρ1 : En} : klc0 vs it g ct ce ρ (ds, ρ1) = (chk (vs.all fun v => decide (v < ρ1.length))).bind (klc1 vs it g ct ce ρ ds ρ1) := rfl
theorem v_lc {vs : List Nat} {it : CI} {g : CG} {ct : CT} {ce : CE} {ρ : En} : cLc vs it g ct ce ρ = (it ρ).bind (klc0 vs it g ct ce ρ) := rfl
def kdef3 (np : Nat) (ns : Nat) (io : KP) (c1 : CS) (ws : List W) (u : Unit) (f : Fl) (ρ1 : En) (r : W) : (List W) → Res (W × List W) := fun z => match z with
  | bk => .ok (r, bk)
def kdef2 (np : Nat) (ns : Nat) (io : KP) (c1 : CS) (ws : List W) (u : Unit) (f : Fl) (ρ1 : En) : (W) → Res (W × List W) := fun z => match z with
  | r => (backs io 0 ws ρ1).bind (kdef3 np ns io c1 ws u f ρ1 r)
def kdef1 (np : Nat) (ns : Nat) (io : KP) (c1 : CS) (ws : List W) (u : Unit) : (Fl) × (En) → Res (W × List W) := fun z => match z with
  | (f, ρ1) => (retOf f).bind (kdef2 np ns io c1 ws u f ρ1)
def kdef0 (np : Nat) (ns : Nat) (io : KP) (c1 : CS) (ws : List W) : (Unit) → Res (W × List W) := fun z => match z with
  | u => (c1 (ws.map some ++ List.replicate (ns - np) none)).bind (kdef1 np ns io c1 ws u)
theorem v_def4 {np : Nat} {ns : Nat} {io : KP} {c1 : CS} {ws : List W} {u : Unit} {f : Fl} {ρ1 : En} {r : W} {bk : List W} : kdef3 np ns io c1 ws u f ρ1 r bk = .ok (r, bk) := rfl
theorem v_def3 {np : Nat} {ns : Nat} {io : KP} {c1 : CS} {ws : List W} {u : Unit} {f : Fl} {ρ1 : En} {r : W} : kdef2 np ns io c1 ws u f ρ1 r = (backs io 0 ws ρ1).bind (kdef3 np ns io c1 ws u f ρ1 r) := rfl
theorem v_def2 {np : Nat} {ns : Nat} {io : KP} {c1 : CS} {ws : List W} {u : Unit} {f : Fl} {ρ1 : En} : kdef1 np ns io c1 ws u (f, ρ1) = (retOf f).bind (kdef2 np ns io c1 ws u f ρ1) := rfl
theorem v_def1 {np : Nat} {ns : Nat} {io : KP} {c1 : CS} {ws : List W} {u : Unit} : kdef0 np ns io c1 ws u = (c1 (ws.map some ++ List.replicate (ns - np) none)).bind (kdef1 np ns io c1 ws u) := rfl
theorem v_def {np : Nat} {ns : Nat} {io : KP} {c1 : CS} {ws : List W} : runDef np ns io c1 ws = (chk (ws.length == np)).bind (kdef0 np ns io c1 ws) := rfl
def kcallV3 (F : Fn) (cbs : CBs) (ρ : En) (bs : List B) (ρ1 : En) (ws : List W) (r : W) (bk : List W) : (Unit) → Res (B × En) := fun z => match z with
  | u => .ok (.tmp r, ρ1)
def kcallV2 (F : Fn) (cbs : CBs) (ρ : En) (bs : List B) (ρ1 : En) (ws : List W) : (W) × (List W) → Res (B × En) := fun z => match z with
  | (r, bk) => (chk (scal r)).bind (kcallV3 F cbs ρ bs ρ1 ws r bk)
def kcallV1 (F : Fn) (cbs : CBs) (ρ : En) (bs : List B) (ρ1 : En) : (List W) → Res (B × En) := fun z => match z with
  | ws => (F (ws.map fun w => .fz (frz w))).bind (kcallV2 F cbs ρ bs ρ1 ws)
def kcallV0 (F : Fn) (cbs : CBs) (ρ : En) : (List B) × (En) → Res (B × En) := fun z => match z with
  | (bs, ρ1) => (conts bs ρ1).bind (kcallV1 F cbs ρ bs ρ1)
theorem v_callV4 {F : Fn} {cbs : CBs} {ρ : En} {bs : List B} {ρ1 : En} {ws : List W} {r : W} {bk : List W} {u : Unit} : kcallV3 F cbs ρ bs ρ1 ws r bk u = .ok (.tmp r, ρ1) := rfl
theorem v_callV3 {F : Fn} {cbs : CBs} {ρ : En} {bs : List B} {ρ1 : En} {ws : List W} {r : W} {bk : List W} : kcallV2 F cbs ρ bs ρ1 ws (r, bk) = (chk (scal r)).bind (kcallV3 F cbs ρ bs ρ1 ws r bk) := rfl
theorem v_callV2 {F : Fn} {cbs : CBs} {ρ : En} {bs : List B} {ρ1 : En} {ws : List W} : kcallV1 F cbs ρ bs ρ1 ws = (F (ws.map fun w => .fz (frz w))).bind (kcallV2 F cbs ρ bs ρ1 ws) := rfl
theorem v_callV1 {F : Fn} {cbs : CBs} {ρ : En} {bs : List B} {ρ1 : En} : kcallV0 F cbs ρ (bs, ρ1) = (conts bs ρ1).bind (kcallV1 F cbs ρ bs ρ1) := rfl
theorem v_callV {F : Fn} {cbs : CBs} {ρ : En} : cCallV F cbs ρ = (cbs ρ).bind (kcallV0 F cbs ρ) := rfl
def kcallP3 (q : Bool) (F : Fn) (cbs : CBs) (ρ : En) (bs : List B) (ρ1 : En) (u : Unit) (ws : List W) (ρ2 : En) : (W) × (List W) → Res (B × En) := fun z => match z with
  | (r, bk) => .ok (.tmp r, ρ2)
def kcallP2 (q : Bool) (F : Fn) (cbs : CBs) (ρ : En) (bs : List B) (ρ1 : En) (u : Unit) : (List W) × (En) → Res (B × En) := fun z => match z with
  | (ws, ρ2) => (F (ws.map fun w => .fz (frz w))).bind (kcallP3 q F cbs ρ bs ρ1 u ws ρ2)
def kcallP1 (q : Bool) (F : Fn) (cbs : CBs) (ρ : En) (bs : List B) (ρ1 : En) : (Unit) → Res (B × En) := fun z => match z with
  | u => (takes bs ρ1).bind (kcallP2 q F cbs ρ bs ρ1 u)
def kcallP0 (q : Bool) (F : Fn) (cbs : CBs) (ρ : En) : (List B) × (En) → Res (B × En) := fun z => match z with
  | (bs, ρ1) => (chk (shut q bs)).bind (kcallP1 q F cbs ρ bs ρ1)
theorem v_callP4 {q : Bool} {F : Fn} {cbs : CBs} {ρ : En} {bs : List B} {ρ1 : En} {u : Unit} {ws : List W} {ρ2 : En} {r : W} {bk : List W} : kcallP3 q F cbs ρ bs ρ1 u ws ρ2 (r, bk) = .ok (.tmp r, ρ2) := rfl
theorem v_callP3 {q : Bool} {F : Fn} {cbs : CBs} {ρ : En} {bs : List B} {ρ1 : En} {u : Unit} {ws : List W} {ρ2 : En} : kcallP2 q F cbs ρ bs ρ1 u (ws, ρ2) = (F (ws.map fun w => .fz (frz w))).bind (kcallP3 q F cbs ρ bs ρ1 u ws ρ2) := rfl
theorem v_callP2 {q : Bool} {F : Fn} {cbs : CBs} {ρ : En} {bs : List B} {ρ1 : En} {u : Unit} : kcallP1 q F cbs ρ bs ρ1 u = (takes bs ρ1).bind (kcallP2 q F cbs ρ bs ρ1 u) := rfl
theorem v_callP1 {q : Bool} {F : Fn} {cbs : CBs} {ρ : En} {bs : List B} {ρ1 : En} : kcallP0 q F cbs ρ (bs, ρ1) = (chk (shut q bs)).bind (kcallP1 q F cbs ρ bs ρ1) := rfl
theorem v_callP {q : Bool} {F : Fn} {cbs : CBs} {ρ : En} : cCallP q F cbs ρ = (cbs ρ).bind (kcallP0 q F cbs ρ) := rfl
def kcallKV4 (F : Fn) (ix : List Nat) (n : Nat) (cbs : CBs) (ρ : En) (bs : List B) (ρ1 : En) (u2 : Unit) (ws : List W) (r : W) (bk : List W) : (Unit) → Res (B × En) := fun z => match z with
  | u => .ok (.tmp r, ρ1)
def kcallKV3 (F : Fn) (ix : List Nat) (n : Nat) (cbs : CBs) (ρ : En) (bs : List B) (ρ1 : En) (u2 : Unit) (ws : List W) : (W) × (List W) → Res (B × En) := fun z => match z with
  | (r, bk) => (chk (scal r)).bind (kcallKV4 F ix n cbs ρ bs ρ1 u2 ws r bk)
def kcallKV2 (F : Fn) (ix : List Nat) (n : Nat) (cbs : CBs) (ρ : En) (bs : List B) (ρ1 : En) (u2 : Unit) : (List W) → Res (B × En) := fun z => match z with
  | ws => (F (pick ix (ws.map fun w => .fz (frz w)))).bind (kcallKV3 F ix n cbs ρ bs ρ1 u2 ws)
def kcallKV1 (F : Fn) (ix : List Nat) (n : Nat) (cbs : CBs) (ρ : En) (bs : List B) (ρ1 : En) : (Unit) → Res (B × En) := fun z => match z with
  | u2 => (conts bs ρ1).bind (kcallKV2 F ix n cbs ρ bs ρ1 u2)
def kcallKV0 (F : Fn) (ix : List Nat) (n : Nat) (cbs : CBs) (ρ : En) : (List B) × (En) → Res (B × En) := fun z => match z with
  | (bs, ρ1) => (chk (bs.length == n)).bind (kcallKV1 F ix n cbs ρ bs ρ1)
theorem v_callKV5 {F : Fn} {ix : List Nat} {n : Nat} {cbs : CBs} {ρ : En} {bs : List B} {ρ1 : En} {u2 : Unit} {ws : List W} {r : W} {bk : List W} {u : Unit} : kcallKV4 F ix n cbs ρ bs ρ1 u2 ws r bk u = .ok (.tmp r, ρ1) := rfl
theorem v_callKV4 {F : Fn} {ix : List Nat} {n : Nat} {cbs : CBs} {ρ : En} {bs : List B} {ρ1 : En} {u2 : Unit} {ws : List W} {r : W} {bk : List W} : kcallKV3 F ix n cbs ρ bs ρ1 u2 ws (r, bk) = (chk (scal r)).bind (kcallKV4 F ix n cbs ρ bs ρ1 u2 ws r bk) := rfl
theorem v_callKV3 {F : Fn} {ix : List Nat} {n : Nat} {cbs : CBs} {ρ : En} {bs : List B} {ρ1 : En} {u2 : Unit} {ws : List W} : kcallKV2 F ix n cbs ρ bs ρ1 u2 ws = (F (pick ix (ws.map fun w => .fz (frz w)))).bind (kcallKV3 F ix n cbs ρ bs ρ1 u2 ws) := rfl
theorem v_callKV2 {F : Fn} {ix : List Nat} {n : Nat} {cbs : CBs} {ρ : En} {bs : List B} {ρ1 : En} {u2 : Unit} : kcallKV1 F ix n cbs ρ bs ρ1 u2 = (conts bs ρ1).bind (kcallKV2 F ix n cbs ρ bs ρ1 u2) := rfl
theorem v_callKV1 {F : Fn} {ix : List Nat} {n : Nat} {cbs : CBs} {ρ : En} {bs : List B} {ρ1 : En} : kcallKV0 F ix n cbs ρ (bs, ρ1) = (chk (bs.length == n)).bind (kcallKV1 F ix n cbs ρ bs ρ1) := rfl
theorem v_callKV {F : Fn} {ix : List Nat} {n : Nat} {cbs : CBs} {ρ : En} : cCallKV F ix n cbs ρ = (cbs ρ).bind (kcallKV0 F ix n cbs ρ) := rfl
def kcallKP4 (q : Bool) (F : Fn) (ix : List Nat) (n : Nat) (cbs : CBs) (ρ : En) (bs : List B) (ρ1 : En) (u2 : Unit) (u : Unit) (ws : List W) (ρ2 : En) : (W) × (List W) → Res (B × En) := fun z => match z with
  | (r, bk) => .ok (.tmp r, ρ2)
def kcallKP3 (q : Bool) (F : Fn) (ix : List Nat) (n : Nat) (cbs : CBs) (ρ : En) (bs : List B) (ρ1 : En) (u2 : Unit) (u : Unit) : (List W) × (En) → Res (B × En) := fun z => match z with
  | (ws, ρ2) => (F (pick ix (ws.map fun w => .fz (frz w)))).bind (kcallKP4 q F ix n cbs ρ bs ρ1 u2 u ws ρ2)
def kcallKP2 (q : Bool) (F : Fn) (ix : List Nat) (n : Nat) (cbs : CBs) (ρ : En) (bs : List B) (ρ1 : En) (u2 : Unit) : (Unit) → Res (B × En) := fun z => match z with
  | u => (takes bs ρ1).bind (kcallKP3 q F ix n cbs ρ bs ρ1 u2 u)
def kcallKP1 (q : Bool) (F : Fn) (ix : List Nat) (n : Nat) (cbs : CBs) (ρ : En) (bs : List B) (ρ1 : En) : (Unit) → Res (B × En) := fun z => match z with
  | u2 => (chk (shut q bs)).bind (kcallKP2 q F ix n cbs ρ bs ρ1 u2)
def kcallKP0 (q : Bool) (F : Fn) (ix : List Nat) (n : Nat) (cbs : CBs) (ρ : En) : (List B) × (En) → Res (B × En) := fun z => match z with
  | (bs, ρ1) => (chk (bs.length == n)).bind (kcallKP1 q F ix n cbs ρ bs ρ1)
theorem v_callKP5 {q : Bool} {F : Fn} {ix : List Nat} {n : Nat} {cbs : CBs} {ρ : En} {bs : List B} {ρ1 : En} {u2 : Unit} {u : Unit} {ws : List W} {ρ2 : En} {r : W} {bk : List W} : kcallKP4 q F ix n cbs ρ bs ρ1 u2 u ws ρ2 (r, bk) = .ok (.tmp r, ρ2) := rfl
theorem v_callKP4 {q : Bool} {F : Fn} {ix : List Nat} {n : Nat} {cbs : CBs} {ρ : En} {bs : List B} {ρ1 : En} {u2 : Unit} {u : Unit} {ws : List W} {ρ2 : En} : kcallKP3 q F ix n cbs ρ bs ρ1 u2 u (ws, ρ2) = (F (pick ix (ws.map fun w => .fz (frz w)))).bind (kcallKP4 q F ix n cbs ρ bs ρ1 u2 u ws ρ2) := rfl
theorem v_callKP3 {q : Bool} {F : Fn} {ix : List Nat} {n : Nat} {cbs : CBs} {ρ : En} {bs : List B} {ρ1 : En} {u2 : Unit} {u : Unit} : kcallKP2 q F ix n cbs ρ bs ρ1 u2 u = (takes bs ρ1).bind (kcallKP3 q F ix n cbs ρ bs ρ1 u2 u) := rfl
theorem v_callKP2 {q : Bool} {F : Fn} {ix : List Nat} {n : Nat} {cbs : CBs} {ρ : En} {bs : List B} {ρ1 : En} {u2 : Unit} : kcallKP1 q F ix n cbs ρ bs ρ1 u2 = (chk (shut q bs)).bind (kcallKP2 q F ix n cbs ρ bs ρ1 u2) := rfl
theorem v_callKP1 {q : Bool} {F : Fn} {ix : List Nat} {n : Nat} {cbs : CBs} {ρ : En} {bs : List B} {ρ1 : En} : kcallKP0 q F ix n cbs ρ (bs, ρ1) = (chk (bs.length == n)).bind (kcallKP1 q F ix n cbs ρ bs ρ1) := rfl
theorem v_callKP {q : Bool} {F : Fn} {ix : List Nat} {n : Nat} {cbs : CBs} {ρ : En} : cCallKP q F ix n cbs ρ = (cbs ρ).bind (kcallKP0 q F ix n cbs ρ) := rfl
def kcallIO4 (F : Fn) (io : KP) (cbs : CBs) (ρ : En) (bs : List B) (ρ1 : En) (u : Unit) (ws : List W) (ρ2 : En) (r : W) (bk : List W) : (En) → Res (B × En) := fun z => match z with
  | ρ3 => .ok (.tmp r, ρ3)
def kcallIO3 (F : Fn) (io : KP) (cbs : CBs) (ρ : En) (bs : List B) (ρ1 : En) (u : Unit) (ws : List W) (ρ2 : En) : (W) × (List W) → Res (B × En) := fun z => match z with
  | (r, bk) => (putB io 0 bs bk ρ2).bind (kcallIO4 F io cbs ρ bs ρ1 u ws ρ2 r bk)
def kcallIO2 (F : Fn) (io : KP) (cbs : CBs) (ρ : En) (bs : List B) (ρ1 : En) (u : Unit) : (List W) × (En) → Res (B × En) := fun z => match z with
  | (ws, ρ2) => (F ws).bind (kcallIO3 F io cbs ρ bs ρ1 u ws ρ2)
def kcallIO1 (F : Fn) (io : KP) (cbs : CBs) (ρ : En) (bs : List B) (ρ1 : En) : (Unit) → Res (B × En) := fun z => match z with
  | u => (argsIO io 0 bs ρ1).bind (kcallIO2 F io cbs ρ bs ρ1 u)
def kcallIO0 (F : Fn) (io : KP) (cbs : CBs) (ρ : En) : (List B) × (En) → Res (B × En) := fun z => match z with
  | (bs, ρ1) => (chk (bs.all flatB)).bind (kcallIO1 F io cbs ρ bs ρ1)
theorem v_callIO5 {F : Fn} {io : KP} {cbs : CBs} {ρ : En} {bs : List B} {ρ1 : En} {u : Unit} {ws : List W} {ρ2 : En} {r : W} {bk : List W} {ρ3 : En} : kcallIO4 F io cbs ρ bs ρ1 u ws ρ2 r bk ρ3 = .ok (.tmp r, ρ3) := rfl
theorem v_callIO4 {F : Fn} {io : KP} {cbs : CBs} {ρ : En} {bs : List B} {ρ1 : En} {u : Unit} {ws : List W} {ρ2 : En} {r : W} {bk : List W} : kcallIO3 F io cbs ρ bs ρ1 u ws ρ2 (r, bk) = (putB io 0 bs bk ρ2).bind (kcallIO4 F io cbs ρ bs ρ1 u ws ρ2 r bk) := rfl
theorem v_callIO3 {F : Fn} {io : KP} {cbs : CBs} {ρ : En} {bs : List B} {ρ1 : En} {u : Unit} {ws : List W} {ρ2 : En} : kcallIO2 F io cbs ρ bs ρ1 u (ws, ρ2) = (F ws).bind (kcallIO3 F io cbs ρ bs ρ1 u ws ρ2) := rfl
theorem v_callIO2 {F : Fn} {io : KP} {cbs : CBs} {ρ : En} {bs : List B} {ρ1 : En} {u : Unit} : kcallIO1 F io cbs ρ bs ρ1 u = (argsIO io 0 bs ρ1).bind (kcallIO2 F io cbs ρ bs ρ1 u) := rfl
theorem v_callIO1 {F : Fn} {io : KP} {cbs : CBs} {ρ : En} {bs : List B} {ρ1 : En} : kcallIO0 F io cbs ρ (bs, ρ1) = (chk (bs.all flatB)).bind (kcallIO1 F io cbs ρ bs ρ1) := rfl
theorem v_callIO {F : Fn} {io : KP} {cbs : CBs} {ρ : En} : cCallIO F io cbs ρ = (cbs ρ).bind (kcallIO0 F io cbs ρ) := rfl
def kapp6 (q : Bool) (co : CE) (ca : CE) (ρ : En) (b : B) (ρ1 : En) (i : Nat) (p : List Nat) (u : Unit) (a : B) (ρ2 : En) (u2 : Unit) (w : W) (ρ3 : En) : (En) → Res (B × En) := fun z => match z with
  | ρ4 => .ok (.tmp (.fz .non), ρ4)
def kapp5 (q : Bool) (co : CE) (ca : CE) (ρ : En) (b : B) (ρ1 : En) (i : Nat) (p : List Nat) (u : Unit) (a : B) (ρ2 : En) (u2 : Unit) : (W) × (En) → Res (B × En) := fun z => match z with
  | (w, ρ3) => (mutA i p w ρ3).bind (kapp6 q co ca ρ b ρ1 i p u a ρ2 u2 w ρ3)
def kapp4 (q : Bool) (co : CE) (ca : CE) (ρ : En) (b : B) (ρ1 : En) (i : Nat) (p : List Nat) (u : Unit) (a : B) (ρ2 : En) : (Unit) → Res (B × En) := fun z => match z with
  | u2 => (take a ρ2).bind (kapp5 q co ca ρ b ρ1 i p u a ρ2 u2)
def kapp3 (q : Bool) (co : CE) (ca : CE) (ρ : En) (b : B) (ρ1 : En) (i : Nat) (p : List Nat) (u : Unit) : (B) × (En) → Res (B × En) := fun z => match z with
  | (a, ρ2) => (chk (p.isEmpty || isTmp a)).bind (kapp4 q co ca ρ b ρ1 i p u a ρ2)
def kapp2 (q : Bool) (co : CE) (ca : CE) (ρ : En) (b : B) (ρ1 : En) (i : Nat) (p : List Nat) : (Unit) → Res (B × En) := fun z => match z with
  | u => (ca ρ1).bind (kapp3 q co ca ρ b ρ1 i p u)
def kapp1 (q : Bool) (co : CE) (ca : CE) (ρ : En) (b : B) (ρ1 : En) : (Nat) × (List Nat) → Res (B × En) := fun z => match z with
  | (i, p) => (pend q (.bor i p)).bind (kapp2 q co ca ρ b ρ1 i p)
def kapp0 (q : Bool) (co : CE) (ca : CE) (ρ : En) : (B) × (En) → Res (B × En) := fun z => match z with
  | (b, ρ1) => (isPl b ρ1).bind (kapp1 q co ca ρ b ρ1)
theorem v_app7 {q : Bool} {co : CE} {ca : CE} {ρ : En} {b : B} {ρ1 : En} {i : Nat} {p : List Nat} {u : Unit} {a : B} {ρ2 : En} {u2 : Unit} {w : W} {ρ3 : En} {ρ4 : En} : kapp6 q co ca ρ b ρ1 i p u a ρ2 u2 w ρ3 ρ4 = .ok (.tmp (.fz .non), ρ4) := rfl
theorem v_app6 {q : Bool} {co : CE} {ca : CE} {ρ : En} {b : B} {ρ1 : En} {i : Nat} {p : List Nat} {u : Unit} {a : B} {ρ2 : En} {u2 : Unit} {w : W} {ρ3 : En} : kapp5 q co ca ρ b ρ1 i p u a ρ2 u2 (w, ρ3) = (mutA i p w ρ3).bind (kapp6 q co ca ρ b ρ1 i p u a ρ2 u2 w ρ3) := rfl
theorem v_app5 {q : Bool} {co : CE} {ca : CE} {ρ : En} {b : B} {ρ1 : En} {i : Nat} {p : List Nat} {u : Unit} {a : B} {ρ2 : En} {u2 : Unit} : kapp4 q co ca ρ b ρ1 i p u a ρ2 u2 = (take a ρ2).bind (kapp5 q co ca ρ b ρ1 i p u a ρ2 u2) := rfl
theorem v_app4 {q : Bool} {co : CE} {ca : CE} {ρ : En} {b : B} {ρ1 : En} {i : Nat} {p : List Nat} {u : Unit} {a : B} {ρ2 : En} : kapp3 q co ca ρ b ρ1 i p u (a, ρ2) = (chk (p.isEmpty || isTmp a)).bind (kapp4 q co ca ρ b ρ1 i p u a ρ2) := rfl
theorem v_app3 {q : Bool} {co : CE} {ca : CE} {ρ : En} {b : B} {ρ1 : En} {i : Nat} {p : List Nat} {u : Unit} : kapp2 q co ca ρ b ρ1 i p u = (ca ρ1).bind (kapp3 q co ca ρ b ρ1 i p u) := rfl
theorem v_app2 {q : Bool} {co : CE} {ca : CE} {ρ : En} {b : B} {ρ1 : En} {i : Nat} {p : List Nat} : kapp1 q co ca ρ b ρ1 (i, p) = (pend q (.bor i p)).bind (kapp2 q co ca ρ b ρ1 i p) := rfl
theorem v_app1 {q : Bool} {co : CE} {ca : CE} {ρ : En} {b : B} {ρ1 : En} : kapp0 q co ca ρ (b, ρ1) = (isPl b ρ1).bind (kapp1 q co ca ρ b ρ1) := rfl
theorem v_app {q : Bool} {co : CE} {ca : CE} {ρ : En} : cApp q co ca ρ = (co ρ).bind (kapp0 q co ca ρ) := rfl
def ksl5 (sl : W → Option Int → Option Int → Res W) (q : Bool) (ca : CE) (o1 : CO) (o2 : CO) (ρ : En) (a : B) (ρ1 : En) (u : Unit) (lo : Option Int) (ρ2 : En) (hi : Option Int) (ρ3 : En) (x : W) : (W) → Res (B × En) := fun z => match z with
  | w => .ok (.tmp w, ρ3)
def ksl4 (sl : W → Option Int → Option Int → Res W) (q : Bool) (ca : CE) (o1 : CO) (o2 : CO) (ρ : En) (a : B) (ρ1 : En) (u : Unit) (lo : Option Int) (ρ2 : En) (hi : Option Int) (ρ3 : En) : (W) → Res (B × En) := fun z => match z with
  | x => (sl x lo hi).bind (ksl5 sl q ca o1 o2 ρ a ρ1 u lo ρ2 hi ρ3 x)
def ksl3 (sl : W → Option Int → Option Int → Res W) (q : Bool) (ca : CE) (o1 : CO) (o2 : CO) (ρ : En) (a : B) (ρ1 : En) (u : Unit) (lo : Option Int) (ρ2 : En) : (Option Int) × (En) → Res (B × En) := fun z => match z with
  | (hi, ρ3) => (cont a ρ3).bind (ksl4 sl q ca o1 o2 ρ a ρ1 u lo ρ2 hi ρ3)
def ksl2 (sl : W → Option Int → Option Int → Res W) (q : Bool) (ca : CE) (o1 : CO) (o2 : CO) (ρ : En) (a : B) (ρ1 : En) (u : Unit) : (Option Int) × (En) → Res (B × En) := fun z => match z with
  | (lo, ρ2) => (o2 ρ2).bind (ksl3 sl q ca o1 o2 ρ a ρ1 u lo ρ2)
def ksl1 (sl : W → Option Int → Option Int → Res W) (q : Bool) (ca : CE) (o1 : CO) (o2 : CO) (ρ : En) (a : B) (ρ1 : En) : (Unit) → Res (B × En) := fun z => match z with
  | u => (o1 ρ1).bind (ksl2 sl q ca o1 o2 ρ a ρ1 u)
def ksl0 (sl : W → Option Int → Option Int → Res W) (q : Bool) (ca : CE) (o1 : CO) (o2 : CO) (ρ : En) : (B) × (En) → Res (B × En) := fun z => match z with
  | (a, ρ1) => (pend q a).bind (ksl1 sl q ca o1 o2 ρ a ρ1)
theorem v_sl6 {sl : W → Option Int → Option Int → Res W} {q : Bool} {ca : CE} {o1 : CO} {o2 : CO} {ρ : En} {a : B} {ρ1 : En} {u : Unit} {lo : Option Int} {ρ2 : En} {hi : Option Int} {ρ3 : En} {x : W} {w : W} : ksl5 sl q ca o1 o2 ρ a ρ1 u lo ρ2 hi ρ3 x w = .ok (.tmp w, ρ3) := rfl
theorem v_sl5 {sl : W → Option Int → Option Int → Res W} {q : Bool} {ca : CE} {o1 : CO} {o2 : CO} {ρ : En} {a : B} {ρ1 : En} {u : Unit} {lo : Option Int} {ρ2 : En} {hi : Option Int} {ρ3 : En} {x : W} : ksl4 sl q ca o1 o2 ρ a ρ1 u lo ρ2 hi ρ3 x = (sl x lo hi).bind (ksl5 sl q ca o1 o2 ρ a ρ1 u lo ρ2 hi ρ3 x) := rfl
theorem v_sl4 {sl : W → Option Int → Option Int → Res W} {q : Bool} {ca : CE} {o1 : CO} {o2 : CO} {ρ : En} {a : B} {ρ1 : En} {u : Unit} {lo : Option Int} {ρ2 : En} {hi : Option Int} {ρ3 : En} : ksl3 sl q ca o1 o2 ρ a ρ1 u lo ρ2 (hi, ρ3) = (cont a ρ3).bind (ksl4 sl q ca o1 o2 ρ a ρ1 u lo ρ2 hi ρ3) := rfl
theorem v_sl3 {sl : W → Option Int → Option Int → Res W} {q : Bool} {ca : CE} {o1 : CO} {o2 : CO} {ρ : En} {a : B} {ρ1 : En} {u : Unit} {lo : Option Int} {ρ2 : En} : ksl2 sl q ca o1 o2 ρ a ρ1 u (lo, ρ2) = (o2 ρ2).bind (ksl3 sl q ca o1 o2 ρ a ρ1 u lo ρ2) := rfl
theorem v_sl2 {sl : W → Option Int → Option Int → Res W} {q : Bool} {ca : CE} {o1 : CO} {o2 : CO} {ρ : En} {a : B} {ρ1 : En} {u : Unit} : ksl1 sl q ca o1 o2 ρ a ρ1 u = (o1 ρ1).bind (ksl2 sl q ca o1 o2 ρ a ρ1 u) := rfl
theorem v_sl1 {sl : W → Option Int → Option Int → Res W} {q : Bool} {ca : CE} {o1 : CO} {o2 : CO} {ρ : En} {a : B} {ρ1 : En} : ksl0 sl q ca o1 o2 ρ (a, ρ1) = (pend q a).bind (ksl1 sl q ca o1 o2 ρ a ρ1) := rfl
theorem v_sl {sl : W → Option Int → Option Int → Res W} {q : Bool} {ca : CE} {o1 : CO} {o2 : CO} {ρ : En} : cSl sl q ca o1 o2 ρ = (ca ρ).bind (ksl0 sl q ca o1 o2 ρ) := rfl
def koS1 (ce : CE) (ρ : En) (b : B) (ρ1 : En) : (Int) → Res (Option Int × En) := fun z => match z with
  | j => .ok (some j, ρ1)
def koS0 (ce : CE) (ρ : En) : (B) × (En) → Res (Option Int × En) := fun z => match z with
  | (b, ρ1) => (intOf b).bind (koS1 ce ρ b ρ1)
theorem v_oS2 {ce : CE} {ρ : En} {b : B} {ρ1 : En} {j : Int} : koS1 ce ρ b ρ1 j = .ok (some j, ρ1) := rfl
theorem v_oS1 {ce : CE} {ρ : En} {b : B} {ρ1 : En} : koS0 ce ρ (b, ρ1) = (intOf b).bind (koS1 ce ρ b ρ1) := rfl
theorem v_oS {ce : CE} {ρ : En} : oSome ce ρ = (ce ρ).bind (koS0 ce ρ) := rfl
def kiseq2 (ce : CE) (ρ : En) (b : B) (ρ1 : En) (w : W) (ρ2 : En) : (List D) → Res (List D × En) := fun z => match z with
  | ds => .ok (ds, ρ2)
def kiseq1 (ce : CE) (ρ : En) (b : B) (ρ1 : En) : (W) × (En) → Res (List D × En) := fun z => match z with
  | (w, ρ2) => (Res.of (srcV w)).bind (kiseq2 ce ρ b ρ1 w ρ2)
def kiseq0 (ce : CE) (ρ : En) : (B) × (En) → Res (List D × En) := fun z => match z with
  | (b, ρ1) => (take b ρ1).bind (kiseq1 ce ρ b ρ1)
theorem v_iseq3 {ce : CE} {ρ : En} {b : B} {ρ1 : En} {w : W} {ρ2 : En} {ds : List D} : kiseq2 ce ρ b ρ1 w ρ2 ds = .ok (ds, ρ2) := rfl
theorem v_iseq2 {ce : CE} {ρ : En} {b : B} {ρ1 : En} {w : W} {ρ2 : En} : kiseq1 ce ρ b ρ1 (w, ρ2) = (Res.of (srcV w)).bind (kiseq2 ce ρ b ρ1 w ρ2) := rfl
theorem v_iseq1 {ce : CE} {ρ : En} {b : B} {ρ1 : En} : kiseq0 ce ρ (b, ρ1) = (take b ρ1).bind (kiseq1 ce ρ b ρ1) := rfl
theorem v_iseq {ce : CE} {ρ : En} : iSeq ce ρ = (ce ρ).bind (kiseq0 ce ρ) := rfl
def kienum2 (ce : CE) (ρ : En) (b : B) (ρ1 : En) (w : W) (ρ2 : En) : (List D) → Res (List D × En) := fun z => match z with
  | ds => .ok (enumD 0 ds, ρ2)
def kienum1 (ce : CE) (ρ : En) (b : B) (ρ1 : En) : (W) × (En) → Res (List D × En) := fun z => match z with
  | (w, ρ2) => (Res.of (srcV w)).bind (kienum2 ce ρ b ρ1 w ρ2)
def kienum0 (ce : CE) (ρ : En) : (B) × (En) → Res (List D × En) := fun z => match z with
  | (b, ρ1) => (take b ρ1).bind (kienum1 ce ρ b ρ1)
theorem v_ienum3 {ce : CE} {ρ : En} {b : B} {ρ1 : En} {w : W} {ρ2 : En} {ds : List D} : kienum2 ce ρ b ρ1 w ρ2 ds = .ok (enumD 0 ds, ρ2) := rfl
theorem v_ienum2 {ce : CE} {ρ : En} {b : B} {ρ1 : En} {w : W} {ρ2 : En} : kienum1 ce ρ b ρ1 (w, ρ2) = (Res.of (srcV w)).bind (kienum2 ce ρ b ρ1 w ρ2) := rfl
theorem v_ienum1 {ce : CE} {ρ : En} {b : B} {ρ1 : En} : kienum0 ce ρ (b, ρ1) = (take b ρ1).bind (kienum1 ce ρ b ρ1) := rfl
theorem v_ienum {ce : CE} {ρ : En} : iEnumM ce ρ = (ce ρ).bind (kienum0 ce ρ) := rfl
def kirg2 (ce : CE) (ρ : En) (b : B) (ρ1 : En) (j : Int) : (Unit) → Res (List D × En) := fun z => match z with
  | u => .ok (rangeD 0 j.toNat, ρ1)
def kirg1 (ce : CE) (ρ : En) (b : B) (ρ1 : En) : (Int) → Res (List D × En) := fun z => match z with
  | j => (chk (decide (-(2 ^ 62) ≤ j ∧ j < 2 ^ 62))).bind (kirg2 ce ρ b ρ1 j)
def kirg0 (ce : CE) (ρ : En) : (B) × (En) → Res (List D × En) := fun z => match z with
  | (b, ρ1) => (intOf b).bind (kirg1 ce ρ b ρ1)
theorem v_irg3 {ce : CE} {ρ : En} {b : B} {ρ1 : En} {j : Int} {u : Unit} : kirg2 ce ρ b ρ1 j u = .ok (rangeD 0 j.toNat, ρ1) := rfl
theorem v_irg2 {ce : CE} {ρ : En} {b : B} {ρ1 : En} {j : Int} : kirg1 ce ρ b ρ1 j = (chk (decide (-(2 ^ 62) ≤ j ∧ j < 2 ^ 62))).bind (kirg2 ce ρ b ρ1 j) := rfl
theorem v_irg1 {ce : CE} {ρ : En} {b : B} {ρ1 : En} : kirg0 ce ρ (b, ρ1) = (intOf b).bind (kirg1 ce ρ b ρ1) := rfl
theorem v_irg {ce : CE} {ρ : En} : iRange1 ce ρ = (ce ρ).bind (kirg0 ce ρ) := rfl
def krgTup2 (ce : CE) (ρ : En) (b : B) (ρ1 : En) (j : Int) : (Unit) → Res (B × En) := fun z => match z with
  | u => .ok (.tmp (.fz (.tup (rangeD 0 (j - 0).toNat))), ρ1)
def krgTup1 (ce : CE) (ρ : En) (b : B) (ρ1 : En) : (Int) → Res (B × En) := fun z => match z with
  | j => (chk (decide (RgOk 0 j))).bind (krgTup2 ce ρ b ρ1 j)
def krgTup0 (ce : CE) (ρ : En) : (B) × (En) → Res (B × En) := fun z => match z with
  | (b, ρ1) => (intOf b).bind (krgTup1 ce ρ b ρ1)
theorem v_rgTup3 {ce : CE} {ρ : En} {b : B} {ρ1 : En} {j : Int} {u : Unit} : krgTup2 ce ρ b ρ1 j u = .ok (.tmp (.fz (.tup (rangeD 0 (j - 0).toNat))), ρ1) := rfl
theorem v_rgTup2 {ce : CE} {ρ : En} {b : B} {ρ1 : En} {j : Int} : krgTup1 ce ρ b ρ1 j = (chk (decide (RgOk 0 j))).bind (krgTup2 ce ρ b ρ1 j) := rfl
theorem v_rgTup1 {ce : CE} {ρ : En} {b : B} {ρ1 : En} : krgTup0 ce ρ (b, ρ1) = (intOf b).bind (krgTup1 ce ρ b ρ1) := rfl
theorem v_rgTup {ce : CE} {ρ : En} : cRgTup ce ρ = (ce ρ).bind (krgTup0 ce ρ) := rfl
def kargsc1 (io : KP) (n : Nat) (b : B) (bs : List B) (ρ : En) (w : W) (ρ1 : En) : (List W) × (En) → Res (List W × En) := fun z => match z with
  | (ws, ρ2) => .ok (w :: ws, ρ2)
def kargsc0 (io : KP) (n : Nat) (b : B) (bs : List B) (ρ : En) : (W) × (En) → Res (List W × En) := fun z => match z with
  | (w, ρ1) => (argsIO io (n + 1) bs ρ1).bind (kargsc1 io n b bs ρ w ρ1)
theorem v_argsc2 {io : KP} {n : Nat} {b : B} {bs : List B} {ρ : En} {w : W} {ρ1 : En} {ws : List W} {ρ2 : En} : kargsc1 io n b bs ρ w ρ1 (ws, ρ2) = .ok (w :: ws, ρ2) := rfl
theorem v_argsc1 {io : KP} {n : Nat} {b : B} {bs : List B} {ρ : En} {w : W} {ρ1 : En} : kargsc0 io n b bs ρ (w, ρ1) = (argsIO io (n + 1) bs ρ1).bind (kargsc1 io n b bs ρ w ρ1) := rfl
theorem v_argsc {io : KP} {n : Nat} {b : B} {bs : List B} {ρ : En} : argsIO io n (b :: bs) ρ = ((if io n = true then move b ρ else fzT b ρ)).bind (kargsc0 io n b bs ρ) := rfl
def kputc0 (io : KP) (n : Nat) (b : B) (bs : List B) (w : W) (ws : List W) (ρ : En) : (En) → Res (En) := fun z => match z with
  | ρ1 => putB io (n + 1) bs ws ρ1
theorem v_putc1 {io : KP} {n : Nat} {b : B} {bs : List B} {w : W} {ws : List W} {ρ : En} {ρ1 : En} : kputc0 io n b bs w ws ρ ρ1 = putB io (n + 1) bs ws ρ1 := rfl
theorem v_putc {io : KP} {n : Nat} {b : B} {bs : List B} {w : W} {ws : List W} {ρ : En} : putB io n (b :: bs) (w :: ws) ρ = ((if io n = true then put1 b w ρ else Res.ok ρ)).bind (kputc0 io n b bs w ws ρ) := rfl
def ktakesc1 (b : B) (bs : List B) (ρ : En) (w : W) (ρ1 : En) : (List W) × (En) → Res (List W × En) := fun z => match z with
  | (ws, ρ2) => .ok (w :: ws, ρ2)
def ktakesc0 (b : B) (bs : List B) (ρ : En) : (W) × (En) → Res (List W × En) := fun z => match z with
  | (w, ρ1) => (takes bs ρ1).bind (ktakesc1 b bs ρ w ρ1)
theorem v_takesc2 {b : B} {bs : List B} {ρ : En} {w : W} {ρ1 : En} {ws : List W} {ρ2 : En} : ktakesc1 b bs ρ w ρ1 (ws, ρ2) = .ok (w :: ws, ρ2) := rfl
theorem v_takesc1 {b : B} {bs : List B} {ρ : En} {w : W} {ρ1 : En} : ktakesc0 b bs ρ (w, ρ1) = (takes bs ρ1).bind (ktakesc1 b bs ρ w ρ1) := rfl
theorem v_takesc {b : B} {bs : List B} {ρ : En} : takes (b :: bs) ρ = (take b ρ).bind (ktakesc0 b bs ρ) := rfl
def kcontsc1 (b : B) (bs : List B) (ρ : En) (w : W) : (List W) → Res (List W) := fun z => match z with
  | ws => .ok (w :: ws)
def kcontsc0 (b : B) (bs : List B) (ρ : En) : (W) → Res (List W) := fun z => match z with
  | w => (conts bs ρ).bind (kcontsc1 b bs ρ w)
theorem v_contsc2 {b : B} {bs : List B} {ρ : En} {w : W} {ws : List W} : kcontsc1 b bs ρ w ws = .ok (w :: ws) := rfl
theorem v_contsc1 {b : B} {bs : List B} {ρ : En} {w : W} : kcontsc0 b bs ρ w = (conts bs ρ).bind (kcontsc1 b bs ρ w) := rfl
theorem v_contsc {b : B} {bs : List B} {ρ : En} : conts (b :: bs) ρ = (cont b ρ).bind (kcontsc0 b bs ρ) := rfl
def kbacksI1 (io : KP) (n : Nat) (w : W) (ws : List W) (x : W) (ρ : En) (y : W) : (List W) → Res (List W) := fun z => match z with
  | rr => .ok (y :: rr)
def kbacksI0 (io : KP) (n : Nat) (w : W) (ws : List W) (x : W) (ρ : En) : (W) → Res (List W) := fun z => match z with
  | y => (backs io (n + 1) ws ρ).bind (kbacksI1 io n w ws x ρ y)
theorem v_backsI2 {io : KP} {n : Nat} {w : W} {ws : List W} {x : W} {ρ : En} {y : W} {rr : List W} : kbacksI1 io n w ws x ρ y rr = .ok (y :: rr) := rfl
theorem v_backsI1 {io : KP} {n : Nat} {w : W} {ws : List W} {x : W} {ρ : En} {y : W} : kbacksI0 io n w ws x ρ y = (backs io (n + 1) ws ρ).bind (kbacksI1 io n w ws x ρ y) := rfl
theorem v_backsI {io : KP} {n : Nat} {w : W} {ws : List W} {x : W} {ρ : En} : backs io n (w :: ws) (some x :: ρ) = (backs1 io n w x).bind (kbacksI0 io n w ws x ρ) := rfl
def kbinF6 (op : W → W → Res W) (q : Bool) (ca : CE) (cb : CE) (ρ : En) (a : B) (ρ1 : En) (u : Unit) (b : B) (ρ2 : En) (u2 : Unit) (x : W) (ρ3 : En) (y : W) : (W) → Res (B × En) := fun z => match z with
  | w => .ok (.tmp w, ρ3)
def kbinF5 (op : W → W → Res W) (q : Bool) (ca : CE) (cb : CE) (ρ : En) (a : B) (ρ1 : En) (u : Unit) (b : B) (ρ2 : En) (u2 : Unit) (x : W) (ρ3 : En) : (W) → Res (B × En) := fun z => match z with
  | y => (op (.fz (frz x)) y).bind (kbinF6 op q ca cb ρ a ρ1 u b ρ2 u2 x ρ3 y)
def kbinF4 (op : W → W → Res W) (q : Bool) (ca : CE) (cb : CE) (ρ : En) (a : B) (ρ1 : En) (u : Unit) (b : B) (ρ2 : En) (u2 : Unit) : (W) × (En) → Res (B × En) := fun z => match z with
  | (x, ρ3) => (cont b ρ3).bind (kbinF5 op q ca cb ρ a ρ1 u b ρ2 u2 x ρ3)
def kbinF3 (op : W → W → Res W) (q : Bool) (ca : CE) (cb : CE) (ρ : En) (a : B) (ρ1 : En) (u : Unit) (b : B) (ρ2 : En) : (Unit) → Res (B × En) := fun z => match z with
  | u2 => (take a ρ2).bind (kbinF4 op q ca cb ρ a ρ1 u b ρ2 u2)
def kbinF2 (op : W → W → Res W) (q : Bool) (ca : CE) (cb : CE) (ρ : En) (a : B) (ρ1 : En) (u : Unit) : (B) × (En) → Res (B × En) := fun z => match z with
  | (b, ρ2) => (chk (flatB b)).bind (kbinF3 op q ca cb ρ a ρ1 u b ρ2)
def kbinF1 (op : W → W → Res W) (q : Bool) (ca : CE) (cb : CE) (ρ : En) (a : B) (ρ1 : En) : (Unit) → Res (B × En) := fun z => match z with
  | u => (cb ρ1).bind (kbinF2 op q ca cb ρ a ρ1 u)
def kbinF0 (op : W → W → Res W) (q : Bool) (ca : CE) (cb : CE) (ρ : En) : (B) × (En) → Res (B × En) := fun z => match z with
  | (a, ρ1) => (pend q a).bind (kbinF1 op q ca cb ρ a ρ1)
theorem v_binF7 {op : W → W → Res W} {q : Bool} {ca : CE} {cb : CE} {ρ : En} {a : B} {ρ1 : En} {u : Unit} {b : B} {ρ2 : En} {u2 : Unit} {x : W} {ρ3 : En} {y : W} {w : W} : kbinF6 op q ca cb ρ a ρ1 u b ρ2 u2 x ρ3 y w = .ok (.tmp w, ρ3) := rfl
theorem v_binF6 {op : W → W → Res W} {q : Bool} {ca : CE} {cb : CE} {ρ : En} {a : B} {ρ1 : En} {u : Unit} {b : B} {ρ2 : En} {u2 : Unit} {x : W} {ρ3 : En} {y : W} : kbinF5 op q ca cb ρ a ρ1 u b ρ2 u2 x ρ3 y = (op (.fz (frz x)) y).bind (kbinF6 op q ca cb ρ a ρ1 u b ρ2 u2 x ρ3 y) := rfl
theorem v_binF5 {op : W → W → Res W} {q : Bool} {ca : CE} {cb : CE} {ρ : En} {a : B} {ρ1 : En} {u : Unit} {b : B} {ρ2 : En} {u2 : Unit} {x : W} {ρ3 : En} : kbinF4 op q ca cb ρ a ρ1 u b ρ2 u2 (x, ρ3) = (cont b ρ3).bind (kbinF5 op q ca cb ρ a ρ1 u b ρ2 u2 x ρ3) := rfl
theorem v_binF4 {op : W → W → Res W} {q : Bool} {ca : CE} {cb : CE} {ρ : En} {a : B} {ρ1 : En} {u : Unit} {b : B} {ρ2 : En} {u2 : Unit} : kbinF3 op q ca cb ρ a ρ1 u b ρ2 u2 = (take a ρ2).bind (kbinF4 op q ca cb ρ a ρ1 u b ρ2 u2) := rfl
theorem v_binF3 {op : W → W → Res W} {q : Bool} {ca : CE} {cb : CE} {ρ : En} {a : B} {ρ1 : En} {u : Unit} {b : B} {ρ2 : En} : kbinF2 op q ca cb ρ a ρ1 u (b, ρ2) = (chk (flatB b)).bind (kbinF3 op q ca cb ρ a ρ1 u b ρ2) := rfl
theorem v_binF2 {op : W → W → Res W} {q : Bool} {ca : CE} {cb : CE} {ρ : En} {a : B} {ρ1 : En} {u : Unit} : kbinF1 op q ca cb ρ a ρ1 u = (cb ρ1).bind (kbinF2 op q ca cb ρ a ρ1 u) := rfl
theorem v_binF1 {op : W → W → Res W} {q : Bool} {ca : CE} {cb : CE} {ρ : En} {a : B} {ρ1 : En} : kbinF0 op q ca cb ρ (a, ρ1) = (pend q a).bind (kbinF1 op q ca cb ρ a ρ1) := rfl
theorem v_binF {op : W → W → Res W} {q : Bool} {ca : CE} {cb : CE} {ρ : En} : cBinF op q ca cb ρ = (ca ρ).bind (kbinF0 op q ca cb ρ) := rfl
def kpar22 (i : Nat) (jn : Nat) (cbs : CBs) (ρ : En) (bs : List B) (ρ1 : En) (u : Unit) : (List W) × (En) → Res (Fl × En) := fun z => match z with
  | (ws, ρ2) => match ws with
      | [v, w] => (chk (decide (i < ρ2.length ∧ jn < ρ2.length))).bind fun _ => .ok (.nx, (ρ2.set i (some v)).set jn (some w))
      | _ => .err
def kpar21 (i : Nat) (jn : Nat) (cbs : CBs) (ρ : En) (bs : List B) (ρ1 : En) : (Unit) → Res (Fl × En) := fun z => match z with
  | u => (takes bs ρ1).bind (kpar22 i jn cbs ρ bs ρ1 u)
def kpar20 (i : Nat) (jn : Nat) (cbs : CBs) (ρ : En) : (List B) × (En) → Res (Fl × En) := fun z => match z with
  | (bs, ρ1) => (chk (bs.all flatB)).bind (kpar21 i jn cbs ρ bs ρ1)
theorem v_par22 {i : Nat} {jn : Nat} {cbs : CBs} {ρ : En} {bs : List B} {ρ1 : En} {u : Unit} : kpar21 i jn cbs ρ bs ρ1 u = (takes bs ρ1).bind (kpar22 i jn cbs ρ bs ρ1 u) := rfl
theorem v_par21 {i : Nat} {jn : Nat} {cbs : CBs} {ρ : En} {bs : List B} {ρ1 : En} : kpar20 i jn cbs ρ (bs, ρ1) = (chk (bs.all flatB)).bind (kpar21 i jn cbs ρ bs ρ1) := rfl
theorem v_par2 {i : Nat} {jn : Nat} {cbs : CBs} {ρ : En} : cPar2 i jn cbs ρ = (cbs ρ).bind (kpar20 i jn cbs ρ) := rfl
def kpar32 (i : Nat) (jn : Nat) (ln : Nat) (cbs : CBs) (ρ : En) (bs : List B) (ρ1 : En) (u : Unit) : (List W) × (En) → Res (Fl × En) := fun z => match z with
  | (ws, ρ2) => match ws with
      | [u, v, w] => (chk (decide (i < ρ2.length ∧ jn < ρ2.length ∧ ln < ρ2.length))).bind fun _ => .ok (.nx, ((ρ2.set i (some u)).set jn (some v)).set ln (some w))
      | _ => .err
def kpar31 (i : Nat) (jn : Nat) (ln : Nat) (cbs : CBs) (ρ : En) (bs : List B) (ρ1 : En) : (Unit) → Res (Fl × En) := fun z => match z with
  | u => (takes bs ρ1).bind (kpar32 i jn ln cbs ρ bs ρ1 u)
def kpar30 (i : Nat) (jn : Nat) (ln : Nat) (cbs : CBs) (ρ : En) : (List B) × (En) → Res (Fl × En) := fun z => match z with
  | (bs, ρ1) => (chk (bs.all flatB)).bind (kpar31 i jn ln cbs ρ bs ρ1)
theorem v_par32 {i : Nat} {jn : Nat} {ln : Nat} {cbs : CBs} {ρ : En} {bs : List B} {ρ1 : En} {u : Unit} : kpar31 i jn ln cbs ρ bs ρ1 u = (takes bs ρ1).bind (kpar32 i jn ln cbs ρ bs ρ1 u) := rfl
theorem v_par31 {i : Nat} {jn : Nat} {ln : Nat} {cbs : CBs} {ρ : En} {bs : List B} {ρ1 : En} : kpar30 i jn ln cbs ρ (bs, ρ1) = (chk (bs.all flatB)).bind (kpar31 i jn ln cbs ρ bs ρ1) := rfl
theorem v_par3 {i : Nat} {jn : Nat} {ln : Nat} {cbs : CBs} {ρ : En} : cPar3 i jn ln cbs ρ = (cbs ρ).bind (kpar30 i jn ln cbs ρ) := rfl
def kext7 (q : Bool) (co : CE) (ca : CE) (ρ : En) (b : B) (ρ1 : En) (i : Nat) (p : List Nat) (u : Unit) (a : B) (ρ2 : En) (u2 : Unit) (w : W) (ρ3 : En) (ws : List W) : (En) → Res (B × En) := fun z => match z with
  | ρ4 => .ok (.tmp (.fz .non), ρ4)
def kext6 (q : Bool) (co : CE) (ca : CE) (ρ : En) (b : B) (ρ1 : En) (i : Nat) (p : List Nat) (u : Unit) (a : B) (ρ2 : En) (u2 : Unit) (w : W) (ρ3 : En) : (List W) → Res (B × En) := fun z => match z with
  | ws => (mutP i p (fun zs => if zs.length + ws.length ≤ 16777216 then some (zs ++ ws) else none) ρ3).bind (kext7 q co ca ρ b ρ1 i p u a ρ2 u2 w ρ3 ws)
def kext5 (q : Bool) (co : CE) (ca : CE) (ρ : En) (b : B) (ρ1 : En) (i : Nat) (p : List Nat) (u : Unit) (a : B) (ρ2 : En) (u2 : Unit) : (W) × (En) → Res (B × En) := fun z => match z with
  | (w, ρ3) => (Res.of (extV w)).bind (kext6 q co ca ρ b ρ1 i p u a ρ2 u2 w ρ3)
def kext4 (q : Bool) (co : CE) (ca : CE) (ρ : En) (b : B) (ρ1 : En) (i : Nat) (p : List Nat) (u : Unit) (a : B) (ρ2 : En) : (Unit) → Res (B × En) := fun z => match z with
  | u2 => (take a ρ2).bind (kext5 q co ca ρ b ρ1 i p u a ρ2 u2)
def kext3 (q : Bool) (co : CE) (ca : CE) (ρ : En) (b : B) (ρ1 : En) (i : Nat) (p : List Nat) (u : Unit) : (B) × (En) → Res (B × En) := fun z => match z with
  | (a, ρ2) => (chk (p.isEmpty || isTmp a)).bind (kext4 q co ca ρ b ρ1 i p u a ρ2)
def kext2 (q : Bool) (co : CE) (ca : CE) (ρ : En) (b : B) (ρ1 : En) (i : Nat) (p : List Nat) : (Unit) → Res (B × En) := fun z => match z with
  | u => (ca ρ1).bind (kext3 q co ca ρ b ρ1 i p u)
def kext1 (q : Bool) (co : CE) (ca : CE) (ρ : En) (b : B) (ρ1 : En) : (Nat) × (List Nat) → Res (B × En) := fun z => match z with
  | (i, p) => (pend q (.bor i p)).bind (kext2 q co ca ρ b ρ1 i p)
def kext0 (q : Bool) (co : CE) (ca : CE) (ρ : En) : (B) × (En) → Res (B × En) := fun z => match z with
  | (b, ρ1) => (isPl b ρ1).bind (kext1 q co ca ρ b ρ1)
theorem v_ext8 {q : Bool} {co : CE} {ca : CE} {ρ : En} {b : B} {ρ1 : En} {i : Nat} {p : List Nat} {u : Unit} {a : B} {ρ2 : En} {u2 : Unit} {w : W} {ρ3 : En} {ws : List W} {ρ4 : En} : kext7 q co ca ρ b ρ1 i p u a ρ2 u2 w ρ3 ws ρ4 = .ok (.tmp (.fz .non), ρ4) := rfl
theorem v_ext7 {q : Bool} {co : CE} {ca : CE} {ρ : En} {b : B} {ρ1 : En} {i : Nat} {p : List Nat} {u : Unit} {a : B} {ρ2 : En} {u2 : Unit} {w : W} {ρ3 : En} {ws : List W} : kext6 q co ca ρ b ρ1 i p u a ρ2 u2 w ρ3 ws = (mutP i p (fun zs => if zs.length + ws.length ≤ 16777216 then some (zs ++ ws) else none) ρ3).bind (kext7 q co ca ρ b ρ1 i p u a ρ2 u2 w ρ3 ws) := rfl
theorem v_ext6 {q : Bool} {co : CE} {ca : CE} {ρ : En} {b : B} {ρ1 : En} {i : Nat} {p : List Nat} {u : Unit} {a : B} {ρ2 : En} {u2 : Unit} {w : W} {ρ3 : En} : kext5 q co ca ρ b ρ1 i p u a ρ2 u2 (w, ρ3) = (Res.of (extV w)).bind (kext6 q co ca ρ b ρ1 i p u a ρ2 u2 w ρ3) := rfl
theorem v_ext5 {q : Bool} {co : CE} {ca : CE} {ρ : En} {b : B} {ρ1 : En} {i : Nat} {p : List Nat} {u : Unit} {a : B} {ρ2 : En} {u2 : Unit} : kext4 q co ca ρ b ρ1 i p u a ρ2 u2 = (take a ρ2).bind (kext5 q co ca ρ b ρ1 i p u a ρ2 u2) := rfl
theorem v_ext4 {q : Bool} {co : CE} {ca : CE} {ρ : En} {b : B} {ρ1 : En} {i : Nat} {p : List Nat} {u : Unit} {a : B} {ρ2 : En} : kext3 q co ca ρ b ρ1 i p u (a, ρ2) = (chk (p.isEmpty || isTmp a)).bind (kext4 q co ca ρ b ρ1 i p u a ρ2) := rfl
theorem v_ext3 {q : Bool} {co : CE} {ca : CE} {ρ : En} {b : B} {ρ1 : En} {i : Nat} {p : List Nat} {u : Unit} : kext2 q co ca ρ b ρ1 i p u = (ca ρ1).bind (kext3 q co ca ρ b ρ1 i p u) := rfl
theorem v_ext2 {q : Bool} {co : CE} {ca : CE} {ρ : En} {b : B} {ρ1 : En} {i : Nat} {p : List Nat} : kext1 q co ca ρ b ρ1 (i, p) = (pend q (.bor i p)).bind (kext2 q co ca ρ b ρ1 i p) := rfl
theorem v_ext1 {q : Bool} {co : CE} {ca : CE} {ρ : En} {b : B} {ρ1 : En} : kext0 q co ca ρ (b, ρ1) = (isPl b ρ1).bind (kext1 q co ca ρ b ρ1) := rfl
theorem v_ext {q : Bool} {co : CE} {ca : CE} {ρ : En} : cExt q co ca ρ = (co ρ).bind (kext0 q co ca ρ) := rfl
def kzip2 (cbs : CBs) (ρ : En) (bs : List B) (ρ1 : En) (u : Unit) : (List W) × (En) → Res (List D × En) := fun z => match z with
  | (ws, ρ2) => match ws with
      | [a, b] => (chk (isT a == isT b)).bind fun _ => (Res.of (srcV a)).bind fun ds => (Res.of (srcV b)).bind fun es => .ok (zipD ds es, ρ2)
      | _ => .err
def kzip1 (cbs : CBs) (ρ : En) (bs : List B) (ρ1 : En) : (Unit) → Res (List D × En) := fun z => match z with
  | u => (takes bs ρ1).bind (kzip2 cbs ρ bs ρ1 u)
def kzip0 (cbs : CBs) (ρ : En) : (List B) × (En) → Res (List D × En) := fun z => match z with
  | (bs, ρ1) => (chk (bs.all flatB)).bind (kzip1 cbs ρ bs ρ1)
theorem v_zip2 {cbs : CBs} {ρ : En} {bs : List B} {ρ1 : En} {u : Unit} : kzip1 cbs ρ bs ρ1 u = (takes bs ρ1).bind (kzip2 cbs ρ bs ρ1 u) := rfl
theorem v_zip1 {cbs : CBs} {ρ : En} {bs : List B} {ρ1 : En} : kzip0 cbs ρ (bs, ρ1) = (chk (bs.all flatB)).bind (kzip1 cbs ρ bs ρ1) := rfl
theorem v_zip {cbs : CBs} {ρ : En} : iZipM cbs ρ = (cbs ρ).bind (kzip0 cbs ρ) := rfl
def kirgB4 (ca : CE) (cb : CE) (ρ : En) (a : B) (ρ1 : En) (j : Int) (b : B) (ρ2 : En) (j2 : Int) : (Unit) → Res (List D × En) := fun z => match z with
  | u => .ok (rangeD j (j2 - j).toNat, ρ2)
def kirgB3 (ca : CE) (cb : CE) (ρ : En) (a : B) (ρ1 : En) (j : Int) (b : B) (ρ2 : En) : (Int) → Res (List D × En) := fun z => match z with
  | j2 => (chk (decide (-(2 ^ 62) ≤ j ∧ j < 2 ^ 62 ∧ -(2 ^ 62) ≤ j2 ∧ j2 < 2 ^ 62))).bind (kirgB4 ca cb ρ a ρ1 j b ρ2 j2)
def kirgB2 (ca : CE) (cb : CE) (ρ : En) (a : B) (ρ1 : En) (j : Int) : (B) × (En) → Res (List D × En) := fun z => match z with
  | (b, ρ2) => (intOf b).bind (kirgB3 ca cb ρ a ρ1 j b ρ2)
def kirgB1 (ca : CE) (cb : CE) (ρ : En) (a : B) (ρ1 : En) : (Int) → Res (List D × En) := fun z => match z with
  | j => (cb ρ1).bind (kirgB2 ca cb ρ a ρ1 j)
def kirgB0 (ca : CE) (cb : CE) (ρ : En) : (B) × (En) → Res (List D × En) := fun z => match z with
  | (a, ρ1) => (intOf a).bind (kirgB1 ca cb ρ a ρ1)
theorem v_irgB4 {ca : CE} {cb : CE} {ρ : En} {a : B} {ρ1 : En} {j : Int} {b : B} {ρ2 : En} {j2 : Int} : kirgB3 ca cb ρ a ρ1 j b ρ2 j2 = (chk (decide (-(2 ^ 62) ≤ j ∧ j < 2 ^ 62 ∧ -(2 ^ 62) ≤ j2 ∧ j2 < 2 ^ 62))).bind (kirgB4 ca cb ρ a ρ1 j b ρ2 j2) := rfl
theorem v_irgB3 {ca : CE} {cb : CE} {ρ : En} {a : B} {ρ1 : En} {j : Int} {b : B} {ρ2 : En} : kirgB2 ca cb ρ a ρ1 j (b, ρ2) = (intOf b).bind (kirgB3 ca cb ρ a ρ1 j b ρ2) := rfl
theorem v_irgB2 {ca : CE} {cb : CE} {ρ : En} {a : B} {ρ1 : En} {j : Int} : kirgB1 ca cb ρ a ρ1 j = (cb ρ1).bind (kirgB2 ca cb ρ a ρ1 j) := rfl
theorem v_irgB1 {ca : CE} {cb : CE} {ρ : En} {a : B} {ρ1 : En} : kirgB0 ca cb ρ (a, ρ1) = (intOf a).bind (kirgB1 ca cb ρ a ρ1) := rfl
theorem v_irgB {ca : CE} {cb : CE} {ρ : En} : iRange2 ca cb ρ = (ca ρ).bind (kirgB0 ca cb ρ) := rfl
def krgLst2 (ce : CE) (ρ : En) (b : B) (ρ1 : En) (j : Int) : (Unit) → Res (B × En) := fun z => match z with
  | u => .ok (.tmp (.lst ((rangeD 0 (j - 0).toNat).map W.fz)), ρ1)
def krgLst1 (ce : CE) (ρ : En) (b : B) (ρ1 : En) : (Int) → Res (B × En) := fun z => match z with
  | j => (chk (decide (RgOk 0 j))).bind (krgLst2 ce ρ b ρ1 j)
def krgLst0 (ce : CE) (ρ : En) : (B) × (En) → Res (B × En) := fun z => match z with
  | (b, ρ1) => (intOf b).bind (krgLst1 ce ρ b ρ1)
theorem v_rgLst3 {ce : CE} {ρ : En} {b : B} {ρ1 : En} {j : Int} {u : Unit} : krgLst2 ce ρ b ρ1 j u = .ok (.tmp (.lst ((rangeD 0 (j - 0).toNat).map W.fz)), ρ1) := rfl
theorem v_rgLst2 {ce : CE} {ρ : En} {b : B} {ρ1 : En} {j : Int} : krgLst1 ce ρ b ρ1 j = (chk (decide (RgOk 0 j))).bind (krgLst2 ce ρ b ρ1 j) := rfl
theorem v_rgLst1 {ce : CE} {ρ : En} {b : B} {ρ1 : En} : krgLst0 ce ρ (b, ρ1) = (intOf b).bind (krgLst1 ce ρ b ρ1) := rfl
theorem v_rgLst {ce : CE} {ρ : En} : cRgLst ce ρ = (ce ρ).bind (krgLst0 ce ρ) := rfl
def krgTupB4 (ca : CE) (cb : CE) (ρ : En) (a : B) (ρ1 : En) (j : Int) (b : B) (ρ2 : En) (j2 : Int) : (Unit) → Res (B × En) := fun z => match z with
  | u => .ok (.tmp (.fz (.tup (rangeD j (j2 - j).toNat))), ρ2)
def krgTupB3 (ca : CE) (cb : CE) (ρ : En) (a : B) (ρ1 : En) (j : Int) (b : B) (ρ2 : En) : (Int) → Res (B × En) := fun z => match z with
  | j2 => (chk (decide (RgOk j j2))).bind (krgTupB4 ca cb ρ a ρ1 j b ρ2 j2)
def krgTupB2 (ca : CE) (cb : CE) (ρ : En) (a : B) (ρ1 : En) (j : Int) : (B) × (En) → Res (B × En) := fun z => match z with
  | (b, ρ2) => (intOf b).bind (krgTupB3 ca cb ρ a ρ1 j b ρ2)
def krgTupB1 (ca : CE) (cb : CE) (ρ : En) (a : B) (ρ1 : En) : (Int) → Res (B × En) := fun z => match z with
  | j => (cb ρ1).bind (krgTupB2 ca cb ρ a ρ1 j)
def krgTupB0 (ca : CE) (cb : CE) (ρ : En) : (B) × (En) → Res (B × En) := fun z => match z with
  | (a, ρ1) => (intOf a).bind (krgTupB1 ca cb ρ a ρ1)
theorem v_rgTupB5 {ca : CE} {cb : CE} {ρ : En} {a : B} {ρ1 : En} {j : Int} {b : B} {ρ2 : En} {j2 : Int} {u : Unit} : krgTupB4 ca cb ρ a ρ1 j b ρ2 j2 u = .ok (.tmp (.fz (.tup (rangeD j (j2 - j).toNat))), ρ2) := rfl
theorem v_rgTupB4 {ca : CE} {cb : CE} {ρ : En} {a : B} {ρ1 : En} {j : Int} {b : B} {ρ2 : En} {j2 : Int} : krgTupB3 ca cb ρ a ρ1 j b ρ2 j2 = (chk (decide (RgOk j j2))).bind (krgTupB4 ca cb ρ a ρ1 j b ρ2 j2) := rfl
theorem v_rgTupB3 {ca : CE} {cb : CE} {ρ : En} {a : B} {ρ1 : En} {j : Int} {b : B} {ρ2 : En} : krgTupB2 ca cb ρ a ρ1 j (b, ρ2) = (intOf b).bind (krgTupB3 ca cb ρ a ρ1 j b ρ2) := rfl
theorem v_rgTupB2 {ca : CE} {cb : CE} {ρ : En} {a : B} {ρ1 : En} {j : Int} : krgTupB1 ca cb ρ a ρ1 j = (cb ρ1).bind (krgTupB2 ca cb ρ a ρ1 j) := rfl
theorem v_rgTupB1 {ca : CE} {cb : CE} {ρ : En} {a : B} {ρ1 : En} : krgTupB0 ca cb ρ (a, ρ1) = (intOf a).bind (krgTupB1 ca cb ρ a ρ1) := rfl
theorem v_rgTupB {ca : CE} {cb : CE} {ρ : En} : cRgTup2 ca cb ρ = (ca ρ).bind (krgTupB0 ca cb ρ) := rfl
def krgLstB4 (ca : CE) (cb : CE) (ρ : En) (a : B) (ρ1 : En) (j : Int) (b : B) (ρ2 : En) (j2 : Int) : (Unit) → Res (B × En) := fun z => match z with
  | u => .ok (.tmp (.lst ((rangeD j (j2 - j).toNat).map W.fz)), ρ2)
def krgLstB3 (ca : CE) (cb : CE) (ρ : En) (a : B) (ρ1 : En) (j : Int) (b : B) (ρ2 : En) : (Int) → Res (B × En) := fun z => match z with
  | j2 => (chk (decide (RgOk j j2))).bind (krgLstB4 ca cb ρ a ρ1 j b ρ2 j2)
def krgLstB2 (ca : CE) (cb : CE) (ρ : En) (a : B) (ρ1 : En) (j : Int) : (B) × (En) → Res (B × En) := fun z => match z with
  | (b, ρ2) => (intOf b).bind (krgLstB3 ca cb ρ a ρ1 j b ρ2)
def krgLstB1 (ca : CE) (cb : CE) (ρ : En) (a : B) (ρ1 : En) : (Int) → Res (B × En) := fun z => match z with
  | j => (cb ρ1).bind (krgLstB2 ca cb ρ a ρ1 j)
def krgLstB0 (ca : CE) (cb : CE) (ρ : En) : (B) × (En) → Res (B × En) := fun z => match z with
  | (a, ρ1) => (intOf a).bind (krgLstB1 ca cb ρ a ρ1)
theorem v_rgLstB5 {ca : CE} {cb : CE} {ρ : En} {a : B} {ρ1 : En} {j : Int} {b : B} {ρ2 : En} {j2 : Int} {u : Unit} : krgLstB4 ca cb ρ a ρ1 j b ρ2 j2 u = .ok (.tmp (.lst ((rangeD j (j2 - j).toNat).map W.fz)), ρ2) := rfl
theorem v_rgLstB4 {ca : CE} {cb : CE} {ρ : En} {a : B} {ρ1 : En} {j : Int} {b : B} {ρ2 : En} {j2 : Int} : krgLstB3 ca cb ρ a ρ1 j b ρ2 j2 = (chk (decide (RgOk j j2))).bind (krgLstB4 ca cb ρ a ρ1 j b ρ2 j2) := rfl
theorem v_rgLstB3 {ca : CE} {cb : CE} {ρ : En} {a : B} {ρ1 : En} {j : Int} {b : B} {ρ2 : En} : krgLstB2 ca cb ρ a ρ1 j (b, ρ2) = (intOf b).bind (krgLstB3 ca cb ρ a ρ1 j b ρ2) := rfl
theorem v_rgLstB2 {ca : CE} {cb : CE} {ρ : En} {a : B} {ρ1 : En} {j : Int} : krgLstB1 ca cb ρ a ρ1 j = (cb ρ1).bind (krgLstB2 ca cb ρ a ρ1 j) := rfl
theorem v_rgLstB1 {ca : CE} {cb : CE} {ρ : En} {a : B} {ρ1 : En} : krgLstB0 ca cb ρ (a, ρ1) = (intOf a).bind (krgLstB1 ca cb ρ a ρ1) := rfl
theorem v_rgLstB {ca : CE} {cb : CE} {ρ : En} : cRgLst2 ca cb ρ = (ca ρ).bind (krgLstB0 ca cb ρ) := rfl
section
variable {ρ : En} {i : Nat} {d : D} {io : KP} {w : W} {ws : List W} {ds : List D} {gs : CGs} {α β : Type}
theorem v_ok (a : α) (k : α → Res β) : (Res.ok a).bind k = k a := rfl
theorem v_c : cC d ρ = .ok (.tmp (.fz d), ρ) := rfl
theorem v_nil : cNil ρ = .ok ([], ρ) := rfl
theorem v_next : cNext ρ = .ok (.nx, ρ) := rfl
theorem v_yes : cYes ρ = .ok (true, ρ) := rfl
theorem v_oN : oNone ρ = .ok (none, ρ) := rfl
theorem v_gtup : gTupG gs (.fz (.tup ds)) ρ = gs ds ρ := rfl
theorem v_var : cVar i ρ = match ρ[i]? with
  | some (some (.fz d)) => .ok (.tmp (.fz d), ρ)
  | some (some (.lst _)) => .ok (.bor i [], ρ)
  | _ => .err := rfl
theorem v_lc0 {vs : List Nat} {g : CG} {ct : CT} {ce : CE} : lcL vs g ct ce [] ρ = .ok ([], ρ) := rfl
theorem v_for0 {g : CG} {c1 : CS} : forL g c1 [] ρ = .ok (.nx, ρ) := rfl
theorem v_args0 {n : Nat} : argsIO io n [] ρ = .ok ([], ρ) := rfl
theorem v_put0 {n : Nat} {ws : List W} : putB io n [] ws ρ = .ok ρ := rfl
theorem v_takes0 : takes [] ρ = .ok ([], ρ) := rfl
theorem v_conts0 : conts [] ρ = .ok [] := rfl
theorem v_backs0 {n : Nat} : backs io n [] ρ = .ok [] := rfl
theorem w_add {i j : Int} : fAdd (.fz (.int i)) (.fz (.int j)) = .ok (.fz (.int (i + j))) := rfl
theorem w_sub {i j : Int} : fSub (.fz (.int i)) (.fz (.int j)) = .ok (.fz (.int (i - j))) := rfl
theorem w_neg {i : Int} : fNeg (.fz (.int i)) = .ok (.fz (.int (-i))) := rfl
theorem w_mulL {i j : Int} (h : -(2 ^ 64) < i ∧ i < 2 ^ 64) : fMul (.fz (.int i)) (.fz (.int j)) = .ok (.fz (.int (i * j))) := by
  show Res.bind (if CMul i j then Res.ok (D.int (i * j)) else if CMulW i j then .ok (.int (i * j)) else .err) _ = _
  rw [if_pos (show CMul i j from .inl h)]; rfl
theorem w_mulR {i j : Int} (h : -(2 ^ 64) < j ∧ j < 2 ^ 64) : fMul (.fz (.int i)) (.fz (.int j)) = .ok (.fz (.int (i * j))) := by
  show Res.bind (if CMul i j then Res.ok (D.int (i * j)) else if CMulW i j then .ok (.int (i * j)) else .err) _ = _
  rw [if_pos (show CMul i j from .inr h)]; rfl
theorem log_small {n : Nat} (h : n < 2 ^ 9000) : n.log2 < 9000 := by
  by_cases h0 : n = 0
  · subst h0; decide
  · exact (Nat.log2_lt h0).mpr h
theorem big64 : (2 : Nat) ^ 64 ≤ 2 ^ 9000 := Nat.pow_le_pow_right (by decide) (by decide)
theorem w_div {i j : Int} (h0 : 0 < j) (h : j < 2 ^ 64) : fDiv (.fz (.int i)) (.fz (.int j)) = .ok (.fz (.int (i / j))) := by
  show Res.bind (if CDivW i j then Res.ok (D.int (i / j)) else .err) _ = _
  rw [if_pos (show CDivW i j from ⟨h0, log_small (Nat.lt_of_lt_of_le (by omega) big64)⟩)]; rfl
theorem w_mod {i j : Int} (h0 : 0 < j) : fMod (.fz (.int i)) (.fz (.int j)) = .ok (.fz (.int (i % j))) := by
  show Res.bind (if 0 < j then Res.ok (D.int (i % j)) else .err) _ = _
  rw [if_pos h0]; rfl
theorem w_lt {i j : Int} : fLt (.fz (.int i)) (.fz (.int j)) = .ok (.fz (.bl (decide (i < j)))) := rfl
theorem w_le {i j : Int} : fLe (.fz (.int i)) (.fz (.int j)) = .ok (.fz (.bl (decide (i ≤ j)))) := rfl
theorem w_gt {i j : Int} : fGt (.fz (.int i)) (.fz (.int j)) = .ok (.fz (.bl (decide (j < i)))) := rfl
theorem w_ge {i j : Int} : fGe (.fz (.int i)) (.fz (.int j)) = .ok (.fz (.bl (decide (j ≤ i)))) := rfl
theorem w_ix {x : W} {k : Int} {ds : List D} {j : Nat} {d : D} (hs : seqV x = some ds) (hk : ixN ds.length k = some j) (hd : ds[j]? = some d) : fIdx x (.fz (.int k)) = .ok (.fz d) := by
  have ha : atI ds k = some d := by unfold atI; rw [hk]; exact hd
  unfold fIdx
  cases x with
  | lst ws => dsimp only; rw [hs]; dsimp only; rw [ha]
  | fz e => cases e with
    | lst a => dsimp only; rw [hs]; dsimp only; rw [ha]
    | tup a => dsimp only; rw [hs]; dsimp only; rw [ha]
    | scr a => dsimp only; rw [hs]; dsimp only; rw [ha]
    | _ => cases hs
theorem w_intI {i : Int} : fInt [.fz (.int i)] = .ok (.fz (.int i)) := rfl
theorem w_intB {b : Bool} : fInt [.fz (.bl b)] = .ok (.fz (.int (if b then 1 else 0))) := rfl
theorem w_ix0 {a b c : D} : fIdx (.lst [.fz a, .fz b, .fz c]) (.fz (.int 0)) = .ok (.fz a) := rfl
theorem w_ix1 {a b c : D} : fIdx (.lst [.fz a, .fz b, .fz c]) (.fz (.int 1)) = .ok (.fz b) := rfl
theorem w_ix2 {a b c : D} : fIdx (.lst [.fz a, .fz b, .fz c]) (.fz (.int 2)) = .ok (.fz c) := rfl
theorem w_i0 : ixN 3 0 = some 0 := rfl
theorem w_i1 : ixN 3 1 = some 1 := rfl
theorem w_i2 : ixN 3 2 = some 2 := rfl
end
section
variable {α β γ : Type}
def kco (f : α → Res β) (g : β → Res γ) (x : α) : Res γ := (f x).bind g
theorem x_asc (r : Res α) (f : α → Res β) (g : β → Res γ) : (r.bind f).bind g = r.bind (kco f g) := by cases r <;> rfl
theorem x_kco (f : α → Res β) (g : β → Res γ) (x : α) : kco f g x = (f x).bind g := rfl
theorem x_ite {c : Prop} [Decidable c] (a b : Res α) (k : α → Res β) : (if c then a else b).bind k = if c then a.bind k else b.bind k := by split <;> rfl
def wp (r : Res α) (Q : α → Prop) : Prop := ∃ a, r = .ok a ∧ Q a
end
section
variable {q : Bool} {cbs : CBs} {ρ ρ1 ρ2 ρ3 : En} {bs : List B} {u : Unit} {ws : List W} {i jn ln : Nat} {v w x : W} {a b : W} {ds es : List D} {vs : List Nat} {it : CI} {g : CG} {ct : CT} {ce : CE}
theorem big_le {n : Nat} (h : n ≤ 1000000) : decide (n ≤ 16777216) = true := decide_eq_true (Nat.le_trans h (by omega))
theorem u_tup (h : ws.length ≤ 1000000) : ktup2 q cbs ρ bs ρ1 u (ws, ρ2) = .ok (.tmp (.fz (.tup (frzs ws))), ρ2) := by
  rw [v_tup3, big_le h]; rfl
theorem u_lst (h : ws.length ≤ 1000000) : klst2 q cbs ρ bs ρ1 u (ws, ρ2) = .ok (.tmp (.lst ws), ρ2) := by
  rw [v_lst3, big_le h]; rfl
theorem u_lc (h : ds.length ≤ 1000000) : klc1 vs it g ct ce ρ ds ρ1 u = (lcL vs g ct ce ds (wipeE ρ1 vs)).bind (klc3 vs it g ct ce ρ ds ρ1 u ()) := by
  rw [v_lc2, big_le h]; rfl
def mutA1 : Option (Option W) → Nat → W → En → Res En
  | some (some (.lst ws)), i, w, ρ => if ws.length < 16777216 then .ok (ρ.set i (some (.lst (ws ++ [w])))) else .err
  | _, _, _, _ => .err
theorem u_app0 : mutA i [] w ρ = mutA1 ρ[i]? i w ρ := by
  unfold mutA mutP mutA1
  cases h : ρ[i]? with
  | none => rfl
  | some o =>
    cases o with
    | none => rfl
    | some y =>
      cases y with
      | fz d => rfl
      | lst zs =>
        show Res.bind (Res.of (if zs.length < 16777216 then some (zs ++ [w]) else none)) _ = _
        dsimp only
        by_cases hz : zs.length < 16777216
        · rw [if_pos hz, if_pos hz]; rfl
        · rw [if_neg hz, if_neg hz]; rfl
theorem u_app (h : ws.length ≤ 1000000) : mutA1 (some (some (.lst ws))) i w ρ = .ok (ρ.set i (some (.lst (ws ++ [w])))) := by
  have : ws.length < 16777216 := Nat.lt_of_le_of_lt h (by omega)
  exact if_pos this
def mutE1 : Option (Option W) → List W → Nat → En → Res En
  | some (some (.lst zs)), ws, i, ρ => if zs.length + ws.length ≤ 16777216 then .ok (ρ.set i (some (.lst (zs ++ ws)))) else .err
  | _, _, _, _ => .err
theorem u_ext0 : mutP i [] (fun zs => if zs.length + ws.length ≤ 16777216 then some (zs ++ ws) else none) ρ = mutE1 ρ[i]? ws i ρ := by
  unfold mutP mutE1
  cases h : ρ[i]? with
  | none => rfl
  | some o =>
    cases o with
    | none => rfl
    | some y =>
      cases y with
      | fz d => rfl
      | lst zs =>
        show Res.bind (Res.of (if zs.length + ws.length ≤ 16777216 then some (zs ++ ws) else none)) _ = _
        dsimp only
        by_cases hz : zs.length + ws.length ≤ 16777216
        · rw [if_pos hz, if_pos hz]; rfl
        · rw [if_neg hz, if_neg hz]; rfl
theorem u_ext {zs : List W} (h : zs.length + ws.length ≤ 1000000) : mutE1 (some (some (.lst zs))) ws i ρ = .ok (ρ.set i (some (.lst (zs ++ ws)))) := by
  have : zs.length + ws.length ≤ 16777216 := Nat.le_trans h (by omega)
  exact if_pos this
theorem u_par2 : kpar22 i jn cbs ρ bs ρ1 u ([v, w], ρ2) = (chk (decide (i < ρ2.length ∧ jn < ρ2.length))).bind fun _ => .ok (.nx, (ρ2.set i (some v)).set jn (some w)) := rfl
theorem u_par3 : kpar32 i jn ln cbs ρ bs ρ1 u ([x, v, w], ρ2) = (chk (decide (i < ρ2.length ∧ jn < ρ2.length ∧ ln < ρ2.length))).bind fun _ => .ok (.nx, ((ρ2.set i (some x)).set jn (some v)).set ln (some w)) := rfl
theorem u_zip : kzip2 cbs ρ bs ρ1 u ([a, b], ρ2) = (chk (isT a == isT b)).bind fun _ => (Res.of (srcV a)).bind fun ds => (Res.of (srcV b)).bind fun es => .ok (zipD ds es, ρ2) := rfl
def aug1 : Option (Option W) → Nat → (Int → Int → Int) → CE → En → Res (Fl × En)
  | some (some (.fz (.int n))), i, f, ce, ρ => (ce ρ).bind fun (b, ρ1) => (intOf b).bind fun k => (chk (decide (i < ρ1.length))).bind fun _ => .ok (.nx, ρ1.set i (some (.fz (.int (f n k)))))
  | _, _, _, _, _ => .err
theorem u_aug0 {f : Int → Int → Int} : cAugI i f ce ρ = aug1 ρ[i]? i f ce ρ := by
  unfold cAugI aug1
  cases h : ρ[i]? with
  | none => rfl
  | some o =>
    cases o with
    | none => rfl
    | some y =>
      cases y with
      | fz d => cases d <;> rfl
      | lst zs => rfl
def kaug (n : Int) (i : Nat) (f : Int → Int → Int) : B × En → Res (Fl × En) := fun (b, ρ1) => (intOf b).bind fun k => (chk (decide (i < ρ1.length))).bind fun _ => .ok (.nx, ρ1.set i (some (.fz (.int (f n k)))))
theorem u_aug {f : Int → Int → Int} {n : Int} : aug1 (some (some (.fz (.int n)))) i f ce ρ = (ce ρ).bind (kaug n i f) := rfl
theorem u_aug2 {f : Int → Int → Int} {n k : Int} (h : (decide (i < ρ1.length)) = true) : kaug n i f (.tmp (.fz (.int k)), ρ1) = .ok (.nx, ρ1.set i (some (.fz (.int (f n k))))) := by
  show Res.bind (chk (decide (i < ρ1.length))) _ = _
  rw [h]; rfl
def kch3 (j : Int) (p' : Int → Int → Bool) : B × En → Res (B × En) := fun (c, ρ3) => (intOf c).bind fun k => .ok (.tmp (.fz (.bl (p' j k))), ρ3)
def kch2 (i : Int) (p p' : Int → Int → Bool) (cc : CE) : B × En → Res (B × En) := fun (b, ρ2) => (intOf b).bind fun j => if p i j = true then (cc ρ2).bind (kch3 j p') else .ok (.tmp (.fz (.bl false)), ρ2)
def kch1 (p p' : Int → Int → Bool) (cb cc : CE) : B × En → Res (B × En) := fun (a, ρ1) => (intOf a).bind fun i => (cb ρ1).bind (kch2 i p p' cc)
theorem u_ch {p p' : Int → Int → Bool} {ca cb cc : CE} : cChainI p p' ca cb cc ρ = (ca ρ).bind (kch1 p p' cb cc) := by
  unfold cChainI kch1 kch2 kch3
  rfl
theorem u_ch1 {p p' : Int → Int → Bool} {cb cc : CE} {i : Int} : kch1 p p' cb cc (.tmp (.fz (.int i)), ρ1) = (cb ρ1).bind (kch2 i p p' cc) := rfl
theorem u_ch2 {p p' : Int → Int → Bool} {cc : CE} {i j : Int} : kch2 i p p' cc (.tmp (.fz (.int j)), ρ1) = if p i j = true then (cc ρ1).bind (kch3 j p') else .ok (.tmp (.fz (.bl false)), ρ1) := rfl
theorem u_ch3 {p' : Int → Int → Bool} {j k : Int} : kch3 j p' (.tmp (.fz (.int k)), ρ1) = .ok (.tmp (.fz (.bl (p' j k))), ρ1) := rfl
theorem e_int {a b : Int} : fEq (.fz (.int a)) (.fz (.int b)) = .ok (.fz (.bl (decide (a = b)))) := by
  have e : PyData.eqv (.int a) (.int b) = decide (a = b) := by show (a == b) = _; rfl
  show Res.bind (Res.ok (PyData.eqv (.int a) (.int b))) _ = _
  rw [e]; rfl
theorem ne_int {a b : Int} : fNe (.fz (.int a)) (.fz (.int b)) = .ok (.fz (.bl (!decide (a = b)))) := by
  have e : PyData.eqv (.int a) (.int b) = decide (a = b) := by show (a == b) = _; rfl
  show Res.bind (Res.ok (PyData.eqv (.int a) (.int b))) _ = _
  rw [e]; rfl
theorem e_bl {a b : Bool} : fEq (.fz (.bl a)) (.fz (.bl b)) = .ok (.fz (.bl (a == b))) := by
  cases a <;> cases b <;> rfl
theorem ne_bl {a b : Bool} : fNe (.fz (.bl a)) (.fz (.bl b)) = .ok (.fz (.bl (a != b))) := by
  cases a <;> cases b <;> rfl
theorem q_aa : fEq (.fz (.str "add")) (.fz (.str "add")) = .ok (.fz (.bl true)) := by kernel_rfl
theorem q_af : fEq (.fz (.str "add")) (.fz (.str "floor")) = .ok (.fz (.bl false)) := by kernel_rfl
theorem q_ac : fEq (.fz (.str "add")) (.fz (.str "cap")) = .ok (.fz (.bl false)) := by kernel_rfl
theorem q_fa : fEq (.fz (.str "floor")) (.fz (.str "add")) = .ok (.fz (.bl false)) := by kernel_rfl
theorem q_ff : fEq (.fz (.str "floor")) (.fz (.str "floor")) = .ok (.fz (.bl true)) := by kernel_rfl
theorem q_fc : fEq (.fz (.str "floor")) (.fz (.str "cap")) = .ok (.fz (.bl false)) := by kernel_rfl
theorem q_ca : fEq (.fz (.str "cap")) (.fz (.str "add")) = .ok (.fz (.bl false)) := by kernel_rfl
theorem q_cf : fEq (.fz (.str "cap")) (.fz (.str "floor")) = .ok (.fz (.bl false)) := by kernel_rfl
theorem q_cc : fEq (.fz (.str "cap")) (.fz (.str "cap")) = .ok (.fz (.bl true)) := by kernel_rfl
theorem is_non : fIsN (.fz .non) (.fz .non) = .ok (.fz (.bl true)) := rfl
theorem is_int {a : Int} : fIsN (.fz (.int a)) (.fz .non) = .ok (.fz (.bl false)) := rfl
theorem isn_non : fNotN (.fz .non) (.fz .non) = .ok (.fz (.bl false)) := rfl
theorem isn_int {a : Int} : fNotN (.fz (.int a)) (.fz .non) = .ok (.fz (.bl true)) := rfl
theorem ixN_nat {n k : Nat} (h : k < n) : ixN n (k : Int) = some k := by
  unfold ixN; rw [if_pos (by omega), if_pos (by omega), Int.toNat_natCast]
theorem ix_t0 {d : D} {ds : List D} : fIdx (.fz (.tup (d :: ds))) (.fz (.int 0)) = .ok (.fz d) := w_ix (ds := d :: ds) (j := 0) rfl (ixN_nat (k := 0) (by simp only [List.length_cons]; omega)) rfl
theorem ix_t1 {d e : D} {ds : List D} : fIdx (.fz (.tup (d :: e :: ds))) (.fz (.int 1)) = .ok (.fz e) := w_ix (ds := d :: e :: ds) (j := 1) rfl (ixN_nat (k := 1) (by simp only [List.length_cons]; omega)) rfl
theorem ix_t2 {d e f : D} {ds : List D} : fIdx (.fz (.tup (d :: e :: f :: ds))) (.fz (.int 2)) = .ok (.fz f) := w_ix (ds := d :: e :: f :: ds) (j := 2) rfl (ixN_nat (k := 2) (by simp only [List.length_cons]; omega)) rfl
theorem ix_l0 {d : D} {ds : List D} : fIdx (.fz (.lst (d :: ds))) (.fz (.int 0)) = .ok (.fz d) := w_ix (ds := d :: ds) (j := 0) rfl (ixN_nat (k := 0) (by simp only [List.length_cons]; omega)) rfl
theorem ix_l1 {d e : D} {ds : List D} : fIdx (.fz (.lst (d :: e :: ds))) (.fz (.int 1)) = .ok (.fz e) := w_ix (ds := d :: e :: ds) (j := 1) rfl (ixN_nat (k := 1) (by simp only [List.length_cons]; omega)) rfl
theorem u_irg {ce : CE} {b : B} {j : Int} (h : -1000000 ≤ j ∧ j ≤ 1000000) : kirg1 ce ρ b ρ1 j = .ok (rangeD 0 j.toNat, ρ1) := by
  have c : decide (-(2 ^ 62) ≤ j ∧ j < 2 ^ 62) = true := decide_eq_true (by omega)
  rw [v_irg2, c]; rfl
theorem u_irgB {ca cb : CE} {a b : B} {j j2 : Int} (h : -1000000 ≤ j ∧ j ≤ 1000000) (h2 : -1000000 ≤ j2 ∧ j2 ≤ 1000000) : kirgB3 ca cb ρ a ρ1 j b ρ2 j2 = .ok (rangeD j (j2 - j).toNat, ρ2) := by
  have c : decide (-(2 ^ 62) ≤ j ∧ j < 2 ^ 62 ∧ -(2 ^ 62) ≤ j2 ∧ j2 < 2 ^ 62) = true := decide_eq_true (by omega)
  rw [v_irgB4, c]; rfl
theorem u_srT : srcV (.fz (.tup ds)) = some ds := rfl
theorem u_srL : srcV (.fz (.lst ds)) = some ds := rfl
theorem u_srW : srcV (.lst ws) = some (frzs ws) := rfl
theorem u_join {o : Option W} : Option.join (some o) = o := rfl
theorem u_unT {gs : CGs} : gUnp gs (.fz (.tup ds)) ρ = gs ds ρ := rfl
theorem u_unL {gs : CGs} : gUnp gs (.fz (.lst ds)) ρ = gs ds ρ := rfl
theorem u_unW {gs : CGs} : gUnp gs (.lst ws) ρ = gs (frzs ws) ρ := rfl
theorem u_max {i j : Int} : fMax2 [.fz (.int i), .fz (.int j)] = .ok (.fz (.int (max i j))) := by
  show Res.ok (W.fz (.int (if j > i then j else i))) = _
  congr 3; split <;> omega
theorem u_min {i j : Int} : fMin2 [.fz (.int i), .fz (.int j)] = .ok (.fz (.int (min i j))) := by
  show Res.ok (W.fz (.int (if j < i then j else i))) = _
  congr 3; split <;> omega
theorem u_abs {i : Int} : fAbs [.fz (.int i)] = .ok (.fz (.int (max i (-i)))) := by
  show Res.ok (W.fz (.int (if i < 0 then -i else i))) = _
  congr 3; split <;> omega
end
end Mi
namespace Mi
open PySem PySem.Spec PyProof.Rows L2
section
variable {X : Cx} {cl : Nat → Addr} {e : Expr} {ca : CE} {qa : Bool} {pos : Pos}
structure FnG (X : Cx) (cl : Nat → Addr) (g : Addr) (F : Fn) : Prop where
  ex : ∃ k : Nat, FnR X.prog X.w X.K X.mg X.base CX0 k g (spM ⟨X.K, cl⟩ F) ∧ Room (k + 1) X.A
end
section
variable {X : Cx} {CX : CXT} {C g : Addr} {n : Nat} {sp : Sp} {E : XK}
end
end Mi
namespace Mi
open PySem PySem.Spec PyProof.Rows L2
section
variable {X : Cx} {cl : Nat → Addr} {fe e : Expr} {ca cb : CE} {qa qb : Bool} {pos p p2 : Pos}
end
end Mi
namespace Mi
open PySem PySem.Spec PyProof.Rows L2
section
variable {X : Cx} {o : Expr} {ta : TE} {f : Str} {pos : Pos}
end
abbrev Fv := List (Option D)
def FvR (C : Cfg) (H : Hp) (O : AP) : Fv → List (Option V) → Prop
  | [], vs => vs = []
  | o :: fv, vs => ∃ p r, vs = p :: r ∧ (match o with
    | none => p = none
    | some d => ∃ v, p = some v ∧ RepD C H O d v) ∧ FvR C H O fv r
section
variable {C : Cfg} {H H' : Hp} {O O' : AP}
theorem FvR.keep (k : Keep H O H' O') : ∀ {fv : Fv} {vs : List (Option V)}, FvR C H O fv vs → FvR C H' O' fv vs
  | [], vs, h => h
  | o :: fv, vs, h => by
    obtain ⟨p, r, e, h1, h2⟩ := h
    refine ⟨p, r, e, ?_, FvR.keep k h2⟩
    cases o with
    | none => exact h1
    | some d => obtain ⟨v, e, rd⟩ := h1; exact ⟨v, e, RepD.keep k d v rd⟩
theorem FvR.length : ∀ {fv : Fv} {vs : List (Option V)}, FvR C H O fv vs → vs.length = fv.length
  | [], vs, h => by rw [show vs = [] from h]; rfl
  | o :: fv, vs, h => by
    obtain ⟨p, r, e, h1, h2⟩ := h
    rw [e, List.length_cons, List.length_cons, FvR.length h2]
theorem FvR.set {d : D} {v : V} (rd : RepD C H O d v) : ∀ {fv : Fv} {vs : List (Option V)} (i : Nat), FvR C H O fv vs → FvR C H O (fv.set i (some d)) (vs.set i (some v))
  | [], vs, i, h => by rw [show vs = [] from h]; rfl
  | o :: fv, vs, 0, h => by
    obtain ⟨p, r, e, h1, h2⟩ := h
    subst e
    exact ⟨some v, r, rfl, ⟨v, rfl, rd⟩, h2⟩
  | o :: fv, vs, i + 1, h => by
    obtain ⟨p, r, e, h1, h2⟩ := h
    subst e
    exact ⟨p, r.set i (some v), rfl, h1, FvR.set rd i h2⟩
theorem FvR.nones : ∀ n : Nat, FvR C H O (List.replicate n none) (List.replicate n none)
  | 0 => rfl
  | n + 1 => ⟨none, _, rfl, rfl, FvR.nones n⟩
theorem FvR.append : ∀ {fv gv : Fv} {vs us : List (Option V)}, FvR C H O fv vs → FvR C H O gv us → FvR C H O (fv ++ gv) (vs ++ us)
  | [], gv, vs, us, h, g => by rw [show vs = [] from h]; exact g
  | o :: fv, gv, vs, us, h, g => by
    obtain ⟨p, r, e, h1, h2⟩ := h
    subst e
    exact ⟨p, r ++ us, rfl, h1, FvR.append h2 g⟩
def putD (i : Nat) (d : D) (fv : Fv) : Fv := (fv ++ List.replicate (i + 1 - fv.length) none).set i (some d)
theorem FvR.put {d : D} {v : V} {fv : Fv} {vs : List (Option V)} (rd : RepD C H O d v) (i : Nat) (h : FvR C H O fv vs) : FvR C H O (putD i d fv) (SlX.putS i v vs) := by
  unfold putD SlX.putS
  rw [h.length]
  exact FvR.set rd i (h.append (FvR.nones _))
end
structure ObjS (C : Cfg) (c : Nat) (H : Hp) (O : AP) (L : List Addr) (σ : Sg) (x dx : Addr) (fv : Fv) (vs : List (Option V)) : Prop where
  s0 : σ[0]? = some (some (.ref x))
  sl : SlX.Slt H x (C.cl c) dx vs
  ne : dx ≠ x
  ex : ∃ o, H x = some o
  ed : ∃ o, H dx = some o
  n1 : O x ∧ x ∉ L
  n2 : O dx ∧ dx ∉ L
  fr : FvR C H O fv vs
structure StI (H : Hp) (O : AP) (L : List Addr) (x dx : Addr) (H' : Hp) (O' : AP) (L' : List Addr) : Prop where
  fr : ∀ a o, H a = some o → a ∉ L → a ≠ x → a ≠ dx → H' a = some o
  nw : ∀ a, O' a → O a ∨ H a = none
  ol : ∀ a o, H a = some o → O a → a ∉ L → O' a
  ll : ∀ a ∈ L', a ∈ L ∨ H a = none
  dm : ∀ a o, H a = some o → ∃ o', H' a = some o'
theorem StI.trans {H H1 H2 : Hp} {O O1 O2 : AP} {L L1 L2 : List Addr} {x dx : Addr} (a : StI H O L x dx H1 O1 L1) (b : StI H1 O1 L1 x dx H2 O2 L2) : StI H O L x dx H2 O2 L2 where
  fr := fun c o e n n1 n2 => b.fr c o (a.fr c o e n n1 n2) (fun z => by
    rcases a.ll c z with q | q
    · exact n q
    · rw [e] at q; cases q) n1 n2
  nw := fun c q => by
    rcases b.nw c q with q | q
    · exact a.nw c q
    · refine .inr ?_
      cases e : H c with
      | none => rfl
      | some o => obtain ⟨o', e'⟩ := a.dm c o e; rw [q] at e'; cases e'
  ol := fun c o e q n => by
    obtain ⟨o', e'⟩ := a.dm c o e
    exact b.ol c o' e' (a.ol c o e q n) fun z => by
      rcases a.ll c z with r | r
      · exact n r
      · rw [e] at r; cases r
  ll := fun c z => by
    rcases b.ll c z with q | q
    · exact a.ll c q
    · refine .inr ?_
      cases e : H c with
      | none => rfl
      | some o => obtain ⟨o', e'⟩ := a.dm c o e; rw [q] at e'; cases e'
  dm := fun c o e => by
    obtain ⟨o', q⟩ := a.dm c o e
    exact b.dm c o' q
section
variable {X : Cx} {cl : Nat → Addr} {c : Nat}
theorem ObjS.step {H H1 : Hp} {O O1 : AP} {L L1 : List Addr} {σ σ1 : Sg} {x dx : Addr} {fv : Fv} {vs : List (Option V)} (ob : ObjS ⟨X.K, cl⟩ c H O L σ x dx fv vs) (own : ∀ a ∈ L, O a) (st : Stp H O L H1 O1 L1) (h0 : σ1[0]? = σ[0]?) : ObjS ⟨X.K, cl⟩ c H1 O1 L1 σ1 x dx fv vs := by
  obtain ⟨ox, hx⟩ := ob.ex
  obtain ⟨od, hd⟩ := ob.ed
  have hx1 := st.fr x ox hx ob.n1.2
  have hd1 := st.fr dx od hd ob.n2.2
  refine ⟨h0.trans ob.s0, ?_, ob.ne, ⟨_, hx1⟩, ⟨_, hd1⟩, ⟨st.ol x ox hx ob.n1.1 ob.n1.2, fun z => ?_⟩, ⟨st.ol dx od hd ob.n2.1 ob.n2.2, fun z => ?_⟩, ob.fr.keep (st.keep own)⟩
  · rcases ob.sl with ⟨h1, h2⟩ | ⟨h1, h2⟩
    · rw [hx] at h1; exact .inl ⟨by rw [hx1, h1], h2⟩
    · rw [hx] at h1; rw [hd] at h2; exact .inr ⟨by rw [hx1, h1], by rw [hd1, h2]⟩
  · rcases st.ll x z with q | q
    · exact ob.n1.2 q
    · rw [hx] at q; cases q
  · rcases st.ll dx z with q | q
    · exact ob.n2.2 q
    · rw [hd] at q; cases q
theorem ObjS.put {H : Hp} {O : AP} {L : List Addr} {σ : Sg} {x dx : Addr} {fv : Fv} {vs : List (Option V)} {ρ : En} {d : D} {v : V} (env : EnvR ⟨X.K, cl⟩ H O ρ σ L) (ob : ObjS ⟨X.K, cl⟩ c H O L σ x dx fv vs) (rd : RepD ⟨X.K, cl⟩ H O d v) (i : Nat) :
    EnvR ⟨X.K, cl⟩ (SlX.slH H x (cl c) dx (SlX.putS i v vs)) O ρ σ L ∧ ObjS ⟨X.K, cl⟩ c (SlX.slH H x (cl c) dx (SlX.putS i v vs)) O L σ x dx (putD i d fv) (SlX.putS i v vs) ∧ StI H O L x dx (SlX.slH H x (cl c) dx (SlX.putS i v vs)) O L := by
  have hk : Keep H O (SlX.slH H x (cl c) dx (SlX.putS i v vs)) O := fun a o e n => ⟨(SlX.slH_ne (fun z => n (by rw [z]; exact ob.n1.1)) (fun z => n (by rw [z]; exact ob.n2.1))).trans e, n⟩
  have hkL : KeepL H O (SlX.slH H x (cl c) dx (SlX.putS i v vs)) O L := ⟨hk, fun a ha o e => ⟨(SlX.slH_ne (fun z => ob.n1.2 (by rw [← z]; exact ha)) (fun z => ob.n2.2 (by rw [← z]; exact ha))).trans e, (env.own a ha).1⟩⟩
  have hx : SlX.slH H x (cl c) dx (SlX.putS i v vs) x = some (SlX.SlO x (cl c) dx (SlX.putS i v vs)) := upd_same
  have hd : SlX.slH H x (cl c) dx (SlX.putS i v vs) dx = some (.xd []) := by unfold SlX.slH; rw [upd_ne ob.ne, upd_same]
  refine ⟨env.keep hkL, ⟨ob.s0, SlX.slH_slt ob.ne, ob.ne, ⟨_, hx⟩, ⟨_, hd⟩, ob.n1, ob.n2, (ob.fr.keep hk).put (RepD.keep hk d v rd) i⟩, ⟨fun a o e _ n1 n2 => (SlX.slH_ne n1 n2).trans e, fun _ q => .inl q, fun _ _ _ q _ => q, fun _ h => .inl h, fun a o e => ?_⟩⟩
  by_cases h1 : a = x
  · subst h1; exact ⟨_, hx⟩
  · by_cases h2 : a = dx
    · subst h2; exact ⟨_, hd⟩
    · exact ⟨o, (SlX.slH_ne h1 h2).trans e⟩
end
end Mi
namespace Mi
open PySem PySem.Spec PyProof.Rows L2
theorem StI.keep {H H' : Hp} {O O' : AP} {L L' : List Addr} {x dx : Addr} (st : StI H O L x dx H' O' L') (own : ∀ a ∈ L, O a) (ox : O x) (od : O dx) : Keep H O H' O' := fun a o e n =>
  ⟨st.fr a o e (fun z => n (own a z)) (fun z => n (by rw [z]; exact ox)) (fun z => n (by rw [z]; exact od)), fun q => by
    rcases st.nw a q with r | r
    · exact n r
    · rw [e] at r; cases r⟩
section
variable {X : Cx} {cl : Nat → Addr} {c : Nat}
end
end Mi
namespace Mi
open PySem PySem.Spec PyProof.Rows L2
def spI (C : Cfg) (c np : Nat) (I : List D → Res (List D)) : Sp := fun vs H Q _ => ∃ x dx as O ds fs, vs = V.ref x :: as ∧ as.length = np ∧ H x = some (.ins (C.cl c) dx []) ∧ H dx = some (.own x) ∧ dx ≠ x ∧ O x ∧ O dx ∧ RepDs C H O ds as ∧ I ds = .ok fs ∧
  ∀ H' O' xs, (∀ a o, H a = some o → a ≠ x → a ≠ dx → H' a = some o) → (∀ a o, H a = some o → O a → O' a) → H' dx = some (.xd []) → H' x = some (SlX.SlO x (C.cl c) dx (xs.map some)) → RepDs C H' O' fs xs → Q .non H'
structure MkM (X : Cx) (cl : Nat → Addr) (c : Nat) (x : Str) (np : Nat) (I : List D → Res (List D)) : Prop where
  ex : ∃ (k : Nat) (f : Addr) (fd : FuncData) (ps : List Str), FnOk X.prog X.w X.K X.mg X.base CX0 k f fd ps (spI ⟨X.K, cl⟩ c np I) ∧ Room (k + 1) X.A ∧ X.mg x = some (.ref (cl c)) ∧ Mk X.K (cl c) f ∧ (∀ ds fs, I ds = .ok fs → ds.length = np) ∧
    ∀ dd : List D, (∀ d ∈ dd, d = .non) → dd.length ≤ 2 → ∃ ds, Vals (dd.map fun _ => V.non) ds ∧ Binds X.K fd ps ds
section
variable {X : Cx} {cl : Nat → Addr} {e : Expr} {es : List Expr} {cb : CBs} {qb : Bool} {p pos : Pos}
end
end Mi
namespace Mi
open PySem PySem.Spec PyProof.Rows L2
structure DefX where
  pl : PySem.W.Frag → Addr
  nm : Str
  ql : Str
  ar : Arguments
  bd : List Stmt
  sc : Scope
  df : List V := []
def xObs (K : PySem.W.Frag) (a : Addr) : He.FnW := match K.lookup a with
  | some ⟨_, _, .func g, _⟩ => some (g.name, g.qualname, g.params, g.body, g.scope, g.globals, g.closure, g.builtins)
  | _ => none
def xVal (d : DefX) : He.FnW := some (d.nm, d.ql, d.ar, .stmts d.bd, d.sc, mainGlobals, [], builtinsNs)
def xOk (K : PySem.W.Frag) (d : DefX) : Bool := PySem.W.keepIn K (.ref (d.pl K)) && match K.lookup (d.pl K) with
  | some ⟨_, _, .func g, _⟩ => PySem.W.codeIn K g.code d.ql && (He.dflB K g.defaults d.df && He.kwdB K g.kwdefaults [])
  | _ => false
theorem xFun {K : PySem.W.Frag} {d : DefX} (e : xObs K (d.pl K) = xVal d) (c : xOk K d = true) : ∃ fd, FunD K d.nm d.ql d.ar d.bd d.sc d.df [] (d.pl K) fd := by
  obtain ⟨c0, c1⟩ := Bool.and_eq_true_iff.mp c
  unfold xObs xVal at e
  generalize hl : K.lookup (d.pl K) = ob at e c1
  match ob, e, c1 with
  | some ⟨oc, od, .func ⟨n1, n2, n3, n4, n5, n6, n7, n8, n9, n10, n11, n12, n13, n14, n15⟩, osl⟩, e, c1 =>
    simp only [Option.some.injEq, Prod.mk.injEq] at e
    obtain ⟨h1, h2, h3, h4, h5, h6, h7, h8⟩ := e
    subst h1 h2 h3 h4 h5 h6 h7 h8
    obtain ⟨k1, k2⟩ := Bool.and_eq_true_iff.mp c1
    obtain ⟨k3, k4⟩ := Bool.and_eq_true_iff.mp k2
    exact ⟨_, ⟨oc, od, n8, n9, n10, n11, n12, n13, n14, osl, rfl, hl, k1, He.dflB_ok k3, He.kwdB_ok (kws := []) k4⟩, c0⟩
abbrev AlX : Type := Bool × List He.FnW
def obsX (fa : List He.Fa) (fx : List DefX) (xb : PySem.W.Frag → Bool) (K : PySem.W.Frag) : AlX := ((fa.all fun f => f.ok K) && (fx.all (xOk K) && xb K), fx.map fun d => xObs K (d.pl K))
def valX (fx : List DefX) : AlX := (true, fx.map xVal)
def SaysX (fa : List He.Fa) (fx : List DefX) (xb : PySem.W.Frag → Bool) (K : PySem.W.Frag) : Prop := obsX fa fx xb K = valX fx
def obsXG (n : Nat) (fa : List He.Fa) (fx : List DefX) (xb : PySem.W.Frag → Bool) (g : Addr → Option Obj) : AlX := obsX fa fx xb (He.frG g (He.asD g n))
def hookX (n : Nat) (fa : List He.Fa) (fx : List DefX) (xb : PySem.W.Frag → Bool) : PySem.W.Hook where
  α := AlX
  obs s := obsXG n fa fx xb s.heap.get?
  val _ := valX fx
  says _ h := ∃ K : PySem.W.Frag, K.In h ∧ SaysX fa fx xb K
  of _ _ e := ⟨_, He.frG_in, e⟩
  keeps _ _ _ := fun ⟨K, hK, c⟩ k => ⟨K, hK.keeps k, c⟩
theorem obsXG_eq {n : Nat} {fa : List He.Fa} {fx : List DefX} {xb : PySem.W.Frag → Bool} {g : Addr → Option Obj} {s : Shared} (h : ∀ a, g a = s.heap.get? a) : obsXG n fa fx xb g = (hookX n fa fx xb).obs s := by
  obtain rfl : g = s.heap.get? := funext h
  rfl
section
variable {fa : List He.Fa} {fx : List DefX} {xb : PySem.W.Frag → Bool} {K : PySem.W.Frag}
theorem SaysX.all (c : SaysX fa fx xb K) : (fa.all fun f => f.ok K) = true ∧ fx.all (xOk K) = true ∧ xb K = true := by
  have h : ((fa.all fun f => f.ok K) && (fx.all (xOk K) && xb K)) = true := congrArg Prod.fst c
  simpa [Bool.and_eq_true] using h
theorem SaysX.fact (c : SaysX fa fx xb K) (i : Nat) {f : He.Fa} (h : fa[i]? = some f) : f.ok K = true := List.all_eq_true.mp c.all.1 f (List.mem_of_getElem? h)
theorem SaysX.fn (c : SaysX fa fx xb K) (i : Nat) {d : DefX} (h : fx[i]? = some d) : ∃ fd, FunD K d.nm d.ql d.ar d.bd d.sc d.df [] (d.pl K) fd := by
  have e : (fx.map fun d => xObs K (d.pl K))[i]? = (fx.map xVal)[i]? := congrArg (fun z : AlX => z.2[i]?) c
  rw [List.getElem?_map, List.getElem?_map, h] at e
  exact xFun (Option.some.inj e) (List.all_eq_true.mp c.all.2.1 d (List.mem_of_getElem? h))
end
def pga (K : PySem.W.Frag) (C : Addr) (f : Str) : Addr := match PySem.W.recIn K (He.ma K C f) "property" with
  | some (.ref g :: _) => g
  | _ => 0
structure PrF (K : PySem.W.Frag) (C : Addr) (f : Str) : Prop where
  at_ : PySem.W.findIn K (.ref C) f = some (some (.ref (He.ma K C f)))
  get : PySem.W.specialIn K (.ref (He.ma K C f)) "__get__" = some (some (.builtin "property.__get__"))
  tk : PySem.W.takesIn K (.ref (He.ma K C f)) = some true
  rc : ∃ rest, PySem.W.recIn K (He.ma K C f) "property" = some (.ref (pga K C f) :: rest)
structure MeF (K : PySem.W.Frag) (C : Addr) (m : Str) : Prop where
  at_ : PySem.W.findIn K (.ref C) m = some (some (.ref (He.ma K C m)))
  fn : PySem.W.isFn K (.ref (He.ma K C m)) = true
structure WayF (K : PySem.W.Frag) (C : Addr) (i0 i1 i2 : Nat) : Prop where
  sc : SlX.SCls K C
  s0 : SlX.Slot1 K C "own_shift" (He.ma K C "own_shift") i0
  s1 : SlX.Slot1 K C "own_floor" (He.ma K C "own_floor") i1
  s2 : SlX.Slot1 K C "own_cap" (He.ma K C "own_cap") i2
  shift : PrF K C "shift"
  floor : PrF K C "floor"
  cap : PrF K C "cap"
  text : PrF K C "text"
  call : StX.CallO K C (He.ma K C "__call__")
  rshift : MeF K C "__rshift__"
  mul : MeF K C "__mul__"
  eq : MeF K C "__eq__"
  first : PySem.W.selfFirst K C = true
  rmul : PySem.W.findIn K (.ref C) "__rmul__" = some none
  im : ∃ fo, PySem.W.findIn K (.type "int") "__mul__" = some fo
  ir : ∃ ro, PySem.W.findIn K (.type "int") "__rmul__" = some ro
  sub : PySem.W.subIn K (.type "int") (.ref C) = some false
  nf : PySem.W.notFirst K C (.ref C) = true
  isi : SlX.SIsi K C
  kit : PySem.W.kitOne K (.ref C) (.ref C) = some true
  kp : PySem.W.keepIn K (.ref C) = true
  ne : PySem.W.findIn K (.ref C) "__ne__" = some (some (.builtin "object.__ne__"))
end Mi
namespace Mi
open PySem PySem.Spec PyProof.Rows L2
section
variable {X : Cx} {cl : Nat → Addr} {a b e : Expr} {ca cb : CE} {qa qb : Bool} {pos p p2 : Pos} {i0 i1 i2 : Nat} {F : Fn}
end
structure Dg (P : Program) (w : World) (K : PySem.W.Frag) (mg : Str → Option Value) (base : Heap) (cl : Nat → Addr) (g : Addr) (k : Nat) (F : Fn) : Prop where
  ex : FnR P w K mg base CX0 k g (spM ⟨K, cl⟩ F)
structure Dm (P : Program) (w : World) (K : PySem.W.Frag) (mg : Str → Option Value) (base : Heap) (cl : Nat → Addr) (c : Nat) (x : Str) (k np : Nat) (I : List D → Res (List D)) : Prop where
  ex : ∃ (f : Addr) (fd : FuncData) (ps : List Str), FnOk P w K mg base CX0 k f fd ps (spI ⟨K, cl⟩ c np I) ∧ mg x = some (.ref (cl c)) ∧ Mk K (cl c) f ∧ (∀ ds fs, I ds = .ok fs → ds.length = np) ∧ ∀ dd : List D, (∀ d ∈ dd, d = .non) → dd.length ≤ 2 → ∃ ds, Vals (dd.map fun _ => V.non) ds ∧ Binds K fd ps ds
section
variable {P : Program} {w : World} {K : PySem.W.Frag} {mg : Str → Option Value} {base : Heap} {cl : Nat → Addr} {k j : Nat} {F : Fn} {N : List Str} {q : Str} {sc : Scope} {f : Addr} {cdv : Value} {A : Around} {outer : List Env} {s : Shared} {H : Hp} {E : XK} {g : Addr}
end
end Mi
namespace Mi
open PySem PySem.Spec PyProof.Rows L2
section
variable {X : Cx} {cl : Nat → Addr} {o e : Expr} {es : List Expr} {cbs : CBs} {ca cb : CE} {qa qb : Bool} {p pos apos : Pos}
end
end Mi
namespace Mi
open PySem PySem.Spec PyProof.Rows L2
section
variable {P : Program} {w : World} {K : PySem.W.Frag} {mg : Str → Option Value} {base : Heap} {cl : Nat → Addr} {k : Nat} {F : Fn} {g : Addr}
theorem Dg.of {fd : FuncData} {ps : List Str} (G : FnOk P w K mg base CX0 k g fd ps (spM ⟨K, cl⟩ F)) (hb : Binds K fd ps []) : Dg P w K mg base cl g k F :=
  ⟨(G.raw hb .nil).imp fun vs H Q E h => by rw [List.append_nil]; exact h⟩
end
section
variable {X : Cx} {cl : Nat → Addr} {s : Shared} {H : Hp} {sc : Scope} {en : Env} {fp : List Addr}
theorem FnG.blk {g : Addr} {F : Fn} (h : FnG X cl g F) : FnG (X.blk s H sc en fp) cl g F := ⟨h.ex⟩
theorem MkM.blk {c np : Nat} {x : Str} {I : List D → Res (List D)} (h : MkM X cl c x np I) : MkM (X.blk s H sc en fp) cl c x np I := ⟨h.ex⟩
end
end Mi
namespace Mi
open PySem PySem.Spec PyProof.Rows L2
section
variable {C : Cfg} {X : Cx} {cl : Nat → Addr} {a b : Expr} {ca cb : CE} {qa qb : Bool} {pos : Pos}
end
end Mi
namespace Mi
open PySem PySem.Spec PyProof.Rows L2
def ins (x : Int) : List Int → List Int
  | [] => [x]
  | y :: ys => if x ≤ y then x :: y :: ys else y :: ins x ys
section
variable {P : Program} {w : World} {A : Around} {E : Value → Shared → Prop} {s : Shared}
end
section
variable {X : Cx} {cl : Nat → Addr} {e : Expr} {ca : CE} {qa : Bool} {p p2 pos pos2 : Pos} {es : List Expr} {cbs : CBs} {qb : Bool}
end
end Mi
namespace Mi
open PySem PySem.Spec PyProof.Rows L2
section
variable {C : Cfg} {g1 : CG} {ct1 : CT} {ce : CE} {qt qe : Bool}
end
section
variable {X : Cx} {cl : Nat → Addr} {elt tg iter tg1 iter1 : Expr} {ifs ifs1 : List Expr} {scope : Scope} {own : List (Str × Nat)} {vs1 : List Nat} {pos : Pos} {ci ci1 : CI} {g g1 : CG} {ct ct1 : CT} {ce : CE} {qt qt1 qe : Bool}
end
end Mi
namespace Mi
open PySem PySem.Spec PyProof.Rows L2
section
variable {X : Cx} {cl : Nat → Addr} {b : Expr} {pos px : Pos} {i : Nat} {x : Str} {j : Int}
end
end Mi
namespace Mi
open PySem PySem.Spec PyProof.Rows L2
structure Qt (X : Cx) : Prop where
  xe : X.xe = fun _ _ => False
  pn : X.pn = []
section
variable {X : Cx} {pn : List (Addr × Obj)} {xe : Value → Shared → Prop} {pins : List (Addr × Obj)} {σ : L2.St} {H : Hp} {s : Shared}
theorem Qt.dn (q : Qt X) (I : Inv (X.tr pn xe) pins σ H s) : Inv X (pn ++ pins) σ H s :=
  ⟨I.ok.ofTry, I.os, I.bare, I.base, I.loc, I.cell, I.free, I.freeC, fun p hp => I.pin p (by rw [q.pn] at hp; exact hp), I.hok, I.len⟩
theorem Qt.bk (q : Qt X) (I : Inv X (pn ++ pins) σ H s) : Inv (X.tr pn xe) pins σ H s :=
  ⟨I.ok.toTry _ _, I.os, I.bare, I.base, I.loc, I.cell, I.free, I.freeC, fun p hp => I.pin p (by rw [q.pn]; exact hp), I.hok, I.len⟩
theorem PE.up {e : Expr} {t : TE} (q : Qt X) (h : PE X e t) : PE (X.tr pn xe) e t := ⟨fun pins s σ H Q I w =>
  wpAny_mono (h.run (pn ++ pins) s σ H Q (q.dn I) w) (fun _ _ ⟨v, H', I', r, z⟩ => ⟨v, H', q.bk I', r, z⟩) fun u s' z => by rw [q.xe] at z; exact False.elim z⟩
theorem PT.up {e : Expr} {t : TT} (q : Qt X) (h : PT X e t) : PT (X.tr pn xe) e t := ⟨fun pins s σ H Q I w =>
  wpAny_mono (h.run (pn ++ pins) s σ H Q (q.dn I) w) (fun _ _ ⟨H', I', z⟩ => ⟨H', q.bk I', z⟩) fun u s' z => by rw [q.xe] at z; exact False.elim z⟩
theorem PA.up {e : List Expr} {t : TA} (q : Qt X) (h : PA X e t) : PA (X.tr pn xe) e t := ⟨fun pos pins s σ H Q I w =>
  wpAny_mono (h.run pos (pn ++ pins) s σ H Q (q.dn I) w) (fun _ _ ⟨vs, H', I', r, z⟩ => ⟨vs, H', q.bk I', r, z⟩) fun u s' z => by rw [q.xe] at z; exact False.elim z⟩
theorem SP.up {D : Ends} {f : Flow} (q : Qt X) (h : SP X (pn ++ pins) D f s) : SP (X.tr pn xe) pins D f s := by
  cases f with
  | next => obtain ⟨σ', H', I, z⟩ := h; exact ⟨σ', H', q.bk I, z⟩
  | brk => obtain ⟨σ', H', I, z⟩ := h; exact ⟨σ', H', q.bk I, z⟩
  | cont => obtain ⟨σ', H', I, z⟩ := h; exact ⟨σ', H', q.bk I, z⟩
  | ret u => obtain ⟨v, σ', H', I, r, z⟩ := h; exact ⟨v, σ', H', q.bk I, r, z⟩
theorem PS.up {st : Stmt} {t : TS} (q : Qt X) (h : PS X st t) : PS (X.tr pn xe) st t := ⟨fun pins s σ H D I w =>
  wpAny_mono (h.run (pn ++ pins) s σ H D (q.dn I) w) (fun _ _ z => SP.up q z) fun u s' z => by rw [q.xe] at z; exact False.elim z⟩
theorem PSs.up {st : List Stmt} {t : TS} (q : Qt X) (h : PSs X st t) : PSs (X.tr pn xe) st t := ⟨fun pins s σ H D I w =>
  wpAny_mono (h.run (pn ++ pins) s σ H D (q.dn I) w) (fun _ _ z => SP.up q z) fun u s' z => by rw [q.xe] at z; exact False.elim z⟩
end
abbrev Xr := Nat × List (Str × Int)
abbrev CR := En → Res (Xr × En)
structure PostX (C : Cfg) (kp : KP) (σ : Sg) (H : Hp) (O : AP) (L : List Addr) (ρ' : En) (x : Xr) (σ' : Sg) (H' : Hp) (O' : AP) (L' : List Addr) (dd : Addr) (gs : List (Str × V)) : Prop where
  env : EnvR C H' O' ρ' σ' L'
  nd : L'.Nodup
  st : Stp H O L H' O' L'
  kp : ∀ i, kp i = true → σ'[i]? = σ[i]?
  ln : σ'.length = σ.length
  hd : H' dd = some (.xd gs)
  no : ¬ O' dd
  fs : ∀ p ∈ x.2, gs.lookup p.1 = some (V.int p.2)
def kAll : KP := fun _ => true
section
variable {C : Cfg} {kp : KP} {σ σ1 σ2 : Sg} {H H1 H2 : Hp} {O O1 O2 : AP} {L L1 L2 Lw : List Addr} {ρ ρ1 ρ2 : En} {x : Xr} {dd : Addr} {gs : List (Str × V)} {W : WX}
theorem PostX.all (b : PostX C kAll σ H O L ρ2 x σ H2 O2 L2 dd gs) : PostX C kp σ H O L ρ2 x σ H2 O2 L2 dd gs := ⟨b.env, b.nd, b.st, fun _ _ => rfl, rfl, b.hd, b.no, b.fs⟩
end
section
variable {X : Cx} {cl : Nat → Addr} {kp : KP} {e a b : Expr} {es : List Expr} {c c1 c2 : CR} {cb : CBs} {ca : CE} {ct : CT} {qa qb qc : Bool} {pos p p2 apos cpos : Pos} {st : Stmt} {rest : List Stmt} {x : Str}
abbrev Fx := List W → Res Xr
def spX (C : Cfg) (F : Fx) : Sp := fun vs H _ E => ∃ O L ws x, RepWs C H O ws vs L ∧ L.Nodup ∧ F ws = .ok x ∧
  ∀ H' O' L' dd gs, Stp H O L H' O' L' → H' dd = some (.xd gs) → ¬ O' dd → (∀ p ∈ x.2, gs.lookup p.1 = some (V.int p.2)) → E (.ref (C.cl x.1)) (some dd) H'
structure FnX (X : Cx) (cl : Nat → Addr) (x : Str) (F : Fx) : Prop where
  ex : ∃ (k : Nat) (f : Addr) (fd : FuncData) (ps : List Str), FnOk X.prog X.w X.K X.mg X.base (L2.CX X.prog X.w) k f fd ps (spX ⟨X.K, cl⟩ F) ∧ Room k X.A ∧ X.mg x = some (.ref f) ∧ PySem.W.keepIn X.K (.ref f) = true ∧ Binds X.K fd ps []
end
end Mi
namespace Mi
open PySem PySem.Spec PyProof.Rows L2
structure XcF (K : PySem.W.Frag) (C : Addr) (fs : List Str) : Prop where
  ox : OexC K C
  ini : PySem.W.findIn K (.ref C) "__init__" = some (some (.ref (He.ma K C "__init__")))
  tI : PySem.W.typeIn K (.ref (He.ma K C "__init__")) = some (.type "function")
  no : ∀ f ∈ fs, PySem.W.findIn K (.ref C) f = some none
  te : PySem.W.exmOne K (.ref C) (.ref C) = some true
  xf : XfC K C
  ic : (PySem.W.clsIn K C).isSome = true
  ca : PySem.W.findIn K (.ref C) "__class__" = some (some (.builtin "object.__class__"))
  cn : PySem.W.specialIn K (.builtin "object.__class__") "__get__" = some (some (.builtin "getset_descriptor.__get__"))
  ct : PySem.W.takesIn K (.builtin "object.__class__") = some true
  cm : PySem.W.mroIn K C (.type "object") = some true
def spOx (C : Addr) (fs : List Str) : Sp := fun vs H Q _ => ∃ (a : Addr) (xs : List V), vs = .ref a :: xs ∧ xs.length = fs.length ∧ H a = some (exo a C none) ∧
  ∀ (d : Addr) (H2 : Hp) (gs : List (Str × V)), H d = none → d ≠ a → H2 a = some (exo a C (some d)) → H2 d = some (exd d gs) → (∀ (i : Nat) (n : Str) (x : V), fs[i]? = some n → xs[i]? = some x → gs.lookup n = some x) → (∀ b, b ≠ a → b ≠ d → H2 b = H b) → Q .non H2
structure RaM (X : Cx) (cl : Nat → Addr) (c : Nat) (x : Str) (fs : List Str) : Prop where
  ex : ∃ (fd : FuncData) (ps : List Str), FnOk X.prog X.w X.K X.mg X.base CX0 1 (He.ma X.K (cl c) "__init__") fd ps (spOx (cl c) fs) ∧ Binds X.K fd ps []
  mg : X.mg x = some (.ref (cl c))
  xc : XcF X.K (cl c) fs
  rm : Room 2 X.A
section
variable {X : Cx} {cl : Nat → Addr} {kp : KP} {e : Expr} {es : List Expr} {cb : CBs} {qb : Bool} {p pos pos2 : Pos} {x : Str} {c : Nat} {fs : List Str}
end
section
variable {X : Cx} {pins : List (Addr × Obj)} {σ : L2.St} {H : Hp} {s : Shared} {a C dd : Addr} {oe : Obj} {vs : Array Value}
end
section
variable {X : Cx} {x n : Str} {c : Value} {i : Nat} {body suite : List Stmt} {b₀ : Stmt} {np pos pos' : Pos} {tb : WX → TS} {ts : Addr → Value → Option Addr → TS} {Wout : WX}
end
end Mi
namespace Mi
open PySem PySem.Spec PyProof.Rows L2
theorem PSs.or {X : Cx} {st : List Stmt} {t t' : TS} (h : PSs X st t) (h' : PSs X st t') : PSs X st (fun D σ H => t D σ H ∨ t' D σ H) := ⟨fun pins s σ H D I q => q.elim (h.run pins s σ H D I) (h'.run pins s σ H D I)⟩
section
variable {X : Cx} {cl : Nat → Addr} {kp : KP} {x n m : Str} {c i j : Nat} {body : List Stmt} {np p1 p2 p3 pos pos' : Pos} {cN : CS} {cX : CR} {fs : List Str}
end
section
variable {X : Cx} {cl : Nat → Addr} {e : Expr} {ca : CE} {qa : Bool} {pos p p2 : Pos} {n x : Str} {c : Nat} {fs : List Str}
end
structure Dx (P : Program) (w : World) (K : PySem.W.Frag) (mg : Str → Option Value) (base : Heap) (cl : Nat → Addr) (x : Str) (k : Nat) (F : Fx) : Prop where
  ex : ∃ (f : Addr) (fd : FuncData) (ps : List Str), FnOk P w K mg base (L2.CX P w) k f fd ps (spX ⟨K, cl⟩ F) ∧ mg x = some (.ref f) ∧ PySem.W.keepIn K (.ref f) = true ∧ Binds K fd ps []
structure Dr (P : Program) (w : World) (K : PySem.W.Frag) (mg : Str → Option Value) (base : Heap) (cl : Nat → Addr) (c : Nat) (x : Str) (fs : List Str) : Prop where
  ex : ∃ (fd : FuncData) (ps : List Str), FnOk P w K mg base CX0 1 (He.ma K (cl c) "__init__") fd ps (spOx (cl c) fs) ∧ Binds K fd ps []
  mg : mg x = some (.ref (cl c))
  xc : XcF K (cl c) fs
section
variable {P : Program} {w : World} {K : PySem.W.Frag} {mg : Str → Option Value} {base : Heap} {cl : Nat → Addr} {x : Str} {c k j : Nat} {F : Fx} {N : List Str} {q : Str} {sc : Scope} {f : Addr} {cdv : Value} {A : Around} {outer : List Env} {s : Shared} {H : Hp} {E : XK} {fs : List Str}
theorem Dx.fx (d : Dx P w K mg base cl x k F) (hr : Room j (A.deeper (envOfC q sc s.heap.objs.size f cdv))) (h : k ≤ j) : FnX (BX P w K mg base N q sc f cdv A outer s H E) cl x F := by
  obtain ⟨f, fd, ps, G, m, kp, b⟩ := d.ex
  exact ⟨k, f, fd, ps, G, hr.mono h, m, kp, b⟩
theorem Dr.ra (d : Dr P w K mg base cl c x fs) (hr : Room j (A.deeper (envOfC q sc s.heap.objs.size f cdv))) (h : 2 ≤ j) : RaM (BX P w K mg base N q sc f cdv A outer s H E) cl c x fs := ⟨d.ex, d.mg, d.xc, hr.mono h⟩
end
end Mi
namespace Mi
open PySem PySem.Spec PyProof.Rows L2
end Mi
namespace Mi
open PySem PySem.Spec PyProof.Rows L2
section
variable {X : Cx} {cl : Nat → Addr} {b : Expr} {cb cc ca : CE} {qa qb qc : Bool} {pos px p : Pos} {x : Str} {a : Addr} {kvs : List (Str × Str)} {e e2 e3 tg : Expr}
end
abbrev AlY : Type := AlX × List (Option (List (Option (Str × Int))))
def obsY (fa : List He.Fa) (fx : List DefX) (xb : PySem.W.Frag → Bool) (ts : List He.Tab) (K : PySem.W.Frag) : AlY := (obsX fa fx xb K, ts.map fun t => He.dicW K (t.1 K))
def valY (fx : List DefX) (ts : List He.Tab) (w : World) : AlY := (valX fx, ts.map fun t => some (He.keysIn w.params t.2))
def SaysY (fa : List He.Fa) (fx : List DefX) (xb : PySem.W.Frag → Bool) (ts : List He.Tab) (w : World) (K : PySem.W.Frag) : Prop := obsY fa fx xb ts K = valY fx ts w
section
variable {fa : List He.Fa} {fx : List DefX} {xb : PySem.W.Frag → Bool} {ts : List He.Tab} {w : World} {K : PySem.W.Frag}
theorem SaysY.x (c : SaysY fa fx xb ts w K) : SaysX fa fx xb K := congrArg (fun z : AlY => z.1) c
end
end Mi
namespace Mi
open PySem PySem.Spec PyProof.Rows L2
section
variable {C : Cfg} {H : Hp} {O : AP}
end
section
variable {X : Cx} {cl : Nat → Addr} {cbs : CBs} {qb : Bool} {e : Expr} {es : List Expr} {p pos : Pos}
end
theorem hu65 {k : Nat} {A : Around} (r : Room k A) : A.units + 65 < cLine := by have := r.un; omega
section
variable {X : Cx} {cl : Nat → Addr} {a b : Expr} {ca cb : CE} {qa qb : Bool} {pos : Pos}
end
end Mi
namespace Mi
open PySem PySem.Spec PyProof.Rows L2
def vOf : D → V
  | .bl b => .bl b
  | .int n => .int n
  | _ => .non
structure FnD (X : Cx) (cl : Nat → Addr) (x : Str) (dd : List D) (F : Fn) : Prop where
  ex : ∃ (k : Nat) (f : Addr) (fd : FuncData) (ps : List Str) (ds : List Value), FnOk X.prog X.w X.K X.mg X.base CX0 k f fd ps (spM ⟨X.K, cl⟩ F) ∧ Room k X.A ∧ X.mg x = some (.ref f) ∧ PySem.W.keepIn X.K (.ref f) = true ∧ Vals (dd.map vOf) ds ∧ Binds X.K fd ps ds
structure FnN (X : Cx) (cl : Nat → Addr) (x : Str) (n : Nat) (ks : List Str) (F : Fn) : Prop where
  ex : ∃ (k : Nat) (f : Addr) (fd : FuncData) (ps : List Str), FnOk X.prog X.w X.K X.mg X.base CX0 k f fd ps (spM ⟨X.K, cl⟩ F) ∧ Room k X.A ∧ X.mg x = some (.ref f) ∧ PySem.W.keepIn X.K (.ref f) = true ∧ KBn X.K fd ps n ks (fun us ws => us ++ ws) (fun vs zs => vs ++ zs)
theorem FnD.blk {X : Cx} {cl : Nat → Addr} {x : Str} {dd : List D} {F : Fn} (h : FnD X cl x dd F) {s : Shared} {H : Hp} {scope : Scope} {env : Env} {fp : List Addr} : FnD (X.blk s H scope env fp) cl x dd F := ⟨h.ex⟩
theorem FnN.blk {X : Cx} {cl : Nat → Addr} {x : Str} {n : Nat} {ks : List Str} {F : Fn} (h : FnN X cl x n ks F) {s : Shared} {H : Hp} {scope : Scope} {env : Env} {fp : List Addr} : FnN (X.blk s H scope env fp) cl x n ks F := ⟨h.ex⟩
structure Dd (P : Program) (w : World) (K : PySem.W.Frag) (mg : Str → Option Value) (base : Heap) (cl : Nat → Addr) (x : Str) (dd : List D) (k : Nat) (F : Fn) : Prop where
  ex : ∃ (f : Addr) (fd : FuncData) (ps : List Str) (ds : List Value), FnOk P w K mg base CX0 k f fd ps (spM ⟨K, cl⟩ F) ∧ mg x = some (.ref f) ∧ PySem.W.keepIn K (.ref f) = true ∧ Vals (dd.map vOf) ds ∧ Binds K fd ps ds
structure De (P : Program) (w : World) (K : PySem.W.Frag) (mg : Str → Option Value) (base : Heap) (cl : Nat → Addr) (x : Str) (n : Nat) (ks : List Str) (k : Nat) (F : Fn) : Prop where
  ex : ∃ (f : Addr) (fd : FuncData) (ps : List Str), FnOk P w K mg base CX0 k f fd ps (spM ⟨K, cl⟩ F) ∧ mg x = some (.ref f) ∧ PySem.W.keepIn K (.ref f) = true ∧ KBn K fd ps n ks (fun us ws => us ++ ws) (fun vs zs => vs ++ zs)
section
variable {P : Program} {w : World} {K : PySem.W.Frag} {mg : Str → Option Value} {base : Heap} {cl : Nat → Addr} {x : Str} {k j n : Nat} {dd : List D} {ks : List Str} {F : Fn} {N : List Str} {q : Str} {sc : Scope} {f : Addr} {cdv : Value} {A : Around} {outer : List Env} {s : Shared} {H : Hp} {E : XK}
theorem Dd.fm (d : Dd P w K mg base cl x dd k F) (hr : Room j (A.deeper (envOfC q sc s.heap.objs.size f cdv))) (h : k ≤ j) : FnD (BX P w K mg base N q sc f cdv A outer s H E) cl x dd F := by
  obtain ⟨f, fd, ps, ds, G, m, kp, v, b⟩ := d.ex
  exact ⟨k, f, fd, ps, ds, G, hr.mono h, m, kp, v, b⟩
theorem De.fm (d : De P w K mg base cl x n ks k F) (hr : Room j (A.deeper (envOfC q sc s.heap.objs.size f cdv))) (h : k ≤ j) : FnN (BX P w K mg base N q sc f cdv A outer s H E) cl x n ks F := by
  obtain ⟨f, fd, ps, G, m, kp, b⟩ := d.ex
  exact ⟨k, f, fd, ps, G, hr.mono h, m, kp, b⟩
end
section
variable {K : PySem.W.Frag} {x qual : Str} {params : Arguments} {body : List Stmt} {scope : Scope} {f : Addr} {fd : FuncData} {ps : List Str} {dvs : List V}
end
section
variable {X : Cx} {cl : Nat → Addr} {x : Str} {F : Fn} {p pos : Pos} {e : Expr} {es : List Expr} {kws : List Keyword} {cb ck : CBs} {qb qd qk : Bool} {dd : List D} {n : Nat} {ks : List Str}
end
theorem fn_defD {P : Program} {w : World} {K : PySem.W.Frag} {mg : Str → Option Value} {base : Heap} {cl : Nat → Addr} {x q : Str} {st : Stmt} {N ps : List Str} {dvs : List V} {k : Nat} {f : Addr} {fd : FuncData} {io : KP} {body : CS}
    (F : FunD K x q (defArgs st) (defBody st) (defScope st) dvs [] f fd) (S : FnScope N ps (defScope st)) (hio : ∀ i, ps.length ≤ i → io i = false)
    (hb : ∀ (cdv : Value) (A : Around) (outer : List Env) (s : Shared) (H : Hp) (E : XK), Room k (A.deeper (envOfC q (defScope st) s.heap.objs.size f cdv)) → SSs (BX P w K mg base N q (defScope st) f cdv A outer s H E) cl io (defBody st) body) :
    FnOk P w K mg base CX0 (k + 1) f fd ps (spM ⟨K, cl⟩ (runDef ps.length N.length io body)) := by
  refine F.ok S (fun vs H Q E h => ?_) (fun cdv A outer s H vs Q E hr h => ⟨tS ⟨K, cl⟩ io body, PSs.nox (hb cdv A outer s H E hr), def_core hio h⟩)
  obtain ⟨O, L, ws, r, back, rs, nd, c, _⟩ := h
  obtain ⟨_, c1, _⟩ := Res.of_bind c
  have hl : ws.length = ps.length := by simpa using chk_ok c1
  rw [rs.length, hl]
section
variable {X : Cx} {cl : Nat → Addr} {x : Str} {F : Fn} {p pos : Pos} {e a b : Expr} {es : List Expr} {ca : CE} {cb : CBs} {c : CR} {qa qb : Bool} {kp : KP}
end
end Mi
namespace Mi
open PySem PySem.Spec PyProof.Rows L2
def spOx0 (C : Addr) : Sp := fun vs H Q _ => ∃ a : Addr, vs = [.ref a] ∧ H a = some (exo a C none) ∧
  ∀ (d l : Addr) (H2 : Hp) (gs : List (Str × V)), H d = none → H l = none → d ≠ a → l ≠ a → l ≠ d → H2 a = some (exo a C (some d)) → H2 d = some (exd d gs) → H2 l = some (.tup []) → (∀ b, b ≠ a → b ≠ d → b ≠ l → H2 b = H b) → Q .non H2
structure RaM0 (X : Cx) (cl : Nat → Addr) (c : Nat) (x n : Str) : Prop where
  ex : ∃ (fd : FuncData) (ps : List Str), FnOk X.prog X.w X.K X.mg X.base CX0 1 (He.ma X.K (cl c) "__init__") fd ps (spOx0 (cl c)) ∧ Binds X.K fd ps []
  mg : X.mg x = some (.ref (cl c))
  xc : XcF X.K (cl c) [n]
  rm : Room 2 X.A
structure Dr0 (P : Program) (w : World) (K : PySem.W.Frag) (mg : Str → Option Value) (base : Heap) (cl : Nat → Addr) (c : Nat) (x n : Str) : Prop where
  ex : ∃ (fd : FuncData) (ps : List Str), FnOk P w K mg base CX0 1 (He.ma K (cl c) "__init__") fd ps (spOx0 (cl c)) ∧ Binds K fd ps []
  mg : mg x = some (.ref (cl c))
  xc : XcF K (cl c) [n]
theorem Dr0.ra {P : Program} {w : World} {K : PySem.W.Frag} {mg : Str → Option Value} {base : Heap} {cl : Nat → Addr} {x n : Str} {c j : Nat} {N : List Str} {q : Str} {sc : Scope} {f : Addr} {cdv : Value} {A : Around} {outer : List Env} {s : Shared} {H : Hp} {E : XK} (d : Dr0 P w K mg base cl c x n) (hr : Room j (A.deeper (envOfC q sc s.heap.objs.size f cdv))) (h : 2 ≤ j) : RaM0 (BX P w K mg base N q sc f cdv A outer s H E) cl c x n := ⟨d.ex, d.mg, d.xc, hr.mono h⟩
section
variable {X : Cx} {cv : V} {a C dd : Addr} {oe : Obj} {pn : List (Addr × Obj)} {fs : List Str}
end
section
variable {X : Cx} {cl : Nat → Addr} {kp : KP} {x n m y : Str} {c i j : Nat} {CL : Addr} {body : List Stmt} {np p1 p3 pos pos' q1 q2 q3 q4 q5 q6 q7 q8 q9 : Pos} {cN : CS} {cX : CR} {fs : List Str}
end
end Mi
namespace Mi
open PySem PySem.Spec PyProof.Rows L2 RZ
open PySem.Sem (wp)
def ItK : Bool → Heap → Addr → Addr → Nat → Prop
  | true, h, it, l, i => h.IsTupleIter it l i
  | false, h, it, l, i => h.IsListIter it l i
def SeqK : Bool → Heap → Addr → Array Value → Prop
  | true, h, l, xs => h.IsTuple l xs
  | false, h, l, xs => h.IsList l xs
theorem ItK.at {b : Bool} {h h' : Heap} {a l : Addr} {i : Nat} (x : ItK b h a l i) (e : ∀ o, h.get? a = some o → h'.get? a = some o) : ItK b h' a l i := by
  cases b with
  | true => exact Heap.IsTupleIter.at x e
  | false => exact Heap.IsListIter.at x e
theorem ItK.lt {b : Bool} {h : Heap} {a l : Addr} {i : Nat} (x : ItK b h a l i) : a < h.objs.size := by
  cases b with
  | true => obtain ⟨_, e, _⟩ := x; exact Heap.lt_size e
  | false => obtain ⟨_, e, _⟩ := x; exact Heap.lt_size e
theorem SeqK.at {b : Bool} {h h' : Heap} {a : Addr} {xs : Array Value} (x : SeqK b h a xs) (e : ∀ o, h.get? a = some o → h'.get? a = some o) : SeqK b h' a xs := by
  cases b with
  | true => exact let ⟨o, ho, r⟩ := x; ⟨o, e _ ho, r⟩
  | false => exact let ⟨o, ho, r⟩ := x; ⟨o, e _ ho, r⟩
theorem SeqK.lt {b : Bool} {h : Heap} {a : Addr} {xs : Array Value} (x : SeqK b h a xs) : a < h.objs.size := by
  cases b with
  | true => obtain ⟨_, e, _⟩ := x; exact Heap.lt_size e
  | false => obtain ⟨_, e, _⟩ := x; exact Heap.lt_size e
abbrev IsZipF (h : Heap) (z TI TO : Addr) (f0 : Value) (fl : Bool) : Prop :=
  h.get? z = some { cls := .type "zip", dict := none, data := .fields #[f0, .bool fl, .bool false, .ref TI, .ref TO], slots := #[] }
section
variable {prog : Program} {w : World} {A : Around} {E : Value → Shared → Prop} {s : Shared}
structure ZSt (b c : Bool) (h : Heap) (z TI TO i1 i2 l1 l2 S : Addr) (i : Nat) : Prop where
  ti : IsPair h TI (.ref i1) (.ref i2)
  h1 : ItK b h i1 l1 i
  h2 : ItK c h i2 l2 i
  own : (IsZip h z TI TO .none ∧ ∃ a a', IsPair h TO a a') ∨ ∃ (a : Addr) (fl : Bool) (oa : Obj), IsZipF h z TI TO (rawInt a) fl ∧ h.get? a = some oa ∧ S < a
structure ZLow (z TI TO i1 i2 l1 l2 S : Addr) : Prop where
  z : z < S
  TI : TI < S
  TO : TO < S
  i1 : i1 < S
  i2 : i2 < S
  l1 : l1 < S
  l2 : l2 < S
theorem ZSt.keep {b c : Bool} {h h' : Heap} {z TI TO i1 i2 l1 l2 S : Addr} {i : Nat} (L : ZLow z TI TO i1 i2 l1 l2 S) (x : ZSt b c h z TI TO i1 i2 l1 l2 S i) (hk : ∀ b o, b ≠ S → h.get? b = some o → h'.get? b = some o) : ZSt b c h' z TI TO i1 i2 l1 l2 S i where
  ti := hk _ _ (Nat.ne_of_lt L.TI) x.ti
  h1 := x.h1.at fun o e => hk _ o (Nat.ne_of_lt L.i1) e
  h2 := x.h2.at fun o e => hk _ o (Nat.ne_of_lt L.i2) e
  own := by
    rcases x.own with ⟨q, a, a', r⟩ | ⟨a, fl, oa, q, r, n⟩
    · exact .inl ⟨hk _ _ (Nat.ne_of_lt L.z) q, a, a', hk _ _ (Nat.ne_of_lt L.TO) r⟩
    · exact .inr ⟨a, fl, oa, hk _ _ (Nat.ne_of_lt L.z) q, hk _ _ (Nat.ne_of_gt n) r, n⟩
end
structure ZG (xs ys : Array Value) (lo : Addr) (h : Heap) (as : List Addr) : Prop where
  rise : as.Pairwise (· < ·)
  above : ∀ a ∈ as, lo < a
  pairs : ∀ (j : Nat) (a : Addr), as[j]? = some a → ∃ x y, xs[j]? = some x ∧ ys[j]? = some y ∧ IsPair h a x y
theorem ZG.there {xs ys : Array Value} {lo : Addr} {h : Heap} {as : List Addr} (g : ZG xs ys lo h as) {a : Addr} (ha : a ∈ as) : a < h.objs.size := by
  obtain ⟨j, hj⟩ := List.mem_iff_getElem?.mp ha
  obtain ⟨_, _, _, _, e⟩ := g.pairs j a hj
  exact Heap.lt_size e
section
variable {prog : Program} {w : World} {A : Around} {E : Value → Shared → Prop} {s : Shared} {R : Result → Shared → Prop} {b c : Bool} {z TI TO i1 i2 l1 l2 S : Addr} {xs ys : Array Value}
end
section
variable {prog : Program} {w : World} {A : Around} {E : Value → Shared → Prop} {s : Shared} {b c : Bool} {z TI TO i1 i2 l1 l2 S : Addr} {xs ys : Array Value}
end
end Mi
namespace Mi
open PySem PySem.Spec PyProof.Rows L2
end Mi
namespace Mi
open PySem PySem.Spec PyProof.Rows L2
section
variable {prog : Program} {w : World} {A : Around} {E : Value → Shared → Prop} {s : Shared} {l : Addr} {xs : Array (Int × Tok)}
end
section
variable {X : Cx} {cl : Nat → Addr} {e : Expr} {es : List Expr} {cbs : CBs} {qb : Bool} {p pos : Pos}
end
end Mi
namespace Mi
open PySem PySem.Spec PyProof.Rows L2
section
variable {X : Cx} {cl : Nat → Addr} {b : Expr} {pos px : Pos} {i k0 : Nat} {x : Str} {j : Int}
end
end Mi
namespace Mi
open PySem PySem.Spec PyProof.Rows L2 RZ
open PySem.Sem (wp)
section
variable {prog : Program} {w : World} {A : Around} {E : Value → Shared → Prop} {s : Shared}
end
end Mi
namespace Mi
open PySem PySem.Spec PyProof.Rows L2
end Mi
namespace Mi
open PySem PySem.Spec PyProof.Rows L2
section
variable {X : Cx} {cl : Nat → Addr} {ix e : Expr} {ci ce : CE} {qi qe : Bool} {pos tpos px : Pos} {kp : KP}
end
end Mi
namespace Mi
open PySem PySem.Spec PyProof.Rows L2
section
variable {C : Cfg} {X : Cx}
end
section
variable {X : Cx} {cl : Nat → Addr} {a b : Expr} {ca cb : CE} {qa qb : Bool} {pos : Pos}
end
end Mi
namespace Mi
open PySem PySem.Spec PyProof.Rows L2
def fzB : B → En → Res (B × En)
  | .tmp w, ρ => .ok (.tmp (.fz (frz w)), ρ)
  | .bor _ _, _ => .err
def cFz (c : CE) : CE := fun ρ => (c ρ).bind fun (b, ρ1) => fzB b ρ1
theorem se_fz {X : Cx} {cl : Nat → Addr} {q : Bool} {e : Expr} {c : CE} (h : SE X cl q e c) : SE X cl q e (cFz c) := by
  refine PE.imp h fun σ H Q t => ?_
  obtain ⟨O, L, ρ, b0, ρ', env, nd, c0, qq⟩ := t
  obtain ⟨⟨b, ρ1⟩, c1, c2⟩ := Res.of_bind c0
  cases b with
  | bor i p => cases c2
  | tmp w =>
    cases c2
    refine ⟨O, L, ρ, .tmp w, ρ', env, nd, c1, fun v H1 O1 L1 Lb P => ?_⟩
    have ndp := List.nodup_append.mp P.nd
    have rd : RepD ⟨X.K, cl⟩ H1 (Less O1 Lb) (frz w) v := RepW.frz w v Lb (fun a z => z) P.br
    refine qq v H1 (Less O1 Lb) L1 [] ⟨P.env.less fun a ha z => ndp.2.2 a ha a z rfl, ⟨rfl, rd⟩, by rw [List.append_nil]; exact ndp.1, ?_, P.qu⟩
    rw [List.append_nil]
    exact P.st.trans (Stp.ofO (fun a z => z.1) (fun a z => by simp [z]) fun a z n => ⟨z, fun k => n (by simp [k])⟩)
end Mi
namespace Mi
open PySem PySem.Spec PyProof.Rows L2
inductive RJ (C : Cfg) : List CE → List TE → Prop where
  | nil : RJ C [] []
  | cons {q : Bool} {c : CE} {cs : List CE} {ts : List TE} (r : RJ C cs ts) : RJ C (c :: cs) (tE C q c :: ts)
inductive SJ (X : Cx) (cl : Nat → Addr) : List Expr → List CE → Prop where
  | nil : SJ X cl [] []
  | cons {q : Bool} {e : Expr} {c : CE} {es : List Expr} {cs : List CE} (h : SE X cl q e c) (r : SJ X cl es cs) : SJ X cl (e :: es) (c :: cs)
theorem SJ.both {X : Cx} {cl : Nat → Addr} {es : List Expr} {cs : List CE} (h : SJ X cl es cs) : ∃ ts, PJ X es ts ∧ RJ ⟨X.K, cl⟩ cs ts := by
  induction h with
  | nil => exact ⟨[], .nil, .nil⟩
  | @cons q e c es cs h r ih =>
    obtain ⟨ts, p, j⟩ := ih
    exact ⟨tE ⟨X.K, cl⟩ q c :: ts, .cons h p, .cons j⟩
end Mi
namespace Mi
open PySem PySem.Spec PyProof.Rows L2
end Mi
namespace Mi
open PySem PySem.Spec PyProof.Rows L2
section
variable {X : Cx} {cl : Nat → Addr} {e : Expr} {ce : CE} {q : Bool} {apos cpos px : Pos}
end
end Mi
namespace Mi
open PySem PySem.Spec PyProof.Rows L2 SrtO
section
variable {prog : Program} {w : World} {A : Around} {E : Value → Shared → Prop} {s : Shared}
end
section
variable {X : Cx} {cl : Nat → Addr} {e : Expr} {es : List Expr} {cbs : CBs} {qb : Bool} {p pos : Pos}
end
end Mi
namespace Mi
open PySem PySem.Spec PyProof.Rows L2
def leP (p q : Int × Int) : Prop := p.1 < q.1 ∨ (p.1 = q.1 ∧ p.2 ≤ q.2)
instance (p q : Int × Int) : Decidable (leP p q) := by unfold leP; infer_instance
section
variable {X : Cx} {cl : Nat → Addr} {cbs : CBs} {qb : Bool} {e : Expr} {es : List Expr} {p pos : Pos}
end
end Mi
namespace Mi
open PySem PySem.Spec PyProof.Rows L2
section
variable {X : Cx} {cl : Nat → Addr} {cb cc ca : CE} {qa qb qc : Bool} {p pos : Pos} {e e2 e3 tg : Expr}
end
end Mi
namespace Mi
open PySem PySem.Spec PyProof.Rows L2
section
variable {X : Cx} {cl : Nat → Addr} {o e a b : Expr} {es : List Expr} {cbs : CBs} {ca cb : CE} {qa qb : Bool} {p pos apos : Pos} {tg : Expr}
end
end Mi
namespace Mi
open PySem PySem.Spec PyProof.Rows L2
def TbK (K : PySem.W.Frag) (w : World) (a : Addr) (ks : List Str) : Prop := He.dicW K a = some (He.keysIn w.params ks)
theorem TbK.at {K : PySem.W.Frag} {w : World} {a : Addr} {ks : List Str} (h : TbK K w a ks) : ∃ es ep, K.lookup a = some ⟨.type "dict", none, .dict es ep, #[]⟩ ∧ (a == sysModules) = false ∧ es.toList.map He.keyOf = He.keysIn w.params ks := by
  unfold TbK He.dicW at h
  split at h
  · rename_i c es ep sl hl
    split at h
    · rename_i hb
      simp only [Bool.and_eq_true, decide_eq_true_eq, Bool.not_eq_true'] at hb
      obtain ⟨h1, h2, h3⟩ := hb
      subst h1
      have h4 : sl = #[] := by simpa using h2
      subst h4
      exact ⟨es, ep, hl, h3, Option.some.inj h⟩
    · cases h
  · cases h
end Mi
namespace Mi
open PySem PySem.Spec PyProof.Rows L2
section
variable {X : Cx} {cl : Nat → Addr} {pos : Pos}
end
section
variable {X : Cx} {pn : List (Addr × Obj)} {xe xe' : Value → Shared → Prop} {pins : List (Addr × Obj)} {σ : L2.St} {H : Hp} {s : Shared} {W : WX}
theorem Qt.cv (q : Qt X) (I : Inv (X.tr pn xe) pins σ H s) : Inv (X.tr pn xe') pins σ H s :=
  ⟨I.ok.ofTry.toTry _ _, I.os, I.bare, I.base, I.loc, I.cell, I.free, I.freeC, fun p hp => I.pin p hp, I.hok, I.len⟩
theorem XE.cv (q : Qt X) {u : Value} {s' : Shared} (x : XE (X.tr pn xe) W u s') : XE (X.tr pn xe') W u s' := by
  obtain ⟨a, B, sI, pins, σ, H, cls, d, e, I, nb, up, sky, na, os, ag, w⟩ := x
  exact ⟨a, B, sI, pins, σ, H, cls, d, e, q.cv I, nb, up, sky, na, os, ag, w⟩
theorem SP.cv {D : Ends} {f : Flow} (q : Qt X) (h : SP (X.tr pn xe) pins D f s) : SP (X.tr pn xe') pins D f s := by
  cases f with
  | next => obtain ⟨σ', H', I, z⟩ := h; exact ⟨σ', H', q.cv I, z⟩
  | brk => obtain ⟨σ', H', I, z⟩ := h; exact ⟨σ', H', q.cv I, z⟩
  | cont => obtain ⟨σ', H', I, z⟩ := h; exact ⟨σ', H', q.cv I, z⟩
  | ret u => obtain ⟨v, σ', H', I, r, z⟩ := h; exact ⟨v, σ', H', q.cv I, r, z⟩
theorem PS.cv {st : Stmt} {t : TS} (q : Qt X) (h : PS (X.tr pn xe') st t) (hx : ∀ u s', xe' u s' → xe u s') : PS (X.tr pn xe) st t := ⟨fun pins s σ H D I w =>
  wpAny_mono (h.run pins s σ H D (q.cv I) w) (fun _ _ z => SP.cv q z) hx⟩
theorem PG.up {e : Expr} {t : TG} (q : Qt X) (h : PG X e t) : PG (X.tr pn xe) e t := ⟨fun pins s σ H v u Q I r w =>
  wpAny_mono (h.run (pn ++ pins) s σ H v u Q (q.dn I) r w) (fun _ _ ⟨σ', H', I', z⟩ => ⟨σ', H', q.bk I', z⟩) fun u s' z => by rw [q.xe] at z; exact False.elim z⟩
theorem PI.up {tg e : Expr} {t : TI} (q : Qt X) (h : PI X tg e t) : PI (X.tr pn xe) tg e t := ⟨fun pins s σ H R I w =>
  wpAny_mono (h.run (pn ++ pins) s σ H R (q.dn I) w) (fun v s1 h1 => wpAny_mono h1 (fun itv s2 h2 => by
    obtain ⟨it, fp, tn, J, H', e, I', T, st, fo, r⟩ := h2
    refine ⟨it, fp, tn, J, H', e, q.bk I', T, st, fun b hb => ?_, r⟩
    obtain ⟨f0, f1, f2, f3, f4, f5⟩ := fo b hb
    exact ⟨f0, f1, f2, f3, f4, fun p hp => f5 p (by rw [q.pn]; exact hp)⟩) fun u s' z => by rw [q.xe] at z; exact False.elim z) fun u s' z => by rw [q.xe] at z; exact False.elim z⟩
end
section
variable {X : Cx} {cl : Nat → Addr} {kp : KP} {tg iter : Expr} {body : List Stmt} {ci : CI} {g : CG} {cb : CS} {xb : CR} {pos : Pos}
end
end Mi
namespace Mi
open PySem PySem.Spec PyProof.Rows L2
def PTK (X : Cx) (e : Expr) (t : TT) : Prop := ∀ (pins : List (Addr × Obj)) (s : Shared) (σ : L2.St) (H : Hp) (Q : Bool → Hp → Prop), Inv X pins σ H s → t σ H Q →
  wpAny (model X.prog X.w) X.A (isTrue e X.env (eval e X.env)) (fun d s1 => 1 ≤ s1.toks ∧ TP X pins σ Q d s1) X.xe s
section
variable {X : Cx} {cl : Nat → Addr} {a b c o e : Expr} {ca cb co : CE} {ct : CT} {qa qb qc qo : Bool} {p pos apos c0 c1 : Pos} {i y z : Str} {j k : Nat} {r : R2} {tb : TE}
theorem PTK.imp {e : Expr} {t u : TT} (h : PTK X e t) (g : ∀ σ H Q, u σ H Q → t σ H Q) : PTK X e u := fun pins s σ H Q I w => h pins s σ H Q I (g σ H Q w)
end
end Mi
namespace Mi
open PySem PySem.Spec PyProof.Rows L2
def flV : D → Value → Bool
  | .non, .none => true
  | .bl b, .bool c => b == c
  | .int i, .int j _ => decide (i = j)
  | .str s, .str t _ => decide (s = t)
  | _, _ => false
def flVs : List D → List Value → Bool
  | [], [] => true
  | d :: ds, u :: us => flV d u && flVs ds us
  | _, _ => false
theorem flV_ok {d : D} {u : Value} (h : flV d u = true) : ∃ v, RelV v u ∧ ∀ C H O, RepD C H O d v := by
  unfold flV at h
  split at h
  · exact ⟨.non, rfl, fun _ _ _ => rfl⟩
  · rename_i b c
    have : b = c := by simpa using h
    subst this
    exact ⟨.bl b, rfl, fun _ _ _ => rfl⟩
  · have := of_decide_eq_true h
    subst this
    exact ⟨.int _, ⟨_, rfl⟩, fun _ _ _ => rfl⟩
  · have := of_decide_eq_true h
    subst this
    exact ⟨.str _, ⟨_, rfl⟩, fun _ _ _ => rfl⟩
  · cases h
theorem flVs_ok : ∀ {ds : List D} {us : List Value}, flVs ds us = true → ∃ vs, Vals vs us ∧ ∀ C H O, RepDs C H O ds vs
  | [], [], _ => ⟨[], .nil, fun _ _ _ => rfl⟩
  | [], _ :: _, h => by cases h
  | _ :: _, [], h => by cases h
  | d :: ds, u :: us, h => by
    have h : (flV d u && flVs ds us) = true := h
    rw [Bool.and_eq_true] at h
    obtain ⟨v, r, q⟩ := flV_ok h.1
    obtain ⟨vs, rs, qs⟩ := flVs_ok h.2
    exact ⟨v :: vs, .cons r rs, fun C H O => .cons (q C H O) (qs C H O)⟩
def TuK (K : PySem.W.Frag) (a : Addr) (ds : List D) : Prop := ∃ (o : Obj) (its : Array Value) (n : Nat), K.lookup a = some o ∧ o.cls = .type "tuple" ∧ o.data = .seq its n ∧ its.size ≤ sizeLine ∧ flVs ds its.toList = true
def tuB (K : PySem.W.Frag) (a : Addr) (ds : List D) : Bool := match K.lookup a with
  | some ⟨.type n, _, .seq its _, _⟩ => n == "tuple" && (decide (its.size ≤ 1000) && flVs ds its.toList)
  | _ => false
theorem tuB_ok {K : PySem.W.Frag} {a : Addr} {ds : List D} (h : tuB K a ds = true) : TuK K a ds := by
  unfold tuB at h
  split at h
  · rename_i n dc its m sl ho
    simp only [Bool.and_eq_true, beq_iff_eq, decide_eq_true_eq] at h
    obtain ⟨h1, h2, h3⟩ := h
    subst h1
    exact ⟨_, its, m, ho, rfl, rfl, by rw [sizeLine_eq]; omega, h3⟩
  · cases h
section
variable {X : Cx} {cl : Nat → Addr} {pos : Pos}
theorem dgT {x : Str} {ds : List D} {a : Addr} (hg : Gl X x) (hm : X.mg x = some (.ref a)) (T : TuK X.K a ds) (hd : (x == ("__debug__" : Str)) = false := by decide) : SE X cl true (.Name x pos) (cC (.tup ds)) := by
  obtain ⟨o, its, n, h1, h2, h3, h4, h5⟩ := T
  obtain ⟨vs, r, q⟩ := flVs_ok h5
  exact se_c (v := .ref a) (d := .tup ds) (pe_glob hg hm (show RelV (.ref a) (.ref a) from rfl) hd) fun H O => ⟨a, vs, rfl, .inr ⟨o, its, n, h1, h2, h3, h4, r⟩, q _ _ _⟩
end
section
variable {X : Cx} {cl : Nat → Addr} {e : Expr} {ce : CE} {q : Bool} {apos cpos px p0 : Pos} {j0 : Nat}
end
end Mi
namespace Mi
open PySem PySem.Spec PyProof.Rows L2
section
variable {P : Program} {w : World} {A : Around} {E : Value → Shared → Prop} {s : Shared} {a : Addr} {S : Int → Bool} {n : Nat}
end
section
variable {X : Cx} {cl : Nat → Addr} {e : Expr} {ca : CE} {qa : Bool} {p p2 pos pos2 : Pos} {es : List Expr} {cbs : CBs} {qb : Bool}
end
end Mi
namespace Mi
open PySem PySem.Spec PyProof.Rows L2
section
variable {X : Cx} {cl : Nat → Addr} {e : Expr} {ca : CE} {qa : Bool} {p p2 pos pos2 : Pos} {es : List Expr} {cbs : CBs} {qb : Bool}
end
end Mi
namespace Mi
open PySem PySem.Spec PyProof.Rows L2
def rInT (neg : Bool) (K : PySem.W.Frag) : R2 := fun x y H Q => ∃ d ds, Dp K H x d ∧ Dp K H y (.tuple ds) ∧ SeqAt.shaped d = true ∧ SeqAt.shaped (.tuple ds) = true ∧ Q (.bl (if neg = true then !(ds.any fun z => PyData.eqv z d) else ds.any fun z => PyData.eqv z d)) H
section
variable {X : Cx}
theorem room_in {A : Around} {d : PyData} {ds : List PyData} (h : SeqAt.shaped d = true) (hu : A.units + 65 < cLine) : A.units + 1 + min (PyData.depthAll ds) d.depth < cLine := by
  have h1 := SeqAt.depth_of_shaped h
  have h2 : min (PyData.depthAll ds) d.depth ≤ d.depth := Nat.min_le_right _ _
  omega
theorem op_inT (hu : X.A.units + 65 < cLine) : OpR X (compareOp .In) (rInT false X.K) := by
  intro pins s σ H x y v u Q I rx ry h
  obtain ⟨d, ds, hd, he, sd, se, q⟩ := h
  obtain ⟨as, r1⟩ := Dp.reads I d x v hd rx
  obtain ⟨bs, r2⟩ := Dp.reads I (.tuple ds) y u he ry
  exact SeqAt.in_tuple_reads r2 r1 (SeqAt.canLay_of_shaped se) (SeqAt.canLay_of_shaped sd) (room_in sd hu) ⟨.bl _, H, I, rfl, q⟩
end
def fInT (neg : Bool) (x y : W) : Res W := match py (frz x), py (frz y) with
  | some d, some (.tuple ds) => if (SeqAt.shaped d && SeqAt.shaped (.tuple ds)) = true then .ok (.fz (.bl (if neg = true then !(ds.any fun z => PyData.eqv z d) else ds.any fun z => PyData.eqv z d))) else .err
  | _, _ => .err
theorem ops_inT {C : Cfg} (neg : Bool) : OpS C (rInT neg C.K) (fInT neg) := by
  intro H O x y wx wy w Lx Ly Q rx ry e q
  unfold fInT at e
  split at e
  · rename_i d ds hp hq
    split at e
    · rename_i hs
      cases e
      obtain ⟨s1, s2⟩ := Bool.and_eq_true_iff.mp hs
      have rx' : RepD C H (Less O Lx) (frz wx) x := RepW.frz wx x Lx (fun a z => z) rx
      have ry' : RepD C H (Less O Ly) (frz wy) y := RepW.frz wy y Ly (fun a z => z) ry
      exact ⟨d, ds, RepD.dp _ _ _ rx' hp, RepD.dp _ _ _ ry' hq, s1, s2, gr_same (show RepD C H O (.bl _) (.bl _) from rfl) q⟩
    · cases e
  · cases e
section
variable {X : Cx} {cl : Nat → Addr} {a b : Expr} {ca cb : CE} {qa qb : Bool} {pos : Pos}
theorem dInT (hu : X.A.units + 65 < cLine) (ha : SE X cl qa a ca) (hb : SE X cl qb b cb) (hm : behindInMarks .In b = false := by with_unfolding_all rfl) : SE X cl (qa && qb) (.Compare a [.In] [b] pos) (cBin (fInT false) qb ca cb) := se_cmp (op_inT hu) (ops_inT false) ha hb hm
end
def CPowW (i j : Int) : Prop := 0 ≤ j ∧ j ≤ 1000 ∧ i.natAbs < 2 ^ 1000
instance {i j : Int} : Decidable (CPowW i j) := by unfold CPowW; infer_instance
section
variable {X : Cx} {cl : Nat → Addr} {a b : Expr} {ca cb : CE} {qa qb : Bool} {pos : Pos}
end
end Mi
namespace Mi
open PySem PySem.Spec PyProof.Rows L2
section
variable {X : Cx} {cl : Nat → Addr} {a b c : Expr} {ca cb cc : CE} {qa qb qc : Bool} {pos : Pos} {op op' : CmpOp} {n n' : Bool}
end
end Mi
namespace Mi
open PySem PySem.Spec PyProof.Rows L2
def ksV (ks : List Key) (vs : List V) : List (V × V) := (ks.map kV).zip vs
def SP (X : Cx) (cl : Nat → Addr) (q : Bool) (pos : Pos) (keys : List (Option Expr)) (vals : List Expr) (ks : List Key) (cb : CBs) : Prop :=
  ∃ trs, PPs X pos keys vals trs ∧ keys.length = ks.length ∧ ∀ σ H Q, tB ⟨X.K, cl⟩ q cb σ H (fun vs H' => Q (ksV ks vs) H') → tPairs trs σ H Q
section
variable {X : Cx} {cl : Nat → Addr} {pos : Pos} {k v : Expr} {ks : List (Option Expr)} {vs : List Expr} {kk : Key} {kks : List Key} {ca : CE} {cb : CBs} {qa qb : Bool}
end
section
variable {X : Cx} {cl : Nat → Addr} {pos : Pos} {keys : List (Option Expr)} {vals : List Expr} {ks : List Key} {cb : CBs} {qb : Bool}
end
section
variable {X : Cx} {cl : Nat → Addr} {a b : Expr} {ca cb : CE} {qa qb : Bool} {pos : Pos}
end
end Mi
namespace Mi
open PySem PySem.Spec PyProof.Rows L2
section
variable {X : Cx} {cl : Nat → Addr} {cbs : CBs} {qb : Bool} {e : Expr} {es : List Expr} {p pos : Pos}
end
end Mi
namespace Mi
open PySem PySem.Spec PyProof.Rows L2 RZ
open PySem.Sem (wp)
structure Zip3A (z TI TO i1 i2 i3 a b c : Addr) : Prop where
  s : ZipSep3 z TI TO i1 i2 i3 [i1, a] [i2, b] [i3, c]
  a1 : a ≠ i1
  b2 : b ≠ i2
  c3 : c ≠ i3
end Mi
namespace Mi
open PySem PySem.Spec PyProof.Rows L2 HT
theorem Vals.pick {xs : List V} {us : List Value} (r : Vals xs us) : ∀ I : List Nat, Vals (I.filterMap (xs[·]?)) (I.filterMap (us[·]?))
  | [] => .nil
  | i :: I => by
    rw [List.filterMap_cons, List.filterMap_cons]
    have ih := Vals.pick r I
    cases hx : xs[i]? with
    | none =>
      have : us[i]? = none := by
        rw [List.getElem?_eq_none_iff] at hx ⊢
        have := r.length
        omega
      rw [this]; exact ih
    | some x =>
      obtain ⟨u, hu, ru⟩ := r.get hx
      rw [hu]; exact .cons ru ih
theorem RepDs.pick {C : Cfg} {H : Hp} {O : AP} {ds : List D} {xs : List V} (r : RepDs C H O ds xs) : ∀ I : List Nat, RepDs C H O (I.filterMap (ds[·]?)) (I.filterMap (xs[·]?))
  | [] => RepDs.nil
  | i :: I => by
    rw [List.filterMap_cons, List.filterMap_cons]
    have ih := RepDs.pick r I
    cases hd : ds[i]? with
    | none =>
      have : xs[i]? = none := by
        rw [List.getElem?_eq_none_iff] at hd ⊢
        have := r.length
        omega
      rw [this]; exact ih
    | some d =>
      obtain ⟨x, hx, rx⟩ := r.get hd
      rw [hx]; exact .cons rx ih
end Mi
namespace Mi
open PySem PySem.Spec PyProof.Rows L2
section
variable {prog : Program} {w : World} {M : Model} {A : Around} {E : Value → Shared → Prop} {s : Shared} {K : PySem.W.Frag} {x C f L : Addr} {ox : Obj} {od : Option Obj} {h₀ : Heap} {m : Str → Option Value} {b tb : Value}
end
section
variable {X : Cx} {cl : Nat → Addr} {a b e : Expr} {ca cb : CE} {qa qb : Bool} {pos p p2 : Pos} {i0 i1 i2 : Nat} {F : Fn}
end
end Mi
namespace Mi
open PySem PySem.Spec PyProof.Rows L2
end Mi
namespace Mi
open PySem PySem.Spec PyProof.Rows L2
def lfD : D → Bool
  | .non => true
  | .bl _ => true
  | .int _ => true
  | .str _ => true
  | _ => false
def lfW : W → Bool
  | .fz d => lfD d
  | _ => false
def slotJ : Option W → Option W → Option W
  | some (.fz d), _ => some (.fz d)
  | some (.lst _), some (.lst ws) => if ws.all lfW = true then some (.lst ws) else none
  | some (.lst _), some (.fz (.lst ds)) => if ds.all lfD = true then some (.fz (.lst ds)) else none
  | _, _ => none
def joinE (kp : KP) : Nat → En → En → En
  | n, x :: ρ, y :: ρ2 => (if kp n = true then slotJ x y else none) :: joinE kp (n + 1) ρ ρ2
  | _, _, _ => []
section
variable {C : Cfg} {H H2 : Hp} {O O2 O3 : AP} {t : Addr}
theorem lf_rep {d : D} {v : V} (h : lfD d = true) (r : RepD C H O d v) : RepD C H2 O2 d v := by
  cases d <;> first | exact r | cases h
theorem lfs_rep : ∀ {ds : List D} {xs : List V}, ds.all lfD = true → RepDs C H O ds xs → RepDs C H2 O2 ds xs
  | [], xs, _, r => r
  | d :: ds, xs, h, r => by
    rw [List.all_cons, Bool.and_eq_true] at h
    obtain ⟨x, q, e, r1, r2⟩ := r
    exact ⟨x, q, e, lf_rep h.1 r1, lfs_rep h.2 r2⟩
theorem lfw_rep : ∀ {ws : List W} {xs : List V} {L : List Addr}, ws.all lfW = true → RepWs C H O ws xs L → RepWs C H2 O2 ws xs L
  | [], xs, L, _, r => r
  | w :: ws, xs, L, h, r => by
    rw [List.all_cons, Bool.and_eq_true] at h
    obtain ⟨x, q, L1, L2, e, e2, r1, r2⟩ := r
    cases w with
    | fz d => exact ⟨x, q, L1, L2, e, e2, ⟨r1.1, lf_rep h.1 r1.2⟩, lfw_rep h.2 r2⟩
    | lst us => cases h.1
theorem slot_j {x x2 : Option W} {y : Option V} {L L2 : List Addr} (K : Keep H O H2 O3) (h3 : ∀ a, O3 a → O2 a ∨ a = t) (h4 : ∀ a, O2 a → O3 a) (h : SlotR C H O x y L) (h2 : SlotR C H2 O2 x2 y L2) (nt : ∀ a ∈ L, a ≠ t) : ∃ L3, L3.Sublist L2 ∧ SlotR C H2 O3 (slotJ x x2) y L3 := by
  have nil : ∃ L3, L3.Sublist L2 ∧ SlotR C H2 O3 none y L3 := ⟨[], List.nil_sublist _, rfl⟩
  cases x with
  | none => exact nil
  | some w => cases w with
    | fz d =>
      obtain ⟨v, e, e2, r⟩ := h
      exact ⟨[], List.nil_sublist _, v, e, rfl, RepD.keep K d v r⟩
    | lst us => cases x2 with
      | none => exact nil
      | some w2 => cases w2 with
        | lst ws =>
          show ∃ L3, L3.Sublist L2 ∧ SlotR C H2 O3 (if ws.all lfW = true then some (.lst ws) else none) y L3
          by_cases c : ws.all lfW = true
          · rw [if_pos c]
            obtain ⟨v, e, a, xs, L', e1, h1, ho, e3, r⟩ := h2
            exact ⟨L2, List.Sublist.refl _, v, e, a, xs, L', e1, h1, h4 a ho, e3, lfw_rep c r⟩
          · rw [if_neg c]; exact nil
        | fz d2 => cases d2 with
          | lst ds =>
            show ∃ L3, L3.Sublist L2 ∧ SlotR C H2 O3 (if ds.all lfD = true then some (.fz (.lst ds)) else none) y L3
            by_cases c : ds.all lfD = true
            · rw [if_pos c]
              obtain ⟨v, e, e2, a, xs, e1, h1, ho, r⟩ := h2
              obtain ⟨v', e', a', xs', L', e1', h1', ho', e3', _⟩ := h
              refine ⟨[], List.nil_sublist _, v, e, rfl, a, xs, e1, h1, fun z => ?_, lfs_rep c r⟩
              rcases h3 a z with q | q
              · exact ho q
              · rw [e] at e'
                cases e'
                rw [e1] at e1'
                cases e1'
                exact nt a (by rw [e3']; simp) q
            · rw [if_neg c]; exact nil
          | _ => exact nil
theorem env_j {kp : KP} (K : Keep H O H2 O3) (h3 : ∀ a, O3 a → O2 a ∨ a = t) (h4 : ∀ a, O2 a → O3 a) : ∀ {ρ ρ2 : En} {σ σ2 : Sg} {L L2 : List Addr} (n : Nat), EnvR C H O ρ σ L → EnvR C H2 O2 ρ2 σ2 L2 → (∀ k, kp (n + k) = true → σ2[k]? = σ[k]?) → (∀ a ∈ L, a ≠ t) → ρ.length = ρ2.length → ∃ L3, L3.Sublist L2 ∧ EnvR C H2 O3 (joinE kp n ρ ρ2) σ2 L3
  | [], [], σ, σ2, L, L2, n, h, h2, _, _, _ => ⟨[], List.nil_sublist _, h2.1, rfl⟩
  | x :: ρ, [], σ, σ2, L, L2, n, h, h2, _, _, hl => by simp at hl
  | [], x :: ρ2, σ, σ2, L, L2, n, h, h2, _, _, hl => by simp at hl
  | x :: ρ, x2 :: ρ2, σ, σ2, L, L2, n, h, h2, hk, nt, hl => by
    obtain ⟨y, r, La, Lb, e, e2, s, hr⟩ := h
    obtain ⟨y2, r2, Ma, Mb, f, f2, s2, hr2⟩ := h2
    subst e; subst e2; subst f; subst f2
    obtain ⟨L3, sub, env⟩ := env_j (kp := kp) K h3 h4 (n + 1) hr hr2 (fun k q => by
      have := hk (k + 1) (by rw [← q]; congr 1; omega)
      simpa using this) (fun a ha => nt a (by simp [ha])) (by simpa using hl)
    by_cases c : kp n = true
    · have := hk 0 c
      simp at this
      subst this
      obtain ⟨L4, sub4, s4⟩ := slot_j K h3 h4 s s2 (fun a ha => nt a (by simp [ha]))
      refine ⟨L4 ++ L3, List.Sublist.append sub4 sub, _, _, L4, L3, rfl, rfl, ?_, env⟩
      show SlotR C H2 O3 (if kp n = true then slotJ x x2 else none) _ L4
      rw [if_pos c]; exact s4
    · refine ⟨L3, (List.nil_sublist Ma).append sub, _, _, [], L3, rfl, rfl, ?_, env⟩
      show SlotR C H2 O3 (if kp n = true then slotJ x x2 else none) _ []
      rw [if_neg c]; rfl
theorem joinE_at {kp : KP} : ∀ {ρ ρ2 : En} (n i : Nat), ρ.length = ρ2.length → ρ[i]? = some none → (joinE kp n ρ ρ2)[i]? = some none
  | [], _, n, i, _, h => by simp at h
  | x :: ρ, [], n, i, h, _ => by simp at h
  | x :: ρ, x2 :: ρ2, n, 0, h, e => by
    simp at e
    subst e
    show some (if kp n = true then slotJ none x2 else none) = some none
    split <;> rfl
  | x :: ρ, x2 :: ρ2, n, i + 1, h, e => by
    show (joinE kp (n + 1) ρ ρ2)[i]? = some none
    exact joinE_at (n + 1) i (by simpa using h) (by simpa using e)
end
def lendK (i : Nat) (kp : KP) (ρ : En) : Fl × En → Res (Fl × En)
  | (.nx, ρ2) => match ρ[i]?, ρ2[i]? with
    | some (some (.lst _)), some (some (.fz (.lst ds))) => (chk (kp i && (ds.all lfD && (ρ.length == ρ2.length)))).bind fun _ => .ok (.nx, (joinE kp 0 (ρ.set i none) ρ2).set i (some (.lst (ds.map W.fz))))
    | _, _ => .err
  | (.ret w, ρ2) => .ok (.ret w, ρ2)
  | _ => .err
def cLend (i : Nat) (kp : KP) (c1 c2 : CS) : CS := fun ρ => (cSeq c1 c2 ρ).bind (lendK i kp ρ)
section
variable {C : Cfg} {kp kp' : KP} {σ σ2 : Sg} {H H2 : Hp} {O O2 : AP} {L L2 Lw : List Addr} {ρ ρ2 : En}
theorem PostS.sub (hk : ∀ k, kp k = true → kp' k = true) (P : PostS C kp' σ H O L ρ2 σ2 H2 O2 L2 Lw) : PostS C kp σ H O L ρ2 σ2 H2 O2 L2 Lw := ⟨P.env, P.nd, P.st, fun i h => P.kp i (hk i h), P.ln⟩
theorem lend_post {i : Nat} {ws : List W} {ds : List D} (hk : ∀ k, kp k = true → kp' k = true) (env : EnvR C H O ρ σ L) (nd : L.Nodup) (P : PostS C kp' σ H O L ρ2 σ2 H2 O2 L2 []) (e1 : ρ[i]? = some (some (.lst ws))) (e2 : ρ2[i]? = some (some (.fz (.lst ds)))) (ki : kp' i = true) (fl : ds.all lfD = true) (hl : ρ.length = ρ2.length) :
    ∃ (O3 : AP) (L3 : List Addr), PostS C kp σ H O L ((joinE kp' 0 (ρ.set i none) ρ2).set i (some (.lst (ds.map W.fz)))) σ2 H2 O3 L3 [] := by
  obtain ⟨y, L1, L0, s1, sl, pm, up⟩ := env.focus e1
  obtain ⟨v, ey, a, xs, L', ev, ha, oa, eL, rw1⟩ := sl
  subst ey; subst ev; subst eL
  have nd2 : ((a :: L') ++ L0).Nodup := pm.nodup_iff.mp nd
  have st := P.st
  rw [List.append_nil] at st
  have own : ∀ b ∈ L, O b := fun b hb => (env.own b hb).1
  have aL : a ∈ L := pm.mem_iff.mpr (by simp)
  -- the environment without the slot
  obtain ⟨M, pM, envN⟩ := up H O none (some (V.ref a)) [] ⟨fun b o e n => ⟨e, n⟩, fun b hb o e => ⟨e, own b (pm.mem_iff.mpr (by simp [hb]))⟩⟩ rfl
  have sset : σ.set i (some (V.ref a)) = σ := by
    apply List.ext_getElem?
    intro k
    by_cases c : i = k
    · subst c
      have hi : i < σ.length := (List.getElem?_eq_some_iff.mp s1).1
      rw [List.getElem?_set_self hi, s1]
    · rw [List.getElem?_set_ne c]
  rw [sset] at envN
  have nt : ∀ b ∈ M, b ≠ a := fun b hb e => by
    have hb0 : b ∈ L0 := by have := pM.mem_iff.mp hb; simpa using this
    rw [e] at hb0
    rw [List.cons_append, List.nodup_cons] at nd2
    exact nd2.1 (by simp [hb0])
  -- behind the statements
  obtain ⟨y2, N1, N0, t1, tl, pm2, up2⟩ := P.env.focus e2
  obtain ⟨v2, ey2, eN, a2, xs2, ev2, ha2, na2, rds⟩ := tl
  subst ey2; subst ev2; subst eN
  have ka := P.kp i ki
  rw [t1, s1] at ka
  cases ka
  let O3 : AP := fun b => O2 b ∨ b = a
  have K : Keep H O H2 O3 := fun b o e n => ⟨st.fr b o e (fun z => n (own b z)), fun q => by
    rcases q with q | q
    · rcases st.nw b q with r | r
      · exact n r
      · rw [e] at r; cases r
    · exact n (by rw [q]; exact oa)⟩
  obtain ⟨L3, sub, env3⟩ := env_j (kp := kp') (t := a) K (fun b q => q) (fun b q => .inl q) 0 envN P.env (fun k q => by
    rw [Nat.zero_add] at q; exact P.kp k q) nt (by rw [List.length_set]; exact hl)
  have hi : i < ρ.length := (List.getElem?_eq_some_iff.mp e1).1
  have at0 : (joinE kp' 0 (ρ.set i none) ρ2)[i]? = some none := joinE_at 0 i (by rw [List.length_set]; exact hl) (by rw [List.getElem?_set_self hi])
  obtain ⟨y3, K1, K0, u1, us, pm3, up3⟩ := env3.focus at0
  have eK : K1 = [] := us
  subst eK
  have own2 : ∀ b ∈ L2, O2 b := fun b hb => (P.env.own b hb).1
  have aL3 : a ∉ L3 := fun z => na2 (own2 a (sub.mem z))
  obtain ⟨L4, pm4, env4⟩ := up3 H2 O3 (some (.lst (ds.map W.fz))) (some (V.ref a)) [a] ⟨fun b o e n => ⟨e, n⟩, fun b hb o e => ⟨e, .inl (own2 b (sub.mem (pm3.mem_iff.mpr (by simp [hb]))))⟩⟩ ⟨_, rfl, a, xs2, [], rfl, ha2, .inr rfl, rfl, RepWs.ofD (lfs_rep fl rds)⟩
  have sset2 : σ2.set i (some (V.ref a)) = σ2 := by
    apply List.ext_getElem?
    intro k
    by_cases c : i = k
    · subst c
      have hi : i < σ2.length := (List.getElem?_eq_some_iff.mp t1).1
      rw [List.getElem?_set_self hi, t1]
    · rw [List.getElem?_set_ne c]
  rw [sset2] at env4
  have ndL2 : L2.Nodup := by have := P.nd; rw [List.append_nil] at this; exact this
  have nd3 : L3.Nodup := sub.nodup ndL2
  have nd4 : L4.Nodup := pm4.nodup_iff.mpr (by
    have p0 : K0.Nodup := by have := pm3.nodup_iff.mp nd3; simpa using this
    rw [List.cons_append, List.nil_append, List.nodup_cons]
    exact ⟨fun z => aL3 (pm3.mem_iff.mpr (by simpa using z)), p0⟩)
  have mem4 : ∀ b ∈ L4, b ∈ L2 ∨ b = a := fun b hb => by
    have := pm4.mem_iff.mp hb
    rw [List.cons_append, List.nil_append, List.mem_cons] at this
    rcases this with q | q
    · exact .inr q
    · exact .inl (sub.mem (pm3.mem_iff.mpr (by simpa using q)))
  refine ⟨O3, L4, env4, by rw [List.append_nil]; exact nd4, ?_, fun k q => P.kp k (hk k q), P.ln⟩
  rw [List.append_nil]
  exact ⟨st.fr, fun b q => by
    rcases q with q | q
    · exact st.nw b q
    · rw [q]; exact .inl oa, fun b o e q n => .inl (st.ol b o e q n), fun b hb => by
    rcases mem4 b hb with q | q
    · exact st.ll b q
    · rw [q]; exact .inl aL, st.dm⟩
end
section
variable {X : Cx} {cl : Nat → Addr} {kp kp' : KP} {s1 s2 : Stmt} {rest : List Stmt} {c1 c2 c3 : CS} {i : Nat}
theorem sss_lend (hk : ∀ k, kp k = true → kp' k = true) (h1 : SS X cl kp' s1 c1) (h2 : SS X cl kp' s2 c2) (hr : SSs X cl kp rest c3) : SSs X cl kp (s1 :: s2 :: rest) (cSeq (cLend i kp' c1 c2) c3) := by
  refine PSs.imp (pss_cons h1 (pss_cons h2 hr)) fun Dn σ H h => ?_
  obtain ⟨O, L, ρ, fl, ρ', env, nd, c, q⟩ := h
  obtain ⟨⟨f, ρ3⟩, cl1, c⟩ := Res.of_bind c
  obtain ⟨⟨g, ρ2⟩, cs, cl1⟩ := Res.of_bind cl1
  obtain ⟨⟨f1, ρ1⟩, e1, cs⟩ := Res.of_bind cs
  refine ⟨O, L, ρ, f1, ρ1, env, nd, e1, fun σ1 H1 O1 L1 Lw P1 => ?_⟩
  cases f1 with
  | nx =>
    intro e
    subst e
    refine ⟨O1, L1, ρ1, g, ρ2, P1.env, P1.nd1, cs, fun σ2 H2 O2 L2 Lw2 P2 => ?_⟩
    have P := P1.trans P2
    cases g with
    | nx =>
      intro e
      subst e
      unfold lendK at cl1
      simp only at cl1
      split at cl1
      · rename_i ws ds g1 g2
        obtain ⟨_, k1, k2⟩ := Res.of_bind cl1
        cases k2
        have k1 := chk_ok k1
        simp only [Bool.and_eq_true, beq_iff_eq] at k1
        obtain ⟨O3, L3, PN⟩ := lend_post hk env nd P g1 g2 k1.1 k1.2.1 k1.2.2
        exact ⟨O3, L3, _, fl, ρ', PN.env, PN.nd1, c, fun σ4 H4 O4 L4 Lw4 P4 => q σ4 H4 O4 L4 Lw4 (PN.trans P4)⟩
      · cases cl1
    | ret w =>
      cases cl1
      cases c
      exact q σ2 H2 O2 L2 Lw2 (P.sub hk)
    | bk => cases cl1
    | ct => cases cl1
  | ret w =>
    cases cs
    cases cl1
    cases c
    exact q σ1 H1 O1 L1 Lw (P1.sub hk)
  | bk =>
    cases cs
    cases cl1
  | ct =>
    cases cs
    cases cl1
end
def kpBut (js : List Nat) : KP := fun k => !js.contains k
theorem hk_io {l js : List Nat} (h : (l.all fun k => !js.contains k) = true) : ∀ k, ioOf l k = true → kpBut js k = true := fun k hk => by
  unfold ioOf at hk
  unfold kpBut
  exact List.all_eq_true.mp h k (List.contains_iff_mem.mp hk)
end Mi
namespace Mi
open PySem
section
variable {c : Nat} {F : Fn} {ca cb : CE} {cbs : CBs} {ρ ρ1 ρ2 : En} {d y : D} {ds fs gs dd : List D} {r : W} {bk : List W} {I : List D → Res (List D)} {bs : List B} {i : Int}
end
end Mi
namespace Gn
open Mi PySem PySem.Spec PyProof.Rows L2
def top (i : Nat) : Stmt := PySem.Challenge.pw_boundedlevels_k28_events_rows_and_their.main.body.getD i (.Pass ⟨0, 0, 0, 0⟩)
abbrev FnP (K : PySem.W.Frag) (x q : Str) (st : Stmt) (dv : List V) (f : Addr) (fd : FuncData) : Prop := FunD K x q (defArgs st) (defBody st) (defScope st) dv [] f fd
structure Gs (mg : Str → Option Value) : Prop where
  one : True
  ADD : ∃ t, mg "ADD" = some (.str "add" t)
  FLOOR : ∃ t, mg "FLOOR" = some (.str "floor" t)
  CAP : ∃ t, mg "CAP" = some (.str "cap" t)
structure Tus (K : PySem.W.Frag) (mg : Str → Option Value) : Prop where
  one : True
  WORDS : ∃ a, mg "WORDS" = some (.ref a) ∧ TuK K a [.str "add", .str "floor", .str "cap"]
abbrev N_law_box : List Str := ["_law_script", "_law_k", "_law_cell"]
theorem sc_law_box : FnScope N_law_box ["_law_script", "_law_k"] (defScope (top 13)) := ⟨rfl, rfl, rfl, by decide +kernel, rfl, by decide +kernel, by decide +kernel⟩
def m_law_box : CS := (cSeq
  (cAsg (gSet 2) (cIf (cTest (cBin fLt true (cVar 1) (cCallB fLen (cCons true (cVar 0) cNil)))) (cBin fIdx true (cVar 0) (cVar 1)) (cC (.int 0))))
  (cRet (cLst true (cCons true (cBin fMul true (cCallB fAbs (cCons true (cVar 2) cNil)) (cCallB fInt (cCons true (cBin fGe true (cCallB fAbs (cCons true (cVar 2) cNil)) (cBin fPow true (cC (.int 10)) (cC (.int 18)))) cNil))) (cCons true (cBin fAdd true (cBin fAdd true (cBin fMod true (cCallB fInt (cCons true (cVar 2) cNil)) (cC (.int 2305843009213693951))) (cBin fMul true (cC (.int 39373)) (cVar 1))) (cC (.int 62328))) (cCons true (cC (.int 0)) cNil))))))
def F_law_box : Fn := runDef 2 3 (ioOf []) m_law_box
theorem b_law_box {P : Program} {w : World} {K : PySem.W.Frag} {mg : Str → Option Value} {base : Heap} {cl : Nat → Addr} (B : Blt mg) (S : Gs mg) (TU : Tus K mg) {f : Addr} {cdv : Value} {A : Around} {outer : List Env} {s : Shared} {H : Hp} {E : XK} (hr : Room 0 (A.deeper (envOfC "_law_box" (defScope (top 13)) s.heap.objs.size f cdv)))  : SSs (BX P w K mg base N_law_box "_law_box" (defScope (top 13)) f cdv A outer s H E) cl (ioOf []) (defBody (top 13)) m_law_box :=
  (sss_cons
  (ss_asg (q := true) (se_if (qc := true) (qa := true) (qb := true) (tLt' (qa := true) (qb := true) (dv 1) (dLen (qb := true) rfl B.len (sb_cons (qa := true) (qb := true) (dv 0) sb_nil))) (dIx (qa := true) (qb := true) (dv 0) (dv 1)) se_int) (sg_name (i := 2) sc_law_box.nd rfl (by first | exact .inl rfl | exact .inr rfl) rfl))
  (sss_one (ss_ret (q := true) (se_lst (qb := true) (qd := true) (sb_cons (qa := true) (qb := true) (dMul (qa := true) (qb := true) (dAbs (qb := true) rfl B.abs (sb_cons (qa := true) (qb := true) (dv 2) sb_nil)) (dInt (qb := true) rfl B.int (sb_cons (qa := true) (qb := true) (dGe (qa := true) (qb := true) (dAbs (qb := true) rfl B.abs (sb_cons (qa := true) (qb := true) (dv 2) sb_nil)) (dPow (qa := true) (qb := true) se_int se_int)) sb_nil))) (sb_cons (qa := true) (qb := true) (dAdd (qa := true) (qb := true) (dAdd (qa := true) (qb := true) (dMod (qa := true) (qb := true) (dInt (qb := true) rfl B.int (sb_cons (qa := true) (qb := true) (dv 2) sb_nil)) se_int) (dMul (qa := true) (qb := true) se_int (dv 1))) se_int) (sb_cons (qa := true) (qb := true) se_int sb_nil)))))))
theorem o_law_box {P : Program} {w : World} {K : PySem.W.Frag} {mg : Str → Option Value} {base : Heap} {cl : Nat → Addr} (B : Blt mg) (S : Gs mg) (TU : Tus K mg) {f : Addr} {fd : FuncData} (FD : FnP K "_law_box" "_law_box" (top 13) [] f fd)  : FnOk P w K mg base CX0 1 f fd ["_law_script", "_law_k"] (spM ⟨K, cl⟩ F_law_box) :=
  fn_defD (k := 0) (N := N_law_box) FD sc_law_box (ioOf_out (by decide)) (fun cdv A outer s H E hr => b_law_box B S TU hr )
theorem d_law_box {P : Program} {w : World} {K : PySem.W.Frag} {mg : Str → Option Value} {base : Heap} {cl : Nat → Addr} (B : Blt mg) (S : Gs mg) (TU : Tus K mg) {f : Addr} {fd : FuncData} (FD : FnP K "_law_box" "_law_box" (top 13) [] f fd) (hm : mg "_law_box" = some (.ref f))  : Dn P w K mg base cl "_law_box" 1 F_law_box :=
  ⟨f, fd, ["_law_script", "_law_k"], o_law_box B S TU FD , hm, FD.kp, FD.bindsN fun _ _ _ _ _ _ us hl => match us, hl with | [_, _], _ => rfl⟩
abbrev N_law_same : List Str := ["_law_got", "_law_due", "_law_mine", "_law_its"]
theorem sc_law_same : FnScope N_law_same ["_law_got", "_law_due"] (defScope (top 17)) := ⟨rfl, rfl, rfl, by decide +kernel, rfl, by decide +kernel, by decide +kernel⟩
def E_law_same_1 (Fme : Fn) (ρ : En) : Res (B × En) := (cCallV Fme (cCons true (cVar 2) (cCons true (cVar 3) cNil))) ρ
def m_law_same (Fme : Fn) : CS := (cSeq
  (cIfS (cTest (cUn (fIsi ["list", "tuple"]) (cVar 1))) (cSeq
  (cIfS (cTest (cBin fNe true (cUn (fIsi ["list"]) (cVar 0)) (cUn (fIsi ["list"]) (cVar 1)))) (cRet (cC (.bl false))) cNext)
  (cSeq
  (cIfS (cTest (cBin fNe true (cUn (fIsi ["tuple"]) (cVar 0)) (cUn (fIsi ["tuple"]) (cVar 1)))) (cRet (cC (.bl false))) cNext)
  (cRet (cAnd (cBin fEq true (cCallB fLen (cCons true (cVar 0) cNil)) (cCallB fLen (cCons true (cVar 1) cNil))) (cCallB fAll (cCons true (cLc [2, 3] (iZipM (cCons true (cVar 0) (cCons true (cVar 1) cNil))) (gUnp (gsCons (gSet 2) (gsCons (gSet 3) gsNil))) cYes (E_law_same_1 Fme)) cNil)))))) cNext)
  (cSeq
  (cIfS (cOrT (cTest (cBin fIsN true (cVar 1) (cC .non))) (cTest (cUn (fIsi ["bool", "str"]) (cVar 1)))) (cRet (cAnd (cBin fEq true (cVar 0) (cVar 1)) (cAnd (cBin fEq true (cUn (fIsi ["bool"]) (cVar 0)) (cUn (fIsi ["bool"]) (cVar 1))) (cBin fEq true (cBin fIsN true (cVar 0) (cC .non)) (cBin fIsN true (cVar 1) (cC .non)))))) cNext)
  (cRet (cAnd (cUn (fIsi ["int"]) (cVar 0)) (cAnd (cNot (cUn (fIsi ["bool"]) (cVar 0))) (cBin fEq true (cVar 0) (cVar 1)))))))
def F_law_same : Nat → Fn
  | 0 => errF
  | n + 1 => runDef 2 4 (ioOf []) (m_law_same (F_law_same n))
theorem b_law_same {P : Program} {w : World} {K : PySem.W.Frag} {mg : Str → Option Value} {base : Heap} {cl : Nat → Addr} (B : Blt mg) (S : Gs mg) (TU : Tus K mg) {f : Addr} {cdv : Value} {A : Around} {outer : List Env} {s : Shared} {H : Hp} {E : XK} {n : Nat} {Fme : Fn} (hr : Room (n + 1) (A.deeper (envOfC "_law_same" (defScope (top 17)) s.heap.objs.size f cdv))) (d_me : Dn P w K mg base cl "_law_same" (n + 1) Fme)  : SSs (BX P w K mg base N_law_same "_law_same" (defScope (top 17)) f cdv A outer s H E) cl (ioOf []) (defBody (top 17)) (m_law_same Fme) :=
  (sss_cons
  (ss_if (q := true) (st_val (qa := true) (se_isi2 (qa := true) rfl B.isinstance (tyList rfl B.list) (tyTuple rfl B.tuple) (by decide) (by decide) (dv 1))) (sss_cons
  (ss_if (q := true) (tNe' (qa := true) (qb := true) hr.units (se_isi1 (qa := true) rfl B.isinstance (tyList rfl B.list) (by decide) (dv 0)) (se_isi1 (qa := true) rfl B.isinstance (tyList rfl B.list) (by decide) (dv 1))) (sss_one (ss_ret (q := true) se_bl)) sss_nil)
  (sss_cons
  (ss_if (q := true) (tNe' (qa := true) (qb := true) hr.units (se_isi1 (qa := true) rfl B.isinstance (tyTuple rfl B.tuple) (by decide) (dv 0)) (se_isi1 (qa := true) rfl B.isinstance (tyTuple rfl B.tuple) (by decide) (dv 1))) (sss_one (ss_ret (q := true) se_bl)) sss_nil)
  (sss_one (ss_ret (q := false) (se_and (qa := true) (qb := false) (dEq (qa := true) (qb := true) hr.units (dLen (qb := true) rfl B.len (sb_cons (qa := true) (qb := true) (dv 0) sb_nil)) (dLen (qb := true) rfl B.len (sb_cons (qa := true) (qb := true) (dv 1) sb_nil))) (se_one (qa := false) (dAll (qb := false) rfl rfl B.all (sb_cons (qa := false) (qb := true) (se_lc (own := [("_law_mine", 2), ("_law_its", 3)]) (qt := true) (qe := true) rfl sc_law_same.nd (si_zip (qb := true) rfl B.zip (sb_cons (qa := true) (qb := true) (dv 0) (sb_cons (qa := true) (qb := true) (dv 1) sb_nil))) (blkOk_by (by kernel_rfl)) (fun s H A l fp => (sg_unp rfl (sgs_cons (sg_name (i := 2) sc_law_same.nd rfl (by first | exact .inl rfl | exact .inr rfl) rfl) (sgs_cons (sg_name (i := 3) sc_law_same.nd rfl (by first | exact .inl rfl | exact .inr rfl) rfl) sgs_nil)) (gsCons_len (gsCons_len gsNil_len)))) (fun s H A l fp => sts_nil) (fun s H A l fp => (se_callV (qb := true) (d_me.fm hr (by omega)).blk rfl (sb_cons (qa := true) (qb := true) (dv 2) (sb_cons (qa := true) (qb := true) (dv 3) sb_nil))))) sb_nil)))))))) sss_nil)
  (sss_cons
  (ss_if (q := true) (SW.st (qa := true) (sw_or (qa := true) (qb := true) (tIs' (qa := true) (qb := true) (dv 1) se_non) (sw_or1 (qa := true) (st_val (qa := true) (se_isi2 (qa := true) rfl B.isinstance (tyBool rfl B.bool) (tyStr rfl B.str) (by decide) (by decide) (dv 1)))))) (sss_one (ss_ret (q := true) (se_and (qa := true) (qb := true) (dEq (qa := true) (qb := true) hr.units (dv 0) (dv 1)) (se_and (qa := true) (qb := true) (dEq (qa := true) (qb := true) hr.units (se_isi1 (qa := true) rfl B.isinstance (tyBool rfl B.bool) (by decide) (dv 0)) (se_isi1 (qa := true) rfl B.isinstance (tyBool rfl B.bool) (by decide) (dv 1))) (se_one (qa := true) (dEq (qa := true) (qb := true) hr.units (dIs (qa := true) (qb := true) (dv 0) se_non) (dIs (qa := true) (qb := true) (dv 1) se_non))))))) sss_nil)
  (sss_one (ss_ret (q := true) (se_and (qa := true) (qb := true) (se_isi1 (qa := true) rfl B.isinstance (tyInt rfl B.int) (by decide) (dv 0)) (se_and (qa := true) (qb := true) (se_not (qa := true) (se_isi1 (qa := true) rfl B.isinstance (tyBool rfl B.bool) (by decide) (dv 0))) (se_one (qa := true) (dEq (qa := true) (qb := true) hr.units (dv 0) (dv 1)))))))))
theorem d_law_same {P : Program} {w : World} {K : PySem.W.Frag} {mg : Str → Option Value} {base : Heap} {cl : Nat → Addr} (B : Blt mg) (S : Gs mg) (TU : Tus K mg) {f : Addr} {fd : FuncData} (FD : FnP K "_law_same" "_law_same" (top 17) [] f fd) (hm : mg "_law_same" = some (.ref f))  : ∀ n : Nat, Dn P w K mg base cl "_law_same" (n + 1) (F_law_same n)
  | 0 => ⟨f, fd, ["_law_got", "_law_due"], fn_zero (k := 0 + 0) FD sc_law_same, hm, FD.kp, FD.bindsN fun _ _ _ _ _ _ us hl => match us, hl with | [_, _], _ => rfl⟩
  | n + 1 => ⟨f, fd, ["_law_got", "_law_due"], (Nat.succ_add n 1).symm ▸ fn_def (k := n + 1) FD sc_law_same (ioOf_out (by decide)) (fun cdv A outer s H E hr => b_law_same B S TU hr (d_law_same B S TU FD hm  n) ), hm, FD.kp, FD.bindsN fun _ _ _ _ _ _ us hl => match us, hl with | [_, _], _ => rfl⟩
abbrev Nbehind : List Str := ["level", "event"]
theorem scbehind : FnScope Nbehind ["level", "event"] (defScope (top 8)) := ⟨rfl, rfl, rfl, by decide +kernel, rfl, by decide +kernel, by decide +kernel⟩
def mbehind : CS := (cSeq
  (cIfS (cTest (cBin fEq true (cBin fIdx true (cVar 1) (cC (.int 0))) (cC (.str "add")))) (cRet (cBin fAdd true (cVar 0) (cBin fIdx true (cVar 1) (cC (.int 1))))) cNext)
  (cRet (cIf (cTest (cBin fEq true (cBin fIdx true (cVar 1) (cC (.int 0))) (cC (.str "floor")))) (cCallB fMax2 (cCons true (cVar 0) (cCons true (cBin fIdx true (cVar 1) (cC (.int 1))) cNil))) (cCallB fMin2 (cCons true (cVar 0) (cCons true (cBin fIdx true (cVar 1) (cC (.int 1))) cNil))))))
def Fbehind : Fn := runDef 2 2 (ioOf []) mbehind
theorem bbehind {P : Program} {w : World} {K : PySem.W.Frag} {mg : Str → Option Value} {base : Heap} {cl : Nat → Addr} (B : Blt mg) (S : Gs mg) (TU : Tus K mg) {f : Addr} {cdv : Value} {A : Around} {outer : List Env} {s : Shared} {H : Hp} {E : XK} (hr : Room 0 (A.deeper (envOfC "behind" (defScope (top 8)) s.heap.objs.size f cdv)))  : SSs (BX P w K mg base Nbehind "behind" (defScope (top 8)) f cdv A outer s H E) cl (ioOf []) (defBody (top 8)) mbehind :=
  (sss_cons
  (ss_if (q := true) (tEq' (qa := true) (qb := true) hr.units (dIx (qa := true) (qb := true) (dv 1) se_int) (dg (x := "ADD") rfl S.ADD.choose_spec)) (sss_one (ss_ret (q := true) (dAdd (qa := true) (qb := true) (dv 0) (dIx (qa := true) (qb := true) (dv 1) se_int)))) sss_nil)
  (sss_one (ss_ret (q := true) (se_if (qc := true) (qa := true) (qb := true) (tEq' (qa := true) (qb := true) hr.units (dIx (qa := true) (qb := true) (dv 1) se_int) (dg (x := "FLOOR") rfl S.FLOOR.choose_spec)) (dMax2 (qb := true) rfl rfl B.max (sb_cons (qa := true) (qb := true) (dv 0) (sb_cons (qa := true) (qb := true) (dIx (qa := true) (qb := true) (dv 1) se_int) sb_nil))) (dMin2 (qb := true) rfl rfl B.min (sb_cons (qa := true) (qb := true) (dv 0) (sb_cons (qa := true) (qb := true) (dIx (qa := true) (qb := true) (dv 1) se_int) sb_nil)))))))
theorem obehind {P : Program} {w : World} {K : PySem.W.Frag} {mg : Str → Option Value} {base : Heap} {cl : Nat → Addr} (B : Blt mg) (S : Gs mg) (TU : Tus K mg) {f : Addr} {fd : FuncData} (FD : FnP K "behind" "behind" (top 8) [] f fd)  : FnOk P w K mg base CX0 1 f fd ["level", "event"] (spM ⟨K, cl⟩ Fbehind) :=
  fn_defD (k := 0) (N := Nbehind) FD scbehind (ioOf_out (by decide)) (fun cdv A outer s H E hr => bbehind B S TU hr )
theorem dbehind {P : Program} {w : World} {K : PySem.W.Frag} {mg : Str → Option Value} {base : Heap} {cl : Nat → Addr} (B : Blt mg) (S : Gs mg) (TU : Tus K mg) {f : Addr} {fd : FuncData} (FD : FnP K "behind" "behind" (top 8) [] f fd) (hm : mg "behind" = some (.ref f))  : Dn P w K mg base cl "behind" 1 Fbehind :=
  ⟨f, fd, ["level", "event"], obehind B S TU FD , hm, FD.kp, FD.bindsN fun _ _ _ _ _ _ us hl => match us, hl with | [_, _], _ => rfl⟩
abbrev Nend_of : List Str := ["row", "start", "level", "event"]
theorem scend_of : FnScope Nend_of ["row", "start"] (defScope (top 9)) := ⟨rfl, rfl, rfl, by decide +kernel, rfl, by decide +kernel, by decide +kernel⟩
def Lend_of_1 (ρ : En) : Res (Fl × En) := (cAsg (gSet 2) (cCallP false Fbehind (cCons true (cVar 2) (cCons true (cVar 3) cNil)))) ρ
def mend_of : CS := (cSeq
  (cAsg (gSet 2) (cVar 1))
  (cSeq
  (cFor (iSeq (cVar 0)) (gSet 3) Lend_of_1)
  (cRet (cVar 2))))
def Fend_of : Fn := runDef 2 4 (ioOf []) mend_of
theorem bend_of {P : Program} {w : World} {K : PySem.W.Frag} {mg : Str → Option Value} {base : Heap} {cl : Nat → Addr} (B : Blt mg) (S : Gs mg) (TU : Tus K mg) {f : Addr} {cdv : Value} {A : Around} {outer : List Env} {s : Shared} {H : Hp} {E : XK} (hr : Room 1 (A.deeper (envOfC "end_of" (defScope (top 9)) s.heap.objs.size f cdv))) (dbehind : Dn P w K mg base cl "behind" 1 Fbehind) : SSs (BX P w K mg base Nend_of "end_of" (defScope (top 9)) f cdv A outer s H E) cl (ioOf []) (defBody (top 9)) mend_of :=
  (sss_cons
  (ss_asg (q := true) (dv 1) (sg_name (i := 2) scend_of.nd rfl (by first | exact .inl rfl | exact .inr rfl) rfl))
  (sss_cons
  (ss_for PassesOwn.never rfl (si_seq (qa := true) (dv 0)) (sg_name (i := 3) scend_of.nd rfl (by first | exact .inl rfl | exact .inr rfl) rfl) (sss_one (ss_asg (q := false) (se_callP (qb := true) (qd := false) (dbehind.fm hr (by decide)) rfl (sb_cons (qa := true) (qb := true) (dv 2) (sb_cons (qa := true) (qb := true) (dv 3) sb_nil))) (sg_name (i := 2) scend_of.nd rfl (by first | exact .inl rfl | exact .inr rfl) rfl))))
  (sss_one (ss_ret (q := true) (dv 2)))))
theorem oend_of {P : Program} {w : World} {K : PySem.W.Frag} {mg : Str → Option Value} {base : Heap} {cl : Nat → Addr} (B : Blt mg) (S : Gs mg) (TU : Tus K mg) {f : Addr} {fd : FuncData} (FD : FnP K "end_of" "end_of" (top 9) [] f fd) (dbehind : Dn P w K mg base cl "behind" 1 Fbehind) : FnOk P w K mg base CX0 2 f fd ["row", "start"] (spM ⟨K, cl⟩ Fend_of) :=
  fn_defD (k := 1) (N := Nend_of) FD scend_of (ioOf_out (by decide)) (fun cdv A outer s H E hr => bend_of B S TU hr dbehind)
theorem dend_of {P : Program} {w : World} {K : PySem.W.Frag} {mg : Str → Option Value} {base : Heap} {cl : Nat → Addr} (B : Blt mg) (S : Gs mg) (TU : Tus K mg) {f : Addr} {fd : FuncData} (FD : FnP K "end_of" "end_of" (top 9) [] f fd) (hm : mg "end_of" = some (.ref f)) (dbehind : Dn P w K mg base cl "behind" 1 Fbehind) : Dn P w K mg base cl "end_of" 2 Fend_of :=
  ⟨f, fd, ["row", "start"], oend_of B S TU FD dbehind, hm, FD.kp, FD.bindsN fun _ _ _ _ _ _ us hl => match us, hl with | [_, _], _ => rfl⟩
theorem kend_of_start_row {P : Program} {w : World} {K : PySem.W.Frag} {mg : Str → Option Value} {base : Heap} {cl : Nat → Addr} (B : Blt mg) (S : Gs mg) (TU : Tus K mg) {f : Addr} {fd : FuncData} (FD : FnP K "end_of" "end_of" (top 9) [] f fd) (hm : mg "end_of" = some (.ref f)) (dbehind : Dn P w K mg base cl "behind" 1 Fbehind) : Dk P w K mg base cl "end_of" ["start", "row"] [1, 0] 2 Fend_of :=
  ⟨f, fd, ["row", "start"], oend_of B S TU FD dbehind, hm, FD.kp, kbn_of FD fun _ _ _ _ _ _ us hl => match us, hl with | [_, _], _ => rfl⟩
abbrev Nis_number : List Str := ["value"]
theorem scis_number : FnScope Nis_number ["value"] (defScope (top 5)) := ⟨rfl, rfl, rfl, by decide +kernel, rfl, by decide +kernel, by decide +kernel⟩
def mis_number : CS := (cRet (cAnd (cUn (fIsi ["int"]) (cVar 0)) (cNot (cUn (fIsi ["bool"]) (cVar 0)))))
def Fis_number : Fn := runDef 1 1 (ioOf []) mis_number
theorem bis_number {P : Program} {w : World} {K : PySem.W.Frag} {mg : Str → Option Value} {base : Heap} {cl : Nat → Addr} (B : Blt mg) (S : Gs mg) (TU : Tus K mg) {f : Addr} {cdv : Value} {A : Around} {outer : List Env} {s : Shared} {H : Hp} {E : XK} (hr : Room 0 (A.deeper (envOfC "is_number" (defScope (top 5)) s.heap.objs.size f cdv)))  : SSs (BX P w K mg base Nis_number "is_number" (defScope (top 5)) f cdv A outer s H E) cl (ioOf []) (defBody (top 5)) mis_number :=
  (sss_one (ss_ret (q := true) (se_and (qa := true) (qb := true) (se_isi1 (qa := true) rfl B.isinstance (tyInt rfl B.int) (by decide) (dv 0)) (se_one (qa := true) (se_not (qa := true) (se_isi1 (qa := true) rfl B.isinstance (tyBool rfl B.bool) (by decide) (dv 0)))))))
theorem ois_number {P : Program} {w : World} {K : PySem.W.Frag} {mg : Str → Option Value} {base : Heap} {cl : Nat → Addr} (B : Blt mg) (S : Gs mg) (TU : Tus K mg) {f : Addr} {fd : FuncData} (FD : FnP K "is_number" "is_number" (top 5) [] f fd)  : FnOk P w K mg base CX0 1 f fd ["value"] (spM ⟨K, cl⟩ Fis_number) :=
  fn_defD (k := 0) (N := Nis_number) FD scis_number (ioOf_out (by decide)) (fun cdv A outer s H E hr => bis_number B S TU hr )
theorem dis_number {P : Program} {w : World} {K : PySem.W.Frag} {mg : Str → Option Value} {base : Heap} {cl : Nat → Addr} (B : Blt mg) (S : Gs mg) (TU : Tus K mg) {f : Addr} {fd : FuncData} (FD : FnP K "is_number" "is_number" (top 5) [] f fd) (hm : mg "is_number" = some (.ref f))  : Dn P w K mg base cl "is_number" 1 Fis_number :=
  ⟨f, fd, ["value"], ois_number B S TU FD , hm, FD.kp, FD.bindsN fun _ _ _ _ _ _ us hl => match us, hl with | [_], _ => rfl⟩
abbrev Nis_event : List Str := ["thing"]
theorem scis_event : FnScope Nis_event ["thing"] (defScope (top 6)) := ⟨rfl, rfl, rfl, by decide +kernel, rfl, by decide +kernel, by decide +kernel⟩
def mis_event : CS := (cSeq
  (cIfS (cOrT (cNotT (cTest (cUn (fIsi ["tuple"]) (cVar 0)))) (cOrT (cTest (cBin fNe true (cCallB fLen (cCons true (cVar 0) cNil)) (cC (.int 2)))) (cNotT (cTest (cUn (fIsi ["str"]) (cBin fIdx true (cVar 0) (cC (.int 0)))))))) (cRet (cC (.bl false))) cNext)
  (cRet (cAnd (cBin (fInT false) true (cBin fIdx true (cVar 0) (cC (.int 0))) (cC (.tup [.str "add", .str "floor", .str "cap"]))) (cCallV Fis_number (cCons true (cBin fIdx true (cVar 0) (cC (.int 1))) cNil)))))
def Fis_event : Fn := runDef 1 1 (ioOf []) mis_event
theorem bis_event {P : Program} {w : World} {K : PySem.W.Frag} {mg : Str → Option Value} {base : Heap} {cl : Nat → Addr} (B : Blt mg) (S : Gs mg) (TU : Tus K mg) {f : Addr} {cdv : Value} {A : Around} {outer : List Env} {s : Shared} {H : Hp} {E : XK} (hr : Room 1 (A.deeper (envOfC "is_event" (defScope (top 6)) s.heap.objs.size f cdv))) (dis_number : Dn P w K mg base cl "is_number" 1 Fis_number) : SSs (BX P w K mg base Nis_event "is_event" (defScope (top 6)) f cdv A outer s H E) cl (ioOf []) (defBody (top 6)) mis_event :=
  (sss_cons
  (ss_if (q := true) (SW.st (qa := true) (sw_or (qa := true) (qb := true) (st_not (qa := true) (st_val (qa := true) (se_isi1 (qa := true) rfl B.isinstance (tyTuple rfl B.tuple) (by decide) (dv 0)))) (sw_or (qa := true) (qb := true) (tNe' (qa := true) (qb := true) hr.units (dLen (qb := true) rfl B.len (sb_cons (qa := true) (qb := true) (dv 0) sb_nil)) se_int) (sw_or1 (qa := true) (st_not (qa := true) (st_val (qa := true) (se_isi1 (qa := true) rfl B.isinstance (tyStr rfl B.str) (by decide) (dIx (qa := true) (qb := true) (dv 0) se_int)))))))) (sss_one (ss_ret (q := true) se_bl)) sss_nil)
  (sss_one (ss_ret (q := true) (se_and (qa := true) (qb := true) (dInT (qa := true) (qb := true) (hu65 hr) (dIx (qa := true) (qb := true) (dv 0) se_int) (dgT (x := "WORDS") rfl TU.WORDS.choose_spec.1 TU.WORDS.choose_spec.2)) (se_one (qa := true) (se_callV (qb := true) (dis_number.fm hr (by decide)) rfl (sb_cons (qa := true) (qb := true) (dIx (qa := true) (qb := true) (dv 0) se_int) sb_nil)))))))
theorem ois_event {P : Program} {w : World} {K : PySem.W.Frag} {mg : Str → Option Value} {base : Heap} {cl : Nat → Addr} (B : Blt mg) (S : Gs mg) (TU : Tus K mg) {f : Addr} {fd : FuncData} (FD : FnP K "is_event" "is_event" (top 6) [] f fd) (dis_number : Dn P w K mg base cl "is_number" 1 Fis_number) : FnOk P w K mg base CX0 2 f fd ["thing"] (spM ⟨K, cl⟩ Fis_event) :=
  fn_defD (k := 1) (N := Nis_event) FD scis_event (ioOf_out (by decide)) (fun cdv A outer s H E hr => bis_event B S TU hr dis_number)
theorem dis_event {P : Program} {w : World} {K : PySem.W.Frag} {mg : Str → Option Value} {base : Heap} {cl : Nat → Addr} (B : Blt mg) (S : Gs mg) (TU : Tus K mg) {f : Addr} {fd : FuncData} (FD : FnP K "is_event" "is_event" (top 6) [] f fd) (hm : mg "is_event" = some (.ref f)) (dis_number : Dn P w K mg base cl "is_number" 1 Fis_number) : Dn P w K mg base cl "is_event" 2 Fis_event :=
  ⟨f, fd, ["thing"], ois_event B S TU FD dis_number, hm, FD.kp, FD.bindsN fun _ _ _ _ _ _ us hl => match us, hl with | [_], _ => rfl⟩
theorem kis_event_thing {P : Program} {w : World} {K : PySem.W.Frag} {mg : Str → Option Value} {base : Heap} {cl : Nat → Addr} (B : Blt mg) (S : Gs mg) (TU : Tus K mg) {f : Addr} {fd : FuncData} (FD : FnP K "is_event" "is_event" (top 6) [] f fd) (hm : mg "is_event" = some (.ref f)) (dis_number : Dn P w K mg base cl "is_number" 1 Fis_number) : Dk P w K mg base cl "is_event" ["thing"] [0] 2 Fis_event :=
  ⟨f, fd, ["thing"], ois_event B S TU FD dis_number, hm, FD.kp, kbn_of FD fun _ _ _ _ _ _ us hl => match us, hl with | [_], _ => rfl⟩
abbrev Nis_row : List Str := ["thing", "event"]
theorem scis_row : FnScope Nis_row ["thing"] (defScope (top 7)) := ⟨rfl, rfl, rfl, by decide +kernel, rfl, by decide +kernel, by decide +kernel⟩
def Eis_row_1 (ρ : En) : Res (B × En) := (cCallV Fis_event (cCons true (cVar 1) cNil)) ρ
def mis_row : CS := (cRet (cAnd (cUn (fIsi ["tuple"]) (cVar 0)) (cCallB fAll (cCons true (cLc [1] (iSeq (cVar 0)) (gSet 1) cYes Eis_row_1) cNil))))
def Fis_row : Fn := runDef 1 2 (ioOf []) mis_row
theorem bis_row {P : Program} {w : World} {K : PySem.W.Frag} {mg : Str → Option Value} {base : Heap} {cl : Nat → Addr} (B : Blt mg) (S : Gs mg) (TU : Tus K mg) {f : Addr} {cdv : Value} {A : Around} {outer : List Env} {s : Shared} {H : Hp} {E : XK} (hr : Room 2 (A.deeper (envOfC "is_row" (defScope (top 7)) s.heap.objs.size f cdv))) (dis_event : Dn P w K mg base cl "is_event" 2 Fis_event) : SSs (BX P w K mg base Nis_row "is_row" (defScope (top 7)) f cdv A outer s H E) cl (ioOf []) (defBody (top 7)) mis_row :=
  (sss_one (ss_ret (q := false) (se_and (qa := true) (qb := false) (se_isi1 (qa := true) rfl B.isinstance (tyTuple rfl B.tuple) (by decide) (dv 0)) (se_one (qa := false) (dAll (qb := false) rfl rfl B.all (sb_cons (qa := false) (qb := true) (se_lc (own := [("event", 1)]) (qt := true) (qe := true) rfl scis_row.nd (si_seq (qa := true) (dv 0)) (blkOk_by (by kernel_rfl)) (fun s H A l fp => (sg_name (i := 1) scis_row.nd rfl (by first | exact .inl rfl | exact .inr rfl) rfl)) (fun s H A l fp => sts_nil) (fun s H A l fp => (se_callV (qb := true) (dis_event.fm hr (by decide)).blk rfl (sb_cons (qa := true) (qb := true) (dv 1) sb_nil)))) sb_nil))))))
theorem ois_row {P : Program} {w : World} {K : PySem.W.Frag} {mg : Str → Option Value} {base : Heap} {cl : Nat → Addr} (B : Blt mg) (S : Gs mg) (TU : Tus K mg) {f : Addr} {fd : FuncData} (FD : FnP K "is_row" "is_row" (top 7) [] f fd) (dis_event : Dn P w K mg base cl "is_event" 2 Fis_event) : FnOk P w K mg base CX0 3 f fd ["thing"] (spM ⟨K, cl⟩ Fis_row) :=
  fn_defD (k := 2) (N := Nis_row) FD scis_row (ioOf_out (by decide)) (fun cdv A outer s H E hr => bis_row B S TU hr dis_event)
theorem dis_row {P : Program} {w : World} {K : PySem.W.Frag} {mg : Str → Option Value} {base : Heap} {cl : Nat → Addr} (B : Blt mg) (S : Gs mg) (TU : Tus K mg) {f : Addr} {fd : FuncData} (FD : FnP K "is_row" "is_row" (top 7) [] f fd) (hm : mg "is_row" = some (.ref f)) (dis_event : Dn P w K mg base cl "is_event" 2 Fis_event) : Dn P w K mg base cl "is_row" 3 Fis_row :=
  ⟨f, fd, ["thing"], ois_row B S TU FD dis_event, hm, FD.kp, FD.bindsN fun _ _ _ _ _ _ us hl => match us, hl with | [_], _ => rfl⟩
theorem kis_row_thing {P : Program} {w : World} {K : PySem.W.Frag} {mg : Str → Option Value} {base : Heap} {cl : Nat → Addr} (B : Blt mg) (S : Gs mg) (TU : Tus K mg) {f : Addr} {fd : FuncData} (FD : FnP K "is_row" "is_row" (top 7) [] f fd) (hm : mg "is_row" = some (.ref f)) (dis_event : Dn P w K mg base cl "is_event" 2 Fis_event) : Dk P w K mg base cl "is_row" ["thing"] [0] 3 Fis_row :=
  ⟨f, fd, ["thing"], ois_row B S TU FD dis_event, hm, FD.kp, kbn_of FD fun _ _ _ _ _ _ us hl => match us, hl with | [_], _ => rfl⟩
abbrev Nlevels_of : List Str := ["row", "start", "levels", "event"]
theorem sclevels_of : FnScope Nlevels_of ["row", "start"] (defScope (top 11)) := ⟨rfl, rfl, rfl, by decide +kernel, rfl, by decide +kernel, by decide +kernel⟩
def Llevels_of_1 (ρ : En) : Res (Fl × En) := (cDrop (cApp false (cVar 2) (cCallP false Fbehind (cCons true (cBin fIdx true (cVar 2) (cUn fNeg (cC (.int 1)))) (cCons true (cVar 3) cNil))))) ρ
def mlevels_of : CS := (cSeq
  (cAsg (gSet 2) (cLst false (cCons true (cVar 1) cNil)))
  (cSeq
  (cFor (iSeq (cVar 0)) (gSet 3) Llevels_of_1)
  (cRet (cVar 2))))
def Flevels_of : Fn := runDef 2 4 (ioOf []) mlevels_of
theorem blevels_of {P : Program} {w : World} {K : PySem.W.Frag} {mg : Str → Option Value} {base : Heap} {cl : Nat → Addr} (B : Blt mg) (S : Gs mg) (TU : Tus K mg) {f : Addr} {cdv : Value} {A : Around} {outer : List Env} {s : Shared} {H : Hp} {E : XK} (hr : Room 1 (A.deeper (envOfC "levels_of" (defScope (top 11)) s.heap.objs.size f cdv))) (dbehind : Dn P w K mg base cl "behind" 1 Fbehind) : SSs (BX P w K mg base Nlevels_of "levels_of" (defScope (top 11)) f cdv A outer s H E) cl (ioOf []) (defBody (top 11)) mlevels_of :=
  (sss_cons
  (ss_asg (q := false) (se_lst (qb := true) (qd := false) (sb_cons (qa := true) (qb := true) (dv 1) sb_nil)) (sg_name (i := 2) sclevels_of.nd rfl (by first | exact .inl rfl | exact .inr rfl) rfl))
  (sss_cons
  (ss_for PassesOwn.never rfl (si_seq (qa := true) (dv 0)) (sg_name (i := 3) sclevels_of.nd rfl (by first | exact .inl rfl | exact .inr rfl) rfl) (sss_one (ss_expr (q := false) (se_append (qo := true) (qa := false) (dv 2) (se_callP (qb := true) (qd := false) (dbehind.fm hr (by decide)) rfl (sb_cons (qa := true) (qb := true) (dIx (qa := true) (qb := true) (dv 2) (dNeg (qa := true) se_int)) (sb_cons (qa := true) (qb := true) (dv 3) sb_nil)))))))
  (sss_one (ss_ret (q := true) (dv 2)))))
theorem olevels_of {P : Program} {w : World} {K : PySem.W.Frag} {mg : Str → Option Value} {base : Heap} {cl : Nat → Addr} (B : Blt mg) (S : Gs mg) (TU : Tus K mg) {f : Addr} {fd : FuncData} (FD : FnP K "levels_of" "levels_of" (top 11) [] f fd) (dbehind : Dn P w K mg base cl "behind" 1 Fbehind) : FnOk P w K mg base CX0 2 f fd ["row", "start"] (spM ⟨K, cl⟩ Flevels_of) :=
  fn_defD (k := 1) (N := Nlevels_of) FD sclevels_of (ioOf_out (by decide)) (fun cdv A outer s H E hr => blevels_of B S TU hr dbehind)
theorem dlevels_of {P : Program} {w : World} {K : PySem.W.Frag} {mg : Str → Option Value} {base : Heap} {cl : Nat → Addr} (B : Blt mg) (S : Gs mg) (TU : Tus K mg) {f : Addr} {fd : FuncData} (FD : FnP K "levels_of" "levels_of" (top 11) [] f fd) (hm : mg "levels_of" = some (.ref f)) (dbehind : Dn P w K mg base cl "behind" 1 Fbehind) : Dn P w K mg base cl "levels_of" 2 Flevels_of :=
  ⟨f, fd, ["row", "start"], olevels_of B S TU FD dbehind, hm, FD.kp, FD.bindsN fun _ _ _ _ _ _ us hl => match us, hl with | [_, _], _ => rfl⟩
theorem klevels_of_row_start {P : Program} {w : World} {K : PySem.W.Frag} {mg : Str → Option Value} {base : Heap} {cl : Nat → Addr} (B : Blt mg) (S : Gs mg) (TU : Tus K mg) {f : Addr} {fd : FuncData} (FD : FnP K "levels_of" "levels_of" (top 11) [] f fd) (hm : mg "levels_of" = some (.ref f)) (dbehind : Dn P w K mg base cl "behind" 1 Fbehind) : Dk P w K mg base cl "levels_of" ["row", "start"] [0, 1] 2 Flevels_of :=
  ⟨f, fd, ["row", "start"], olevels_of B S TU FD dbehind, hm, FD.kp, kbn_of FD fun _ _ _ _ _ _ us hl => match us, hl with | [_, _], _ => rfl⟩
theorem klevels_of_start_row {P : Program} {w : World} {K : PySem.W.Frag} {mg : Str → Option Value} {base : Heap} {cl : Nat → Addr} (B : Blt mg) (S : Gs mg) (TU : Tus K mg) {f : Addr} {fd : FuncData} (FD : FnP K "levels_of" "levels_of" (top 11) [] f fd) (hm : mg "levels_of" = some (.ref f)) (dbehind : Dn P w K mg base cl "behind" 1 Fbehind) : Dk P w K mg base cl "levels_of" ["start", "row"] [1, 0] 2 Flevels_of :=
  ⟨f, fd, ["row", "start"], olevels_of B S TU FD dbehind, hm, FD.kp, kbn_of FD fun _ _ _ _ _ _ us hl => match us, hl with | [_, _], _ => rfl⟩
abbrev N_law_by_hand_right : List Str := ["_law_some", "_law_odd", "_law_rows_so", "_law_bad", "_law_verse", "_law_got", "_law_due", "_law_own"]
theorem sc_law_by_hand_right : FnScope N_law_by_hand_right [] (defScope (top 27)) := ⟨rfl, rfl, rfl, by decide +kernel, rfl, by decide +kernel, by decide +kernel⟩
def E_law_by_hand_right_1 (ρ : En) : Res (B × En) := (cCallV Fis_event (cCons true (cVar 7) cNil)) ρ
def E_law_by_hand_right_2 (ρ : En) : Res (B × En) := (cCallV Fis_row (cCons true (cVar 7) cNil)) ρ
def B_law_by_hand_right : List CS := [
  (cAsg (gSet 0) (cLst true (cCons true (cTup true (cCons true (cC (.str "add")) (cCons true (cC (.int 0)) cNil))) (cCons true (cTup true (cCons true (cC (.str "floor")) (cCons true (cUn fNeg (cC (.int 5))) cNil))) (cCons true (cTup true (cCons true (cC (.str "cap")) (cCons true (cBin fPow true (cC (.int 10)) (cC (.int 50))) cNil))) cNil))))),
  (cAsg (gSet 1) (cFz (cLst true (cCons true (cLst true (cCons true (cC (.str "add")) (cCons true (cC (.int 1)) cNil))) (cCons true (cTup true (cCons true (cC (.str "add")) cNil)) (cCons true (cTup true (cCons true (cC (.str "add")) (cCons true (cC (.int 1)) (cCons true (cC (.int 1)) cNil)))) (cCons true (cTup true (cCons true (cC (.str "Add")) (cCons true (cC (.int 1)) cNil))) (cCons true (cTup true (cCons true (cC (.str "cap ")) (cCons true (cC (.int 1)) cNil))) (cCons true (cTup true (cCons true (cC (.str "")) (cCons true (cC (.int 1)) cNil))) (cCons true (cTup true (cCons true (cC .non) (cCons true (cC (.int 1)) cNil))) (cCons true (cTup true (cCons true (cC (.bl true)) (cCons true (cC (.int 1)) cNil))) cNil))))))))))),
  (cAsg (gSet 1) (cBinF fAdd true (cVar 1) (cLst true (cCons true (cTup true (cCons true (cC (.int 0)) (cCons true (cC (.int 1)) cNil))) (cCons true (cTup true (cCons true (cC (.str "add")) (cCons true (cC .non) cNil))) cNil))))),
  (cAsg (gSet 1) (cBinF fAdd true (cVar 1) (cLst true (cCons true (cTup true (cCons true (cC (.str "add")) (cCons true (cC (.bl true)) cNil))) (cCons true (cTup true (cCons true (cC (.str "add")) (cCons true (cC (.str "1")) cNil))) (cCons true (cTup true (cCons true (cC (.str "add")) (cCons true (cTup true (cCons true (cC (.int 1)) cNil)) cNil))) (cCons true (cTup true (cCons true (cC (.str "add")) (cCons true (cLst true (cCons true (cC (.int 1)) cNil)) cNil))) (cCons true (cTup true (cCons true (cTup true (cCons true (cC (.str "add")) cNil)) (cCons true (cC (.int 1)) cNil))) (cCons true (cTup true cNil) (cCons true (cC .non) (cCons true (cC (.str "add")) cNil))))))))))),
  (cAsg (gSet 1) (cBinF fAdd true (cVar 1) (cLst true (cCons true (cC (.int 5)) (cCons true (cC (.bl true)) (cCons true (cLst true cNil) (cCons true (cTup true (cCons true (cC (.str "addfloor")) (cCons true (cC (.int 1)) cNil))) (cCons true (cTup true (cCons true (cC (.int 1)) (cCons true (cC (.str "add")) cNil))) (cCons true (cTup true (cCons true (cC (.str "floor")) (cCons true (cC (.bl false)) cNil))) (cCons true (cTup true (cCons true (cLst true (cCons true (cC (.str "add")) cNil)) (cCons true (cC (.int 2)) cNil))) cNil)))))))))),
  (cIfS (cNotT (cTest (cCallV (F_law_same 40) (cCons true (cLc [7] (iSeq (cBin fAdd true (cVar 0) (cVar 1))) (gSet 7) cYes E_law_by_hand_right_1) (cCons true (cBin fAdd true (cBin fMul true (cLst true (cCons true (cC (.bl true)) cNil)) (cC (.int 3))) (cBin fMul true (cLst true (cCons true (cC (.bl false)) cNil)) (cCallB fLen (cCons true (cVar 1) cNil)))) cNil))))) (cRet (cC (.bl false))) cNext),
  (cAsg (gSet 2) (cLst true (cCons true (cTup true cNil) (cCons true (cCallB fTuple (cCons true (cVar 0) cNil)) (cCons true (cBin fMul true (cTup true (cCons true (cBin fIdx true (cVar 0) (cC (.int 0))) cNil)) (cC (.int 61))) (cCons true (cTup true (cCons true (cBin fIdx true (cVar 0) (cC (.int 1))) cNil)) cNil)))))),
  (cAsg (gSet 3) (cLst true (cCons true (cCallB fList (cCons true (cVar 0) cNil)) (cCons true (cBin fIdx true (cVar 0) (cC (.int 0))) (cCons true (cTup true (cCons true (cBin fIdx true (cVar 0) (cC (.int 0))) (cCons true (cTup true cNil) cNil))) (cCons true (cTup true (cCons true (cBin fIdx true (cVar 0) (cC (.int 0))) (cCons true (cC .non) cNil))) (cCons true (cTup true (cCons true (cCallB fList (cCons true (cBin fIdx true (cVar 0) (cC (.int 0))) cNil)) cNil)) (cCons true (cTup true (cCons true (cTup true (cCons true (cBin fIdx true (cVar 0) (cC (.int 0))) cNil)) cNil)) (cCons true (cC .non) (cCons true (cC (.str "")) cNil)))))))))),
  (cAsg (gSet 3) (cBinF fAdd true (cVar 3) (cLst true (cCons true (cC (.int 0)) (cCons true (cC (.bl true)) (cCons true (cLst true (cCons true (cC (.str "add")) cNil)) cNil)))))),
  (cIfS (cNotT (cTest (cCallV (F_law_same 40) (cCons true (cLc [7] (iSeq (cBin fAdd true (cVar 2) (cVar 3))) (gSet 7) cYes E_law_by_hand_right_2) (cCons true (cBin fAdd true (cBin fMul true (cLst true (cCons true (cC (.bl true)) cNil)) (cC (.int 4))) (cBin fMul true (cLst true (cCons true (cC (.bl false)) cNil)) (cCallB fLen (cCons true (cVar 3) cNil)))) cNil))))) (cRet (cC (.bl false))) cNext),
  (cIfS (cNotT (cTest (cCallV (F_law_same 40) (cCons true (cLst true (cCons true (cCallKV Fis_event [0] 1 (cCons true (cBin fIdx true (cVar 0) (cC (.int 0))) cNil)) (cCons true (cCallKV Fis_row [0] 1 (cCons true (cTup true cNil) cNil)) (cCons true (cCallKV Fis_row [0] 1 (cCons true (cBin fIdx true (cVar 0) (cC (.int 0))) cNil)) cNil)))) (cCons true (cLst true (cCons true (cC (.bl true)) (cCons true (cC (.bl true)) (cCons true (cC (.bl false)) cNil)))) cNil))))) (cRet (cC (.bl false))) cNext),
  (cAsg (gSet 4) (cTup true (cCons true (cTup true (cCons true (cC (.str "add")) (cCons true (cC (.int 3)) cNil))) (cCons true (cTup true (cCons true (cC (.str "floor")) (cCons true (cC (.int 0)) cNil))) (cCons true (cTup true (cCons true (cC (.str "cap")) (cCons true (cC (.int 10)) cNil))) (cCons true (cTup true (cCons true (cC (.str "add")) (cCons true (cUn fNeg (cC (.int 4))) cNil))) cNil)))))),
  (cAsg (gSet 5) (cLst true (cCons false (cCallP false Fend_of (cCons true (cVar 4) (cCons true (cC (.int 5)) cNil))) (cCons false (cCallP false Flevels_of (cCons true (cVar 4) (cCons true (cC (.int 5)) cNil))) (cCons false (cCallP false Flevels_of (cCons true (cVar 4) (cCons true (cUn fNeg (cC (.int 9))) cNil))) (cCons true (cCallP false Flevels_of (cCons true (cVar 4) (cCons true (cC (.int 20)) cNil))) (cCons true (cCallP true Fend_of (cCons true (cTup true cNil) (cCons true (cC (.int 7)) cNil))) cNil))))))),
  (cAsg (gSet 5) (cBinF fAdd true (cVar 5) (cLst true (cCons true (cCallP true Flevels_of (cCons true (cTup true cNil) (cCons true (cUn fNeg (cC (.int 7))) cNil))) cNil)))),
  (cAsg (gSet 6) (cLst true (cCons true (cC (.int 4)) (cCons true (cLst true (cCons true (cC (.int 5)) (cCons true (cC (.int 8)) (cCons true (cC (.int 8)) (cCons true (cC (.int 8)) (cCons true (cC (.int 4)) cNil)))))) (cCons true (cLst true (cCons true (cUn fNeg (cC (.int 9))) (cCons true (cUn fNeg (cC (.int 6))) (cCons true (cC (.int 0)) (cCons true (cC (.int 0)) (cCons true (cUn fNeg (cC (.int 4))) cNil)))))) (cCons true (cLst true (cCons true (cC (.int 20)) (cCons true (cC (.int 23)) (cCons true (cC (.int 23)) (cCons true (cC (.int 10)) (cCons true (cC (.int 6)) cNil)))))) (cCons true (cC (.int 7)) (cCons true (cLst true (cCons true (cUn fNeg (cC (.int 7))) cNil)) cNil)))))))),
  (cAsg (gSet 5) (cBinF fAdd false (cVar 5) (cLst true (cCons true (cCallKP false Fend_of [1, 0] 2 (cCons true (cUn fNeg (cC (.int 3))) (cCons true (cLst true (cCons true (cLst true (cCons true (cC (.str "floor")) (cCons true (cUn fNeg (cC (.int 3))) cNil))) (cCons true (cLst true (cCons true (cC (.str "cap")) (cCons true (cUn fNeg (cC (.int 3))) cNil))) (cCons true (cLst true (cCons true (cC (.str "add")) (cCons true (cUn fNeg (cC (.int 1))) cNil))) cNil)))) cNil))) cNil)))),
  (cAsg (gSet 5) (cBinF fAdd false (cVar 5) (cLst true (cCons true (cCallKP false Flevels_of [0, 1] 2 (cCons true (cLst true (cCons true (cLst true (cCons true (cC (.str "cap")) (cCons true (cC (.int 2)) cNil))) cNil)) (cCons true (cC (.int 2)) cNil))) cNil)))),
  (cAsg (gSet 5) (cBinF fAdd true (cVar 5) (cLst true (cCons true (cCallP true Fend_of (cCons true (cTup true (cCons true (cTup true (cCons true (cC (.str "floor")) (cCons true (cC (.int 9)) cNil))) (cCons true (cTup true (cCons true (cC (.str "cap")) (cCons true (cC (.int 4)) cNil))) cNil))) (cCons true (cC (.int 100)) cNil))) (cCons true (cCallP true Fend_of (cCons true (cTup true (cCons true (cTup true (cCons true (cC (.str "cap")) (cCons true (cC (.int 4)) cNil))) (cCons true (cTup true (cCons true (cC (.str "floor")) (cCons true (cC (.int 9)) cNil))) cNil))) (cCons true (cC (.int 100)) cNil))) cNil))))),
  (cAsg (gSet 5) (cBinF fAdd true (cVar 5) (cLst true (cCons true (cCallP true Fend_of (cCons true (cBin fMul true (cVar 4) (cC (.int 15))) (cCons true (cC (.int 0)) cNil))) cNil))))]
def Z_law_by_hand_right : CS := (cRet (cCallV (F_law_same 40) (cCons false (cVar 5) (cCons true (cBinF fAdd true (cVar 6) (cLst true (cCons true (cUn fNeg (cC (.int 4))) (cCons true (cLst true (cCons true (cC (.int 2)) (cCons true (cC (.int 2)) cNil))) (cCons true (cC (.int 4)) (cCons true (cC (.int 9)) (cCons true (cUn fNeg (cC (.int 4))) cNil))))))) cNil))))
def m_law_by_hand_right : CS := chain B_law_by_hand_right Z_law_by_hand_right
def F_law_by_hand_right : Fn := runDef 0 8 (ioOf []) m_law_by_hand_right
theorem b_law_by_hand_right {P : Program} {w : World} {K : PySem.W.Frag} {mg : Str → Option Value} {base : Heap} {cl : Nat → Addr} (B : Blt mg) (S : Gs mg) (TU : Tus K mg) {f : Addr} {cdv : Value} {A : Around} {outer : List Env} {s : Shared} {H : Hp} {E : XK} (hr : Room 41 (A.deeper (envOfC "_law_by_hand_right" (defScope (top 27)) s.heap.objs.size f cdv))) (d_law_same : Dn P w K mg base cl "_law_same" 41 (F_law_same 40)) (dend_of : Dn P w K mg base cl "end_of" 2 Fend_of) (dis_event : Dn P w K mg base cl "is_event" 2 Fis_event) (dis_row : Dn P w K mg base cl "is_row" 3 Fis_row) (dlevels_of : Dn P w K mg base cl "levels_of" 2 Flevels_of) (kend_of_start_row : Dk P w K mg base cl "end_of" ["start", "row"] [1, 0] 2 Fend_of) (kis_event_thing : Dk P w K mg base cl "is_event" ["thing"] [0] 2 Fis_event) (kis_row_thing : Dk P w K mg base cl "is_row" ["thing"] [0] 3 Fis_row) (klevels_of_row_start : Dk P w K mg base cl "levels_of" ["row", "start"] [0, 1] 2 Flevels_of) : SSs (BX P w K mg base N_law_by_hand_right "_law_by_hand_right" (defScope (top 27)) f cdv A outer s H E) cl (ioOf []) (defBody (top 27)) m_law_by_hand_right :=
  (sss_cons
  (ss_asg (q := true) (se_lst (qb := true) (qd := true) (sb_cons (qa := true) (qb := true) (se_tup (qb := true) (qd := true) (sb_cons (qa := true) (qb := true) se_str (sb_cons (qa := true) (qb := true) se_int sb_nil))) (sb_cons (qa := true) (qb := true) (se_tup (qb := true) (qd := true) (sb_cons (qa := true) (qb := true) se_str (sb_cons (qa := true) (qb := true) (dNeg (qa := true) se_int) sb_nil))) (sb_cons (qa := true) (qb := true) (se_tup (qb := true) (qd := true) (sb_cons (qa := true) (qb := true) se_str (sb_cons (qa := true) (qb := true) (dPow (qa := true) (qb := true) se_int se_int) sb_nil))) sb_nil)))) (sg_name (i := 0) sc_law_by_hand_right.nd rfl (by first | exact .inl rfl | exact .inr rfl) rfl))
  (sss_cons
  (ss_asg (q := true) (se_fz (se_lst (qb := true) (qd := true) (sb_cons (qa := true) (qb := true) (se_lst (qb := true) (qd := true) (sb_cons (qa := true) (qb := true) se_str (sb_cons (qa := true) (qb := true) se_int sb_nil))) (sb_cons (qa := true) (qb := true) (se_tup (qb := true) (qd := true) (sb_cons (qa := true) (qb := true) se_str sb_nil)) (sb_cons (qa := true) (qb := true) (se_tup (qb := true) (qd := true) (sb_cons (qa := true) (qb := true) se_str (sb_cons (qa := true) (qb := true) se_int (sb_cons (qa := true) (qb := true) se_int sb_nil)))) (sb_cons (qa := true) (qb := true) (se_tup (qb := true) (qd := true) (sb_cons (qa := true) (qb := true) se_str (sb_cons (qa := true) (qb := true) se_int sb_nil))) (sb_cons (qa := true) (qb := true) (se_tup (qb := true) (qd := true) (sb_cons (qa := true) (qb := true) se_str (sb_cons (qa := true) (qb := true) se_int sb_nil))) (sb_cons (qa := true) (qb := true) (se_tup (qb := true) (qd := true) (sb_cons (qa := true) (qb := true) se_str (sb_cons (qa := true) (qb := true) se_int sb_nil))) (sb_cons (qa := true) (qb := true) (se_tup (qb := true) (qd := true) (sb_cons (qa := true) (qb := true) se_non (sb_cons (qa := true) (qb := true) se_int sb_nil))) (sb_cons (qa := true) (qb := true) (se_tup (qb := true) (qd := true) (sb_cons (qa := true) (qb := true) se_bl (sb_cons (qa := true) (qb := true) se_int sb_nil))) sb_nil)))))))))) (sg_name (i := 1) sc_law_by_hand_right.nd rfl (by first | exact .inl rfl | exact .inr rfl) rfl))
  (sss_cons
  (ss_asg (q := false) (se_binF (qa := true) (qb := true) opr_add ops_add (dv 1) (se_lst (qb := true) (qd := true) (sb_cons (qa := true) (qb := true) (se_tup (qb := true) (qd := true) (sb_cons (qa := true) (qb := true) se_int (sb_cons (qa := true) (qb := true) se_int sb_nil))) (sb_cons (qa := true) (qb := true) (se_tup (qb := true) (qd := true) (sb_cons (qa := true) (qb := true) se_str (sb_cons (qa := true) (qb := true) se_non sb_nil))) sb_nil)))) (sg_name (i := 1) sc_law_by_hand_right.nd rfl (by first | exact .inl rfl | exact .inr rfl) rfl))
  (sss_cons
  (ss_asg (q := false) (se_binF (qa := true) (qb := true) opr_add ops_add (dv 1) (se_lst (qb := true) (qd := true) (sb_cons (qa := true) (qb := true) (se_tup (qb := true) (qd := true) (sb_cons (qa := true) (qb := true) se_str (sb_cons (qa := true) (qb := true) se_bl sb_nil))) (sb_cons (qa := true) (qb := true) (se_tup (qb := true) (qd := true) (sb_cons (qa := true) (qb := true) se_str (sb_cons (qa := true) (qb := true) se_str sb_nil))) (sb_cons (qa := true) (qb := true) (se_tup (qb := true) (qd := true) (sb_cons (qa := true) (qb := true) se_str (sb_cons (qa := true) (qb := true) (se_tup (qb := true) (qd := true) (sb_cons (qa := true) (qb := true) se_int sb_nil)) sb_nil))) (sb_cons (qa := true) (qb := true) (se_tup (qb := true) (qd := true) (sb_cons (qa := true) (qb := true) se_str (sb_cons (qa := true) (qb := true) (se_lst (qb := true) (qd := true) (sb_cons (qa := true) (qb := true) se_int sb_nil)) sb_nil))) (sb_cons (qa := true) (qb := true) (se_tup (qb := true) (qd := true) (sb_cons (qa := true) (qb := true) (se_tup (qb := true) (qd := true) (sb_cons (qa := true) (qb := true) se_str sb_nil)) (sb_cons (qa := true) (qb := true) se_int sb_nil))) (sb_cons (qa := true) (qb := true) (se_tup (qb := true) (qd := true) sb_nil) (sb_cons (qa := true) (qb := true) se_non (sb_cons (qa := true) (qb := true) se_str sb_nil)))))))))) (sg_name (i := 1) sc_law_by_hand_right.nd rfl (by first | exact .inl rfl | exact .inr rfl) rfl))
  (sss_cons
  (ss_asg (q := false) (se_binF (qa := true) (qb := true) opr_add ops_add (dv 1) (se_lst (qb := true) (qd := true) (sb_cons (qa := true) (qb := true) se_int (sb_cons (qa := true) (qb := true) se_bl (sb_cons (qa := true) (qb := true) (se_lst (qb := true) (qd := true) sb_nil) (sb_cons (qa := true) (qb := true) (se_tup (qb := true) (qd := true) (sb_cons (qa := true) (qb := true) se_str (sb_cons (qa := true) (qb := true) se_int sb_nil))) (sb_cons (qa := true) (qb := true) (se_tup (qb := true) (qd := true) (sb_cons (qa := true) (qb := true) se_int (sb_cons (qa := true) (qb := true) se_str sb_nil))) (sb_cons (qa := true) (qb := true) (se_tup (qb := true) (qd := true) (sb_cons (qa := true) (qb := true) se_str (sb_cons (qa := true) (qb := true) se_bl sb_nil))) (sb_cons (qa := true) (qb := true) (se_tup (qb := true) (qd := true) (sb_cons (qa := true) (qb := true) (se_lst (qb := true) (qd := true) (sb_cons (qa := true) (qb := true) se_str sb_nil)) (sb_cons (qa := true) (qb := true) se_int sb_nil))) sb_nil))))))))) (sg_name (i := 1) sc_law_by_hand_right.nd rfl (by first | exact .inl rfl | exact .inr rfl) rfl))
  (sss_cons
  (ss_if (q := false) (st_not (qa := false) (st_val (qa := false) (se_callV (qb := false) (d_law_same.fm hr (by decide)) rfl (sb_cons (qa := false) (qb := true) (se_lc (own := [("_law_own", 7)]) (qt := true) (qe := true) rfl sc_law_by_hand_right.nd (si_seq (qa := true) (dAdd (qa := true) (qb := true) (dv 0) (dv 1))) (blkOk_by (by kernel_rfl)) (fun s H A l fp => (sg_name (i := 7) sc_law_by_hand_right.nd rfl (by first | exact .inl rfl | exact .inr rfl) rfl)) (fun s H A l fp => sts_nil) (fun s H A l fp => (se_callV (qb := true) (dis_event.fm hr (by decide)).blk rfl (sb_cons (qa := true) (qb := true) (dv 7) sb_nil)))) (sb_cons (qa := true) (qb := true) (dAdd (qa := true) (qb := true) (dMul (qa := true) (qb := true) (se_lst (qb := true) (qd := true) (sb_cons (qa := true) (qb := true) se_bl sb_nil)) se_int) (dMul (qa := true) (qb := true) (se_lst (qb := true) (qd := true) (sb_cons (qa := true) (qb := true) se_bl sb_nil)) (dLen (qb := true) rfl B.len (sb_cons (qa := true) (qb := true) (dv 1) sb_nil)))) sb_nil))))) (sss_one (ss_ret (q := true) se_bl)) sss_nil)
  (sss_cons
  (ss_asg (q := true) (se_lst (qb := true) (qd := true) (sb_cons (qa := true) (qb := true) (se_tup (qb := true) (qd := true) sb_nil) (sb_cons (qa := true) (qb := true) (dTuple (qb := true) rfl B.tuple (sb_cons (qa := true) (qb := true) (dv 0) sb_nil)) (sb_cons (qa := true) (qb := true) (dMul (qa := true) (qb := true) (se_tup (qb := true) (qd := true) (sb_cons (qa := true) (qb := true) (dIx (qa := true) (qb := true) (dv 0) se_int) sb_nil)) se_int) (sb_cons (qa := true) (qb := true) (se_tup (qb := true) (qd := true) (sb_cons (qa := true) (qb := true) (dIx (qa := true) (qb := true) (dv 0) se_int) sb_nil)) sb_nil))))) (sg_name (i := 2) sc_law_by_hand_right.nd rfl (by first | exact .inl rfl | exact .inr rfl) rfl))
  (sss_cons
  (ss_asg (q := true) (se_lst (qb := true) (qd := true) (sb_cons (qa := true) (qb := true) (dList (qb := true) rfl B.list (sb_cons (qa := true) (qb := true) (dv 0) sb_nil)) (sb_cons (qa := true) (qb := true) (dIx (qa := true) (qb := true) (dv 0) se_int) (sb_cons (qa := true) (qb := true) (se_tup (qb := true) (qd := true) (sb_cons (qa := true) (qb := true) (dIx (qa := true) (qb := true) (dv 0) se_int) (sb_cons (qa := true) (qb := true) (se_tup (qb := true) (qd := true) sb_nil) sb_nil))) (sb_cons (qa := true) (qb := true) (se_tup (qb := true) (qd := true) (sb_cons (qa := true) (qb := true) (dIx (qa := true) (qb := true) (dv 0) se_int) (sb_cons (qa := true) (qb := true) se_non sb_nil))) (sb_cons (qa := true) (qb := true) (se_tup (qb := true) (qd := true) (sb_cons (qa := true) (qb := true) (dList (qb := true) rfl B.list (sb_cons (qa := true) (qb := true) (dIx (qa := true) (qb := true) (dv 0) se_int) sb_nil)) sb_nil)) (sb_cons (qa := true) (qb := true) (se_tup (qb := true) (qd := true) (sb_cons (qa := true) (qb := true) (se_tup (qb := true) (qd := true) (sb_cons (qa := true) (qb := true) (dIx (qa := true) (qb := true) (dv 0) se_int) sb_nil)) sb_nil)) (sb_cons (qa := true) (qb := true) se_non (sb_cons (qa := true) (qb := true) se_str sb_nil))))))))) (sg_name (i := 3) sc_law_by_hand_right.nd rfl (by first | exact .inl rfl | exact .inr rfl) rfl))
  (sss_cons
  (ss_asg (q := false) (se_binF (qa := true) (qb := true) opr_add ops_add (dv 3) (se_lst (qb := true) (qd := true) (sb_cons (qa := true) (qb := true) se_int (sb_cons (qa := true) (qb := true) se_bl (sb_cons (qa := true) (qb := true) (se_lst (qb := true) (qd := true) (sb_cons (qa := true) (qb := true) se_str sb_nil)) sb_nil))))) (sg_name (i := 3) sc_law_by_hand_right.nd rfl (by first | exact .inl rfl | exact .inr rfl) rfl))
  (sss_cons
  (ss_if (q := false) (st_not (qa := false) (st_val (qa := false) (se_callV (qb := false) (d_law_same.fm hr (by decide)) rfl (sb_cons (qa := false) (qb := true) (se_lc (own := [("_law_own", 7)]) (qt := true) (qe := true) rfl sc_law_by_hand_right.nd (si_seq (qa := true) (dAdd (qa := true) (qb := true) (dv 2) (dv 3))) (blkOk_by (by kernel_rfl)) (fun s H A l fp => (sg_name (i := 7) sc_law_by_hand_right.nd rfl (by first | exact .inl rfl | exact .inr rfl) rfl)) (fun s H A l fp => sts_nil) (fun s H A l fp => (se_callV (qb := true) (dis_row.fm hr (by decide)).blk rfl (sb_cons (qa := true) (qb := true) (dv 7) sb_nil)))) (sb_cons (qa := true) (qb := true) (dAdd (qa := true) (qb := true) (dMul (qa := true) (qb := true) (se_lst (qb := true) (qd := true) (sb_cons (qa := true) (qb := true) se_bl sb_nil)) se_int) (dMul (qa := true) (qb := true) (se_lst (qb := true) (qd := true) (sb_cons (qa := true) (qb := true) se_bl sb_nil)) (dLen (qb := true) rfl B.len (sb_cons (qa := true) (qb := true) (dv 3) sb_nil)))) sb_nil))))) (sss_one (ss_ret (q := true) se_bl)) sss_nil)
  (sss_cons
  (ss_if (q := true) (st_not (qa := true) (st_val (qa := true) (se_callV (qb := true) (d_law_same.fm hr (by decide)) rfl (sb_cons (qa := true) (qb := true) (se_lst (qb := true) (qd := true) (sb_cons (qa := true) (qb := true) (se_callKV (qb := true) (kis_event_thing.fm hr (by decide)) rfl (sk_cons (qa := true) (qb := true) (dIx (qa := true) (qb := true) (dv 0) se_int) sk_nil)) (sb_cons (qa := true) (qb := true) (se_callKV (qb := true) (kis_row_thing.fm hr (by decide)) rfl (sk_cons (qa := true) (qb := true) (se_tup (qb := true) (qd := true) sb_nil) sk_nil)) (sb_cons (qa := true) (qb := true) (se_callKV (qb := true) (kis_row_thing.fm hr (by decide)) rfl (sk_cons (qa := true) (qb := true) (dIx (qa := true) (qb := true) (dv 0) se_int) sk_nil)) sb_nil)))) (sb_cons (qa := true) (qb := true) (se_lst (qb := true) (qd := true) (sb_cons (qa := true) (qb := true) se_bl (sb_cons (qa := true) (qb := true) se_bl (sb_cons (qa := true) (qb := true) se_bl sb_nil)))) sb_nil))))) (sss_one (ss_ret (q := true) se_bl)) sss_nil)
  (sss_cons
  (ss_asg (q := true) (se_tup (qb := true) (qd := true) (sb_cons (qa := true) (qb := true) (se_tup (qb := true) (qd := true) (sb_cons (qa := true) (qb := true) se_str (sb_cons (qa := true) (qb := true) se_int sb_nil))) (sb_cons (qa := true) (qb := true) (se_tup (qb := true) (qd := true) (sb_cons (qa := true) (qb := true) se_str (sb_cons (qa := true) (qb := true) se_int sb_nil))) (sb_cons (qa := true) (qb := true) (se_tup (qb := true) (qd := true) (sb_cons (qa := true) (qb := true) se_str (sb_cons (qa := true) (qb := true) se_int sb_nil))) (sb_cons (qa := true) (qb := true) (se_tup (qb := true) (qd := true) (sb_cons (qa := true) (qb := true) se_str (sb_cons (qa := true) (qb := true) (dNeg (qa := true) se_int) sb_nil))) sb_nil))))) (sg_name (i := 4) sc_law_by_hand_right.nd rfl (by first | exact .inl rfl | exact .inr rfl) rfl))
  (sss_cons
  (ss_asg (q := false) (se_lst (qb := false) (qd := true) (sb_cons (qa := false) (qb := false) (se_callP (qb := true) (qd := false) (dend_of.fm hr (by decide)) rfl (sb_cons (qa := true) (qb := true) (dv 4) (sb_cons (qa := true) (qb := true) se_int sb_nil))) (sb_cons (qa := false) (qb := false) (se_callP (qb := true) (qd := false) (dlevels_of.fm hr (by decide)) rfl (sb_cons (qa := true) (qb := true) (dv 4) (sb_cons (qa := true) (qb := true) se_int sb_nil))) (sb_cons (qa := false) (qb := false) (se_callP (qb := true) (qd := false) (dlevels_of.fm hr (by decide)) rfl (sb_cons (qa := true) (qb := true) (dv 4) (sb_cons (qa := true) (qb := true) (dNeg (qa := true) se_int) sb_nil))) (sb_cons (qa := false) (qb := true) (se_callP (qb := true) (qd := false) (dlevels_of.fm hr (by decide)) rfl (sb_cons (qa := true) (qb := true) (dv 4) (sb_cons (qa := true) (qb := true) se_int sb_nil))) (sb_cons (qa := true) (qb := true) (se_callP (qb := true) (qd := true) (dend_of.fm hr (by decide)) rfl (sb_cons (qa := true) (qb := true) (se_tup (qb := true) (qd := true) sb_nil) (sb_cons (qa := true) (qb := true) se_int sb_nil))) sb_nil)))))) (sg_name (i := 5) sc_law_by_hand_right.nd rfl (by first | exact .inl rfl | exact .inr rfl) rfl))
  (sss_cons
  (ss_asg (q := false) (se_binF (qa := true) (qb := true) opr_add ops_add (dv 5) (se_lst (qb := true) (qd := true) (sb_cons (qa := true) (qb := true) (se_callP (qb := true) (qd := true) (dlevels_of.fm hr (by decide)) rfl (sb_cons (qa := true) (qb := true) (se_tup (qb := true) (qd := true) sb_nil) (sb_cons (qa := true) (qb := true) (dNeg (qa := true) se_int) sb_nil))) sb_nil))) (sg_name (i := 5) sc_law_by_hand_right.nd rfl (by first | exact .inl rfl | exact .inr rfl) rfl))
  (sss_cons
  (ss_asg (q := true) (se_lst (qb := true) (qd := true) (sb_cons (qa := true) (qb := true) se_int (sb_cons (qa := true) (qb := true) (se_lst (qb := true) (qd := true) (sb_cons (qa := true) (qb := true) se_int (sb_cons (qa := true) (qb := true) se_int (sb_cons (qa := true) (qb := true) se_int (sb_cons (qa := true) (qb := true) se_int (sb_cons (qa := true) (qb := true) se_int sb_nil)))))) (sb_cons (qa := true) (qb := true) (se_lst (qb := true) (qd := true) (sb_cons (qa := true) (qb := true) (dNeg (qa := true) se_int) (sb_cons (qa := true) (qb := true) (dNeg (qa := true) se_int) (sb_cons (qa := true) (qb := true) se_int (sb_cons (qa := true) (qb := true) se_int (sb_cons (qa := true) (qb := true) (dNeg (qa := true) se_int) sb_nil)))))) (sb_cons (qa := true) (qb := true) (se_lst (qb := true) (qd := true) (sb_cons (qa := true) (qb := true) se_int (sb_cons (qa := true) (qb := true) se_int (sb_cons (qa := true) (qb := true) se_int (sb_cons (qa := true) (qb := true) se_int (sb_cons (qa := true) (qb := true) se_int sb_nil)))))) (sb_cons (qa := true) (qb := true) se_int (sb_cons (qa := true) (qb := true) (se_lst (qb := true) (qd := true) (sb_cons (qa := true) (qb := true) (dNeg (qa := true) se_int) sb_nil)) sb_nil))))))) (sg_name (i := 6) sc_law_by_hand_right.nd rfl (by first | exact .inl rfl | exact .inr rfl) rfl))
  (sss_cons
  (ss_asg (q := false) (se_binF (qa := true) (qb := false) opr_add ops_add (dv 5) (se_lst (qb := false) (qd := true) (sb_cons (qa := false) (qb := true) (se_callKP (qb := true) (qd := false) (kend_of_start_row.fm hr (by decide)) rfl (sk_cons (qa := true) (qb := true) (dNeg (qa := true) se_int) (sk_cons (qa := true) (qb := true) (se_lst (qb := true) (qd := true) (sb_cons (qa := true) (qb := true) (se_lst (qb := true) (qd := true) (sb_cons (qa := true) (qb := true) se_str (sb_cons (qa := true) (qb := true) (dNeg (qa := true) se_int) sb_nil))) (sb_cons (qa := true) (qb := true) (se_lst (qb := true) (qd := true) (sb_cons (qa := true) (qb := true) se_str (sb_cons (qa := true) (qb := true) (dNeg (qa := true) se_int) sb_nil))) (sb_cons (qa := true) (qb := true) (se_lst (qb := true) (qd := true) (sb_cons (qa := true) (qb := true) se_str (sb_cons (qa := true) (qb := true) (dNeg (qa := true) se_int) sb_nil))) sb_nil)))) sk_nil))) sb_nil))) (sg_name (i := 5) sc_law_by_hand_right.nd rfl (by first | exact .inl rfl | exact .inr rfl) rfl))
  (sss_cons
  (ss_asg (q := false) (se_binF (qa := true) (qb := false) opr_add ops_add (dv 5) (se_lst (qb := false) (qd := true) (sb_cons (qa := false) (qb := true) (se_callKP (qb := true) (qd := false) (klevels_of_row_start.fm hr (by decide)) rfl (sk_cons (qa := true) (qb := true) (se_lst (qb := true) (qd := true) (sb_cons (qa := true) (qb := true) (se_lst (qb := true) (qd := true) (sb_cons (qa := true) (qb := true) se_str (sb_cons (qa := true) (qb := true) se_int sb_nil))) sb_nil)) (sk_cons (qa := true) (qb := true) se_int sk_nil))) sb_nil))) (sg_name (i := 5) sc_law_by_hand_right.nd rfl (by first | exact .inl rfl | exact .inr rfl) rfl))
  (sss_cons
  (ss_asg (q := false) (se_binF (qa := true) (qb := true) opr_add ops_add (dv 5) (se_lst (qb := true) (qd := true) (sb_cons (qa := true) (qb := true) (se_callP (qb := true) (qd := true) (dend_of.fm hr (by decide)) rfl (sb_cons (qa := true) (qb := true) (se_tup (qb := true) (qd := true) (sb_cons (qa := true) (qb := true) (se_tup (qb := true) (qd := true) (sb_cons (qa := true) (qb := true) se_str (sb_cons (qa := true) (qb := true) se_int sb_nil))) (sb_cons (qa := true) (qb := true) (se_tup (qb := true) (qd := true) (sb_cons (qa := true) (qb := true) se_str (sb_cons (qa := true) (qb := true) se_int sb_nil))) sb_nil))) (sb_cons (qa := true) (qb := true) se_int sb_nil))) (sb_cons (qa := true) (qb := true) (se_callP (qb := true) (qd := true) (dend_of.fm hr (by decide)) rfl (sb_cons (qa := true) (qb := true) (se_tup (qb := true) (qd := true) (sb_cons (qa := true) (qb := true) (se_tup (qb := true) (qd := true) (sb_cons (qa := true) (qb := true) se_str (sb_cons (qa := true) (qb := true) se_int sb_nil))) (sb_cons (qa := true) (qb := true) (se_tup (qb := true) (qd := true) (sb_cons (qa := true) (qb := true) se_str (sb_cons (qa := true) (qb := true) se_int sb_nil))) sb_nil))) (sb_cons (qa := true) (qb := true) se_int sb_nil))) sb_nil)))) (sg_name (i := 5) sc_law_by_hand_right.nd rfl (by first | exact .inl rfl | exact .inr rfl) rfl))
  (sss_cons
  (ss_asg (q := false) (se_binF (qa := true) (qb := true) opr_add ops_add (dv 5) (se_lst (qb := true) (qd := true) (sb_cons (qa := true) (qb := true) (se_callP (qb := true) (qd := true) (dend_of.fm hr (by decide)) rfl (sb_cons (qa := true) (qb := true) (dMul (qa := true) (qb := true) (dv 4) se_int) (sb_cons (qa := true) (qb := true) se_int sb_nil))) sb_nil))) (sg_name (i := 5) sc_law_by_hand_right.nd rfl (by first | exact .inl rfl | exact .inr rfl) rfl))
  (sss_one (ss_ret (q := false) (se_callV (qb := false) (d_law_same.fm hr (by decide)) rfl (sb_cons (qa := true) (qb := false) (dv 5) (sb_cons (qa := false) (qb := true) (se_binF (qa := true) (qb := true) opr_add ops_add (dv 6) (se_lst (qb := true) (qd := true) (sb_cons (qa := true) (qb := true) (dNeg (qa := true) se_int) (sb_cons (qa := true) (qb := true) (se_lst (qb := true) (qd := true) (sb_cons (qa := true) (qb := true) se_int (sb_cons (qa := true) (qb := true) se_int sb_nil))) (sb_cons (qa := true) (qb := true) se_int (sb_cons (qa := true) (qb := true) se_int (sb_cons (qa := true) (qb := true) (dNeg (qa := true) se_int) sb_nil))))))) sb_nil))))))))))))))))))))))))
theorem o_law_by_hand_right {P : Program} {w : World} {K : PySem.W.Frag} {mg : Str → Option Value} {base : Heap} {cl : Nat → Addr} (B : Blt mg) (S : Gs mg) (TU : Tus K mg) {f : Addr} {fd : FuncData} (FD : FnP K "_law_by_hand_right" "_law_by_hand_right" (top 27) [] f fd) (d_law_same : Dn P w K mg base cl "_law_same" 41 (F_law_same 40)) (dend_of : Dn P w K mg base cl "end_of" 2 Fend_of) (dis_event : Dn P w K mg base cl "is_event" 2 Fis_event) (dis_row : Dn P w K mg base cl "is_row" 3 Fis_row) (dlevels_of : Dn P w K mg base cl "levels_of" 2 Flevels_of) (kend_of_start_row : Dk P w K mg base cl "end_of" ["start", "row"] [1, 0] 2 Fend_of) (kis_event_thing : Dk P w K mg base cl "is_event" ["thing"] [0] 2 Fis_event) (kis_row_thing : Dk P w K mg base cl "is_row" ["thing"] [0] 3 Fis_row) (klevels_of_row_start : Dk P w K mg base cl "levels_of" ["row", "start"] [0, 1] 2 Flevels_of) : FnOk P w K mg base CX0 42 f fd [] (spM ⟨K, cl⟩ F_law_by_hand_right) :=
  fn_defD (k := 41) (N := N_law_by_hand_right) FD sc_law_by_hand_right (ioOf_out (by decide)) (fun cdv A outer s H E hr => b_law_by_hand_right B S TU hr d_law_same dend_of dis_event dis_row dlevels_of kend_of_start_row kis_event_thing kis_row_thing klevels_of_row_start)
theorem d_law_by_hand_right {P : Program} {w : World} {K : PySem.W.Frag} {mg : Str → Option Value} {base : Heap} {cl : Nat → Addr} (B : Blt mg) (S : Gs mg) (TU : Tus K mg) {f : Addr} {fd : FuncData} (FD : FnP K "_law_by_hand_right" "_law_by_hand_right" (top 27) [] f fd) (hm : mg "_law_by_hand_right" = some (.ref f)) (d_law_same : Dn P w K mg base cl "_law_same" 41 (F_law_same 40)) (dend_of : Dn P w K mg base cl "end_of" 2 Fend_of) (dis_event : Dn P w K mg base cl "is_event" 2 Fis_event) (dis_row : Dn P w K mg base cl "is_row" 3 Fis_row) (dlevels_of : Dn P w K mg base cl "levels_of" 2 Flevels_of) (kend_of_start_row : Dk P w K mg base cl "end_of" ["start", "row"] [1, 0] 2 Fend_of) (kis_event_thing : Dk P w K mg base cl "is_event" ["thing"] [0] 2 Fis_event) (kis_row_thing : Dk P w K mg base cl "is_row" ["thing"] [0] 3 Fis_row) (klevels_of_row_start : Dk P w K mg base cl "levels_of" ["row", "start"] [0, 1] 2 Flevels_of) : Dn P w K mg base cl "_law_by_hand_right" 42 F_law_by_hand_right :=
  ⟨f, fd, [], o_law_by_hand_right B S TU FD d_law_same dend_of dis_event dis_row dlevels_of kend_of_start_row kis_event_thing kis_row_thing klevels_of_row_start, hm, FD.kp, FD.bindsN fun _ _ _ _ _ _ us hl => match us, hl with | [], _ => rfl⟩
abbrev N_law_cells : List Str := ["_law_script", "_law_top_so", "_law_cells_so", "_law_k", "_law_cell", "_law_at_so"]
theorem sc_law_cells : FnScope N_law_cells ["_law_script", "_law_top_so"] (defScope (top 15)) := ⟨rfl, rfl, rfl, by decide +kernel, rfl, by decide +kernel, by decide +kernel⟩
def L_law_cells_1 (ρ : En) : Res (Fl × En) := (cSeq
  (cAsg (gSet 5) (cBin fMod true (cCallB fInt (cCons true (cVar 3) cNil)) (cVar 1)))
  (cAsg (gSub true (cVar 2) (cVar 5)) (cBin fAdd true (cBin fIdx true (cVar 2) (cVar 5)) (cBin fMul true (cVar 4) (cBin fAdd true (cVar 3) (cC (.int 2))))))) ρ
def m_law_cells : CS := (cSeq
  (cAsg (gSet 2) (cOrL (cCallB fList (cCons true (cSl fSl true (cVar 0) oNone (oSome (cVar 1))) cNil)) (cLst true (cCons true (cC (.int 0)) cNil))))
  (cSeq
  (cFor (iEnumM (cSl fSl true (cVar 0) (oSome (cVar 1)) (oSome (cC (.int 63))))) (gUnp (gsCons (gSet 3) (gsCons (gSet 4) gsNil))) L_law_cells_1)
  (cRet (cVar 2))))
def F_law_cells : Fn := runDef 2 6 (ioOf []) m_law_cells
theorem b_law_cells {P : Program} {w : World} {K : PySem.W.Frag} {mg : Str → Option Value} {base : Heap} {cl : Nat → Addr} (B : Blt mg) (S : Gs mg) (TU : Tus K mg) {f : Addr} {cdv : Value} {A : Around} {outer : List Env} {s : Shared} {H : Hp} {E : XK} (hr : Room 0 (A.deeper (envOfC "_law_cells" (defScope (top 15)) s.heap.objs.size f cdv)))  : SSs (BX P w K mg base N_law_cells "_law_cells" (defScope (top 15)) f cdv A outer s H E) cl (ioOf []) (defBody (top 15)) m_law_cells :=
  (sss_cons
  (ss_asg (q := true) (se_orL (qa := true) (qb := true) (dList (qb := true) rfl B.list (sb_cons (qa := true) (qb := true) (dSl (qa := true) (ql := true) (qh := true) (dv 0) so_none (so_some (qa := true) (dv 1))) sb_nil)) (se_one (qa := true) (se_lst (qb := true) (qd := true) (sb_cons (qa := true) (qb := true) se_int sb_nil)))) (sg_name (i := 2) sc_law_cells.nd rfl (by first | exact .inl rfl | exact .inr rfl) rfl))
  (sss_cons
  (ss_for PassesOwn.never rfl (si_enum (qa := true) rfl B.enumerate (dSl (qa := true) (ql := true) (qh := true) (dv 0) (so_some (qa := true) (dv 1)) (so_some (qa := true) se_int))) (sg_unp rfl (sgs_cons (sg_name (i := 3) sc_law_cells.nd rfl (by first | exact .inl rfl | exact .inr rfl) rfl) (sgs_cons (sg_name (i := 4) sc_law_cells.nd rfl (by first | exact .inl rfl | exact .inr rfl) rfl) sgs_nil)) (gsCons_len (gsCons_len gsNil_len))) (sss_cons
  (ss_asg (q := true) (dMod (qa := true) (qb := true) (dInt (qb := true) rfl B.int (sb_cons (qa := true) (qb := true) (dv 3) sb_nil)) (dv 1)) (sg_name (i := 5) sc_law_cells.nd rfl (by first | exact .inl rfl | exact .inr rfl) rfl))
  (sss_one (ss_asg (q := true) (dAdd (qa := true) (qb := true) (dIx (qa := true) (qb := true) (dv 2) (dv 5)) (dMul (qa := true) (qb := true) (dv 4) (dAdd (qa := true) (qb := true) (dv 3) se_int))) (sg_sub (qo := true) (qi := true) (dv 2) (dv 5))))))
  (sss_one (ss_ret (q := true) (dv 2)))))
theorem o_law_cells {P : Program} {w : World} {K : PySem.W.Frag} {mg : Str → Option Value} {base : Heap} {cl : Nat → Addr} (B : Blt mg) (S : Gs mg) (TU : Tus K mg) {f : Addr} {fd : FuncData} (FD : FnP K "_law_cells" "_law_cells" (top 15) [] f fd)  : FnOk P w K mg base CX0 1 f fd ["_law_script", "_law_top_so"] (spM ⟨K, cl⟩ F_law_cells) :=
  fn_defD (k := 0) (N := N_law_cells) FD sc_law_cells (ioOf_out (by decide)) (fun cdv A outer s H E hr => b_law_cells B S TU hr )
theorem d_law_cells {P : Program} {w : World} {K : PySem.W.Frag} {mg : Str → Option Value} {base : Heap} {cl : Nat → Addr} (B : Blt mg) (S : Gs mg) (TU : Tus K mg) {f : Addr} {fd : FuncData} (FD : FnP K "_law_cells" "_law_cells" (top 15) [] f fd) (hm : mg "_law_cells" = some (.ref f))  : Dn P w K mg base cl "_law_cells" 1 F_law_cells :=
  ⟨f, fd, ["_law_script", "_law_top_so"], o_law_cells B S TU FD , hm, FD.kp, FD.bindsN fun _ _ _ _ _ _ us hl => match us, hl with | [_, _], _ => rfl⟩
abbrev N_law_take : List Str := ["_law_box_here", "_law_size_so", "_law_once", "_law_far", "_law_again", "_law_some"]
theorem sc_law_take : FnScope N_law_take ["_law_box_here", "_law_size_so"] (defScope (top 14)) := ⟨rfl, rfl, rfl, by decide +kernel, rfl, by decide +kernel, by decide +kernel⟩
def m_law_take : CS := (cSeq
  (cIfS (cTest (cBin fGt true (cBin fIdx true (cVar 0) (cC (.int 0))) (cC (.int 0)))) (cSeq
  (cAsg (gSet 5) (cBin fMod true (cCallB fInt (cCons true (cBin fIdx true (cVar 0) (cC (.int 0))) cNil)) (cVar 1)))
  (cSeq
  (cAsg (gSub true (cVar 0) (cC (.int 0))) (cBin fDiv true (cBin fIdx true (cVar 0) (cC (.int 0))) (cVar 1)))
  (cRet (cVar 5)))) cNext)
  (cSeq
  (cAsg (gSub true (cVar 0) (cC (.int 2))) (cBin fAdd true (cBin fIdx true (cVar 0) (cC (.int 2))) (cC (.int 1))))
  (cSeq
  (cAsg (gSet 2) (cBin fMod true (cCallB fInt (cCons true (cBin fMul true (cBin fAdd true (cBin fIdx true (cVar 0) (cC (.int 1))) (cBin fMul true (cC (.int 48271)) (cBin fIdx true (cVar 0) (cC (.int 2))))) (cBin fAdd true (cC (.int 39373)) (cBin fIdx true (cVar 0) (cC (.int 2))))) cNil)) (cC (.int 2147483647))))
  (cSeq
  (cAsg (gSet 3) (cBin fAdd true (cBin fMod true (cCallB fInt (cCons true (cVar 2) cNil)) (cC (.int 40009))) (cC (.int 7))))
  (cSeq
  (cAsg (gSet 4) (cBin fMod true (cCallB fInt (cCons true (cBin fMul true (cBin fAdd true (cBin fAdd true (cVar 2) (cBin fIdx true (cVar 0) (cC (.int 2)))) (cBin fDiv true (cBin fIdx true (cVar 0) (cC (.int 1))) (cC (.int 1000003)))) (cVar 3)) cNil)) (cC (.int 2147483629))))
  (cRet (cBin fMod true (cCallB fInt (cCons true (cBin fDiv true (cBin fMod true (cCallB fInt (cCons true (cBin fAdd true (cBin fMul true (cVar 4) (cC (.int 48271))) (cVar 2)) cNil)) (cC (.int 2147483587))) (cC (.int 64))) cNil)) (cVar 1))))))))
def F_law_take : Fn := runDef 2 6 (ioOf [0]) m_law_take
theorem b_law_take {P : Program} {w : World} {K : PySem.W.Frag} {mg : Str → Option Value} {base : Heap} {cl : Nat → Addr} (B : Blt mg) (S : Gs mg) (TU : Tus K mg) {f : Addr} {cdv : Value} {A : Around} {outer : List Env} {s : Shared} {H : Hp} {E : XK} (hr : Room 0 (A.deeper (envOfC "_law_take" (defScope (top 14)) s.heap.objs.size f cdv)))  : SSs (BX P w K mg base N_law_take "_law_take" (defScope (top 14)) f cdv A outer s H E) cl (ioOf [0]) (defBody (top 14)) m_law_take :=
  (sss_cons
  (ss_if (q := true) (tGt' (qa := true) (qb := true) (dIx (qa := true) (qb := true) (dv 0) se_int) se_int) (sss_cons
  (ss_asg (q := true) (dMod (qa := true) (qb := true) (dInt (qb := true) rfl B.int (sb_cons (qa := true) (qb := true) (dIx (qa := true) (qb := true) (dv 0) se_int) sb_nil)) (dv 1)) (sg_name (i := 5) sc_law_take.nd rfl (by first | exact .inl rfl | exact .inr rfl) rfl))
  (sss_cons
  (ss_asg (q := true) (dDiv (qa := true) (qb := true) (dIx (qa := true) (qb := true) (dv 0) se_int) (dv 1)) (sg_sub (qo := true) (qi := true) (dv 0) se_int))
  (sss_one (ss_ret (q := true) (dv 5))))) sss_nil)
  (sss_cons
  (ss_asg (q := true) (dAdd (qa := true) (qb := true) (dIx (qa := true) (qb := true) (dv 0) se_int) se_int) (sg_sub (qo := true) (qi := true) (dv 0) se_int))
  (sss_cons
  (ss_asg (q := true) (dMod (qa := true) (qb := true) (dInt (qb := true) rfl B.int (sb_cons (qa := true) (qb := true) (dMul (qa := true) (qb := true) (dAdd (qa := true) (qb := true) (dIx (qa := true) (qb := true) (dv 0) se_int) (dMul (qa := true) (qb := true) se_int (dIx (qa := true) (qb := true) (dv 0) se_int))) (dAdd (qa := true) (qb := true) se_int (dIx (qa := true) (qb := true) (dv 0) se_int))) sb_nil)) se_int) (sg_name (i := 2) sc_law_take.nd rfl (by first | exact .inl rfl | exact .inr rfl) rfl))
  (sss_cons
  (ss_asg (q := true) (dAdd (qa := true) (qb := true) (dMod (qa := true) (qb := true) (dInt (qb := true) rfl B.int (sb_cons (qa := true) (qb := true) (dv 2) sb_nil)) se_int) se_int) (sg_name (i := 3) sc_law_take.nd rfl (by first | exact .inl rfl | exact .inr rfl) rfl))
  (sss_cons
  (ss_asg (q := true) (dMod (qa := true) (qb := true) (dInt (qb := true) rfl B.int (sb_cons (qa := true) (qb := true) (dMul (qa := true) (qb := true) (dAdd (qa := true) (qb := true) (dAdd (qa := true) (qb := true) (dv 2) (dIx (qa := true) (qb := true) (dv 0) se_int)) (dDiv (qa := true) (qb := true) (dIx (qa := true) (qb := true) (dv 0) se_int) se_int)) (dv 3)) sb_nil)) se_int) (sg_name (i := 4) sc_law_take.nd rfl (by first | exact .inl rfl | exact .inr rfl) rfl))
  (sss_one (ss_ret (q := true) (dMod (qa := true) (qb := true) (dInt (qb := true) rfl B.int (sb_cons (qa := true) (qb := true) (dDiv (qa := true) (qb := true) (dMod (qa := true) (qb := true) (dInt (qb := true) rfl B.int (sb_cons (qa := true) (qb := true) (dAdd (qa := true) (qb := true) (dMul (qa := true) (qb := true) (dv 4) se_int) (dv 2)) sb_nil)) se_int) se_int) sb_nil)) (dv 1)))))))))
theorem o_law_take {P : Program} {w : World} {K : PySem.W.Frag} {mg : Str → Option Value} {base : Heap} {cl : Nat → Addr} (B : Blt mg) (S : Gs mg) (TU : Tus K mg) {f : Addr} {fd : FuncData} (FD : FnP K "_law_take" "_law_take" (top 14) [] f fd)  : FnOk P w K mg base CX0 1 f fd ["_law_box_here", "_law_size_so"] (spM ⟨K, cl⟩ F_law_take) :=
  fn_defD (k := 0) (N := N_law_take) FD sc_law_take (ioOf_out (by decide)) (fun cdv A outer s H E hr => b_law_take B S TU hr )
theorem d_law_take {P : Program} {w : World} {K : PySem.W.Frag} {mg : Str → Option Value} {base : Heap} {cl : Nat → Addr} (B : Blt mg) (S : Gs mg) (TU : Tus K mg) {f : Addr} {fd : FuncData} (FD : FnP K "_law_take" "_law_take" (top 14) [] f fd) (hm : mg "_law_take" = some (.ref f))  : Dn P w K mg base cl "_law_take" 1 F_law_take :=
  ⟨f, fd, ["_law_box_here", "_law_size_so"], o_law_take B S TU FD , hm, FD.kp, FD.bindsN fun _ _ _ _ _ _ us hl => match us, hl with | [_, _], _ => rfl⟩
abbrev N_law_of : List Str := ["_law_box_here", "_law_goods_so"]
theorem sc_law_of : FnScope N_law_of ["_law_box_here", "_law_goods_so"] (defScope (top 16)) := ⟨rfl, rfl, rfl, by decide +kernel, rfl, by decide +kernel, by decide +kernel⟩
def m_law_of : CS := (cRet (cBin fIdx false (cVar 1) (cCallIO F_law_take (ioOf [0]) (cCons true (cVar 0) (cCons true (cCallB fLen (cCons true (cVar 1) cNil)) cNil)))))
def F_law_of : Fn := runDef 2 2 (ioOf [0]) m_law_of
theorem b_law_of {P : Program} {w : World} {K : PySem.W.Frag} {mg : Str → Option Value} {base : Heap} {cl : Nat → Addr} (B : Blt mg) (S : Gs mg) (TU : Tus K mg) {f : Addr} {cdv : Value} {A : Around} {outer : List Env} {s : Shared} {H : Hp} {E : XK} (hr : Room 1 (A.deeper (envOfC "_law_of" (defScope (top 16)) s.heap.objs.size f cdv))) (d_law_take : Dn P w K mg base cl "_law_take" 1 F_law_take) : SSs (BX P w K mg base N_law_of "_law_of" (defScope (top 16)) f cdv A outer s H E) cl (ioOf [0]) (defBody (top 16)) m_law_of :=
  (sss_one (ss_ret (q := false) (dIx (qa := true) (qb := false) (dv 1) (se_callIO (qb := true) (io := (ioOf [0])) (d_law_take.fm hr (by decide)) rfl (sb_cons (qa := true) (qb := true) (dv 0) (sb_cons (qa := true) (qb := true) (dLen (qb := true) rfl B.len (sb_cons (qa := true) (qb := true) (dv 1) sb_nil)) sb_nil))))))
theorem o_law_of {P : Program} {w : World} {K : PySem.W.Frag} {mg : Str → Option Value} {base : Heap} {cl : Nat → Addr} (B : Blt mg) (S : Gs mg) (TU : Tus K mg) {f : Addr} {fd : FuncData} (FD : FnP K "_law_of" "_law_of" (top 16) [] f fd) (d_law_take : Dn P w K mg base cl "_law_take" 1 F_law_take) : FnOk P w K mg base CX0 2 f fd ["_law_box_here", "_law_goods_so"] (spM ⟨K, cl⟩ F_law_of) :=
  fn_defD (k := 1) (N := N_law_of) FD sc_law_of (ioOf_out (by decide)) (fun cdv A outer s H E hr => b_law_of B S TU hr d_law_take)
theorem d_law_of {P : Program} {w : World} {K : PySem.W.Frag} {mg : Str → Option Value} {base : Heap} {cl : Nat → Addr} (B : Blt mg) (S : Gs mg) (TU : Tus K mg) {f : Addr} {fd : FuncData} (FD : FnP K "_law_of" "_law_of" (top 16) [] f fd) (hm : mg "_law_of" = some (.ref f)) (d_law_take : Dn P w K mg base cl "_law_take" 1 F_law_take) : Dn P w K mg base cl "_law_of" 2 F_law_of :=
  ⟨f, fd, ["_law_box_here", "_law_goods_so"], o_law_of B S TU FD d_law_take, hm, FD.kp, FD.bindsN fun _ _ _ _ _ _ us hl => match us, hl with | [_, _], _ => rfl⟩
abbrev N_law_bent : List Str := ["_law_box_here", "_law_matter", "_law_deep", "_law_odd", "_law_spot", "_law_sort_so"]
theorem sc_law_bent : FnScope N_law_bent ["_law_box_here", "_law_matter", "_law_deep"] (defScope (top 26)) := ⟨rfl, rfl, rfl, by decide +kernel, rfl, by decide +kernel, by decide +kernel⟩
def m_law_bent (Fme : Fn) : CS := (cSeq
  (cAsg (gSet 3) (cLst true (cCons true (cC .non) (cCons true (cC (.bl true)) (cCons true (cC (.bl false)) (cCons true (cC (.int 0)) (cCons true (cUn fNeg (cC (.int 3))) (cCons true (cC (.str "")) (cCons true (cC (.str "add")) (cCons true (cC (.str "Cap")) (cCons true (cC (.str "floors")) (cCons true (cTup true cNil) (cCons true (cLst true cNil) (cCons true (cTup true (cCons true (cC (.str "add")) (cCons true (cC (.int 1)) cNil))) (cCons true (cTup true (cCons true (cC (.str "cap")) cNil)) (cCons true (cTup true (cCons true (cC (.str "add")) (cCons true (cC (.str "1")) cNil))) cNil))))))))))))))))
  (cSeq
  (cAsg (gSet 3) (cBinF fAdd true (cVar 3) (cLst true (cCons true (cTup true (cCons true (cC (.str "floor")) (cCons true (cC (.int 2)) cNil))) cNil))))
  (cSeq
  (cIfS (cOrT (cTest (cBin fEq true (cVar 2) (cC (.int 0)))) (cOrT (cNotT (cTest (cUn (fIsi ["tuple"]) (cVar 1)))) (cOrT (cTest (cBin fEq true (cVar 1) (cTup true cNil))) (cTest (cBin fEq true (cCallIO F_law_take (ioOf [0]) (cCons true (cVar 0) (cCons true (cC (.int 6)) cNil))) (cC (.int 0))))))) (cRet (cCallIO F_law_of (ioOf [0]) (cCons true (cVar 0) (cCons true (cVar 3) cNil)))) cNext)
  (cSeq
  (cPar2 4 5 (cCons false (cCallIO F_law_take (ioOf [0]) (cCons true (cVar 0) (cCons true (cCallB fLen (cCons true (cVar 1) cNil)) cNil))) (cCons true (cCallIO F_law_take (ioOf [0]) (cCons true (cVar 0) (cCons true (cC (.int 7)) cNil))) cNil)))
  (cSeq
  (cIfS (cTest (cBin fEq true (cVar 5) (cC (.int 0)))) (cRet (cBin fAdd true (cSl fSl true (cVar 1) oNone (oSome (cVar 4))) (cSl fSl true (cVar 1) (oSome (cBin fAdd true (cVar 4) (cC (.int 1)))) oNone))) cNext)
  (cSeq
  (cIfS (cTest (cBin fEq true (cVar 5) (cC (.int 1)))) (cRet (cBin fAdd true (cBin fAdd true (cSl fSl true (cVar 1) oNone (oSome (cVar 4))) (cTup true (cCons true (cBin fIdx true (cVar 1) (cVar 4)) cNil))) (cSl fSl true (cVar 1) (oSome (cVar 4)) oNone))) cNext)
  (cSeq
  (cIfS (cTest (cBin fEq true (cVar 5) (cC (.int 2)))) (cRet (cCallB fList (cCons true (cVar 1) cNil))) cNext)
  (cRet (cBin fAdd true (cBin fAdd false (cSl fSl true (cVar 1) oNone (oSome (cVar 4))) (cTup true (cCons true (cCallIO Fme (ioOf [0]) (cCons true (cVar 0) (cCons true (cBin fIdx true (cVar 1) (cVar 4)) (cCons true (cBin fSub true (cVar 2) (cC (.int 1))) cNil)))) cNil))) (cSl fSl true (cVar 1) (oSome (cBin fAdd true (cVar 4) (cC (.int 1)))) oNone))))))))))
def F_law_bent : Nat → Fn
  | 0 => errF
  | n + 1 => runDef 3 6 (ioOf [0]) (m_law_bent (F_law_bent n))
theorem b_law_bent {P : Program} {w : World} {K : PySem.W.Frag} {mg : Str → Option Value} {base : Heap} {cl : Nat → Addr} (B : Blt mg) (S : Gs mg) (TU : Tus K mg) {f : Addr} {cdv : Value} {A : Around} {outer : List Env} {s : Shared} {H : Hp} {E : XK} {n : Nat} {Fme : Fn} (hr : Room (n + 3) (A.deeper (envOfC "_law_bent" (defScope (top 26)) s.heap.objs.size f cdv))) (d_me : Dn P w K mg base cl "_law_bent" (n + 3) Fme) (d_law_of : Dn P w K mg base cl "_law_of" 2 F_law_of) (d_law_take : Dn P w K mg base cl "_law_take" 1 F_law_take) : SSs (BX P w K mg base N_law_bent "_law_bent" (defScope (top 26)) f cdv A outer s H E) cl (ioOf [0]) (defBody (top 26)) (m_law_bent Fme) :=
  (sss_cons
  (ss_asg (q := true) (se_lst (qb := true) (qd := true) (sb_cons (qa := true) (qb := true) se_non (sb_cons (qa := true) (qb := true) se_bl (sb_cons (qa := true) (qb := true) se_bl (sb_cons (qa := true) (qb := true) se_int (sb_cons (qa := true) (qb := true) (dNeg (qa := true) se_int) (sb_cons (qa := true) (qb := true) se_str (sb_cons (qa := true) (qb := true) se_str (sb_cons (qa := true) (qb := true) se_str (sb_cons (qa := true) (qb := true) se_str (sb_cons (qa := true) (qb := true) (se_tup (qb := true) (qd := true) sb_nil) (sb_cons (qa := true) (qb := true) (se_lst (qb := true) (qd := true) sb_nil) (sb_cons (qa := true) (qb := true) (se_tup (qb := true) (qd := true) (sb_cons (qa := true) (qb := true) se_str (sb_cons (qa := true) (qb := true) se_int sb_nil))) (sb_cons (qa := true) (qb := true) (se_tup (qb := true) (qd := true) (sb_cons (qa := true) (qb := true) se_str sb_nil)) (sb_cons (qa := true) (qb := true) (se_tup (qb := true) (qd := true) (sb_cons (qa := true) (qb := true) se_str (sb_cons (qa := true) (qb := true) se_str sb_nil))) sb_nil))))))))))))))) (sg_name (i := 3) sc_law_bent.nd rfl (by first | exact .inl rfl | exact .inr rfl) rfl))
  (sss_cons
  (ss_asg (q := false) (se_binF (qa := true) (qb := true) opr_add ops_add (dv 3) (se_lst (qb := true) (qd := true) (sb_cons (qa := true) (qb := true) (se_tup (qb := true) (qd := true) (sb_cons (qa := true) (qb := true) se_str (sb_cons (qa := true) (qb := true) se_int sb_nil))) sb_nil))) (sg_name (i := 3) sc_law_bent.nd rfl (by first | exact .inl rfl | exact .inr rfl) rfl))
  (sss_cons
  (ss_if (q := false) (SW.st (qa := false) (sw_or (qa := true) (qb := false) (tEq' (qa := true) (qb := true) hr.units (dv 2) se_int) (sw_or (qa := true) (qb := false) (st_not (qa := true) (st_val (qa := true) (se_isi1 (qa := true) rfl B.isinstance (tyTuple rfl B.tuple) (by decide) (dv 1)))) (sw_or (qa := true) (qb := false) (tEq' (qa := true) (qb := true) hr.units (dv 1) (se_tup (qb := true) (qd := true) sb_nil)) (sw_or1 (qa := false) (tEq' (qa := false) (qb := true) hr.units (se_callIO (qb := true) (io := (ioOf [0])) (d_law_take.fm hr (by omega)) rfl (sb_cons (qa := true) (qb := true) (dv 0) (sb_cons (qa := true) (qb := true) se_int sb_nil))) se_int)))))) (sss_one (ss_ret (q := false) (se_callIO (qb := true) (io := (ioOf [0])) (d_law_of.fm hr (by omega)) rfl (sb_cons (qa := true) (qb := true) (dv 0) (sb_cons (qa := true) (qb := true) (dv 3) sb_nil))))) sss_nil)
  (sss_cons
  (ss_par2 (i := 4) (j := 5) (qb := false) rfl sc_law_bent.nd rfl rfl (by decide) rfl rfl rfl rfl (sb_cons (qa := false) (qb := false) (se_callIO (qb := true) (io := (ioOf [0])) (d_law_take.fm hr (by omega)) rfl (sb_cons (qa := true) (qb := true) (dv 0) (sb_cons (qa := true) (qb := true) (dLen (qb := true) rfl B.len (sb_cons (qa := true) (qb := true) (dv 1) sb_nil)) sb_nil))) (sb_cons (qa := false) (qb := true) (se_callIO (qb := true) (io := (ioOf [0])) (d_law_take.fm hr (by omega)) rfl (sb_cons (qa := true) (qb := true) (dv 0) (sb_cons (qa := true) (qb := true) se_int sb_nil))) sb_nil)) rfl)
  (sss_cons
  (ss_if (q := true) (tEq' (qa := true) (qb := true) hr.units (dv 5) se_int) (sss_one (ss_ret (q := true) (dAdd (qa := true) (qb := true) (dSl (qa := true) (ql := true) (qh := true) (dv 1) so_none (so_some (qa := true) (dv 4))) (dSl (qa := true) (ql := true) (qh := true) (dv 1) (so_some (qa := true) (dAdd (qa := true) (qb := true) (dv 4) se_int)) so_none)))) sss_nil)
  (sss_cons
  (ss_if (q := true) (tEq' (qa := true) (qb := true) hr.units (dv 5) se_int) (sss_one (ss_ret (q := true) (dAdd (qa := true) (qb := true) (dAdd (qa := true) (qb := true) (dSl (qa := true) (ql := true) (qh := true) (dv 1) so_none (so_some (qa := true) (dv 4))) (se_tup (qb := true) (qd := true) (sb_cons (qa := true) (qb := true) (dIx (qa := true) (qb := true) (dv 1) (dv 4)) sb_nil))) (dSl (qa := true) (ql := true) (qh := true) (dv 1) (so_some (qa := true) (dv 4)) so_none)))) sss_nil)
  (sss_cons
  (ss_if (q := true) (tEq' (qa := true) (qb := true) hr.units (dv 5) se_int) (sss_one (ss_ret (q := true) (dList (qb := true) rfl B.list (sb_cons (qa := true) (qb := true) (dv 1) sb_nil)))) sss_nil)
  (sss_one (ss_ret (q := false) (dAdd (qa := false) (qb := true) (dAdd (qa := true) (qb := false) (dSl (qa := true) (ql := true) (qh := true) (dv 1) so_none (so_some (qa := true) (dv 4))) (se_tup (qb := false) (qd := true) (sb_cons (qa := false) (qb := true) (se_callIO (qb := true) (io := (ioOf [0])) (d_me.fm hr (by omega)) rfl (sb_cons (qa := true) (qb := true) (dv 0) (sb_cons (qa := true) (qb := true) (dIx (qa := true) (qb := true) (dv 1) (dv 4)) (sb_cons (qa := true) (qb := true) (dSub (qa := true) (qb := true) (dv 2) se_int) sb_nil)))) sb_nil))) (dSl (qa := true) (ql := true) (qh := true) (dv 1) (so_some (qa := true) (dAdd (qa := true) (qb := true) (dv 4) se_int)) so_none)))))))))))
theorem d_law_bent {P : Program} {w : World} {K : PySem.W.Frag} {mg : Str → Option Value} {base : Heap} {cl : Nat → Addr} (B : Blt mg) (S : Gs mg) (TU : Tus K mg) {f : Addr} {fd : FuncData} (FD : FnP K "_law_bent" "_law_bent" (top 26) [] f fd) (hm : mg "_law_bent" = some (.ref f)) (d_law_of : Dn P w K mg base cl "_law_of" 2 F_law_of) (d_law_take : Dn P w K mg base cl "_law_take" 1 F_law_take) : ∀ n : Nat, Dn P w K mg base cl "_law_bent" (n + 3) (F_law_bent n)
  | 0 => ⟨f, fd, ["_law_box_here", "_law_matter", "_law_deep"], fn_zero (k := 0 + 2) FD sc_law_bent, hm, FD.kp, FD.bindsN fun _ _ _ _ _ _ us hl => match us, hl with | [_, _, _], _ => rfl⟩
  | n + 1 => ⟨f, fd, ["_law_box_here", "_law_matter", "_law_deep"], (Nat.succ_add n 3).symm ▸ fn_def (k := n + 3) FD sc_law_bent (ioOf_out (by decide)) (fun cdv A outer s H E hr => b_law_bent B S TU hr (d_law_bent B S TU FD hm d_law_of d_law_take n) d_law_of d_law_take), hm, FD.kp, FD.bindsN fun _ _ _ _ _ _ us hl => match us, hl with | [_, _, _], _ => rfl⟩
abbrev N_law_number : List Str := ["_law_box_here", "_law_near"]
theorem sc_law_number : FnScope N_law_number ["_law_box_here"] (defScope (top 19)) := ⟨rfl, rfl, rfl, by decide +kernel, rfl, by decide +kernel, by decide +kernel⟩
def m_law_number : CS := (cSeq
  (cAsg (gSet 1) (cBin fSub true (cCallIO F_law_take (ioOf [0]) (cCons true (cVar 0) (cCons true (cC (.int 17)) cNil))) (cC (.int 8))))
  (cRet (cBin fMul false (cVar 1) (cCallIO F_law_of (ioOf [0]) (cCons true (cVar 0) (cCons true (cLst true (cCons true (cC (.int 1)) (cCons true (cC (.int 1)) (cCons true (cC (.int 1)) (cCons true (cC (.int 1)) (cCons true (cC (.int 1)) (cCons true (cC (.int 1)) (cCons true (cC (.int 1)) (cCons true (cBin fPow true (cC (.int 10)) (cC (.int 29))) cNil))))))))) cNil))))))
def F_law_number : Fn := runDef 1 2 (ioOf [0]) m_law_number
theorem b_law_number {P : Program} {w : World} {K : PySem.W.Frag} {mg : Str → Option Value} {base : Heap} {cl : Nat → Addr} (B : Blt mg) (S : Gs mg) (TU : Tus K mg) {f : Addr} {cdv : Value} {A : Around} {outer : List Env} {s : Shared} {H : Hp} {E : XK} (hr : Room 2 (A.deeper (envOfC "_law_number" (defScope (top 19)) s.heap.objs.size f cdv))) (d_law_of : Dn P w K mg base cl "_law_of" 2 F_law_of) (d_law_take : Dn P w K mg base cl "_law_take" 1 F_law_take) : SSs (BX P w K mg base N_law_number "_law_number" (defScope (top 19)) f cdv A outer s H E) cl (ioOf [0]) (defBody (top 19)) m_law_number :=
  (sss_cons
  (ss_asg (q := false) (dSub (qa := false) (qb := true) (se_callIO (qb := true) (io := (ioOf [0])) (d_law_take.fm hr (by decide)) rfl (sb_cons (qa := true) (qb := true) (dv 0) (sb_cons (qa := true) (qb := true) se_int sb_nil))) se_int) (sg_name (i := 1) sc_law_number.nd rfl (by first | exact .inl rfl | exact .inr rfl) rfl))
  (sss_one (ss_ret (q := false) (dMul (qa := true) (qb := false) (dv 1) (se_callIO (qb := true) (io := (ioOf [0])) (d_law_of.fm hr (by decide)) rfl (sb_cons (qa := true) (qb := true) (dv 0) (sb_cons (qa := true) (qb := true) (se_lst (qb := true) (qd := true) (sb_cons (qa := true) (qb := true) se_int (sb_cons (qa := true) (qb := true) se_int (sb_cons (qa := true) (qb := true) se_int (sb_cons (qa := true) (qb := true) se_int (sb_cons (qa := true) (qb := true) se_int (sb_cons (qa := true) (qb := true) se_int (sb_cons (qa := true) (qb := true) se_int (sb_cons (qa := true) (qb := true) (dPow (qa := true) (qb := true) se_int se_int) sb_nil))))))))) sb_nil)))))))
theorem o_law_number {P : Program} {w : World} {K : PySem.W.Frag} {mg : Str → Option Value} {base : Heap} {cl : Nat → Addr} (B : Blt mg) (S : Gs mg) (TU : Tus K mg) {f : Addr} {fd : FuncData} (FD : FnP K "_law_number" "_law_number" (top 19) [] f fd) (d_law_of : Dn P w K mg base cl "_law_of" 2 F_law_of) (d_law_take : Dn P w K mg base cl "_law_take" 1 F_law_take) : FnOk P w K mg base CX0 3 f fd ["_law_box_here"] (spM ⟨K, cl⟩ F_law_number) :=
  fn_defD (k := 2) (N := N_law_number) FD sc_law_number (ioOf_out (by decide)) (fun cdv A outer s H E hr => b_law_number B S TU hr d_law_of d_law_take)
theorem d_law_number {P : Program} {w : World} {K : PySem.W.Frag} {mg : Str → Option Value} {base : Heap} {cl : Nat → Addr} (B : Blt mg) (S : Gs mg) (TU : Tus K mg) {f : Addr} {fd : FuncData} (FD : FnP K "_law_number" "_law_number" (top 19) [] f fd) (hm : mg "_law_number" = some (.ref f)) (d_law_of : Dn P w K mg base cl "_law_of" 2 F_law_of) (d_law_take : Dn P w K mg base cl "_law_take" 1 F_law_take) : Dn P w K mg base cl "_law_number" 3 F_law_number :=
  ⟨f, fd, ["_law_box_here"], o_law_number B S TU FD d_law_of d_law_take, hm, FD.kp, FD.bindsN fun _ _ _ _ _ _ us hl => match us, hl with | [_], _ => rfl⟩
abbrev N_law_event : List Str := ["_law_box_here"]
theorem sc_law_event : FnScope N_law_event ["_law_box_here"] (defScope (top 20)) := ⟨rfl, rfl, rfl, by decide +kernel, rfl, by decide +kernel, by decide +kernel⟩
def m_law_event : CS := (cRet (cTup true (cCons false (cCallIO F_law_of (ioOf [0]) (cCons true (cVar 0) (cCons true (cLst true (cCons true (cC (.str "add")) (cCons true (cC (.str "add")) (cCons true (cC (.str "floor")) (cCons true (cC (.str "cap")) cNil))))) cNil))) (cCons true (cCallIO F_law_number (ioOf [0]) (cCons true (cVar 0) cNil)) cNil))))
def F_law_event : Fn := runDef 1 1 (ioOf [0]) m_law_event
theorem b_law_event {P : Program} {w : World} {K : PySem.W.Frag} {mg : Str → Option Value} {base : Heap} {cl : Nat → Addr} (B : Blt mg) (S : Gs mg) (TU : Tus K mg) {f : Addr} {cdv : Value} {A : Around} {outer : List Env} {s : Shared} {H : Hp} {E : XK} (hr : Room 3 (A.deeper (envOfC "_law_event" (defScope (top 20)) s.heap.objs.size f cdv))) (d_law_number : Dn P w K mg base cl "_law_number" 3 F_law_number) (d_law_of : Dn P w K mg base cl "_law_of" 2 F_law_of) : SSs (BX P w K mg base N_law_event "_law_event" (defScope (top 20)) f cdv A outer s H E) cl (ioOf [0]) (defBody (top 20)) m_law_event :=
  (sss_one (ss_ret (q := false) (se_tup (qb := false) (qd := true) (sb_cons (qa := false) (qb := false) (se_callIO (qb := true) (io := (ioOf [0])) (d_law_of.fm hr (by decide)) rfl (sb_cons (qa := true) (qb := true) (dv 0) (sb_cons (qa := true) (qb := true) (se_lst (qb := true) (qd := true) (sb_cons (qa := true) (qb := true) se_str (sb_cons (qa := true) (qb := true) se_str (sb_cons (qa := true) (qb := true) se_str (sb_cons (qa := true) (qb := true) se_str sb_nil))))) sb_nil))) (sb_cons (qa := false) (qb := true) (se_callIO (qb := true) (io := (ioOf [0])) (d_law_number.fm hr (by decide)) rfl (sb_cons (qa := true) (qb := true) (dv 0) sb_nil)) sb_nil)))))
theorem o_law_event {P : Program} {w : World} {K : PySem.W.Frag} {mg : Str → Option Value} {base : Heap} {cl : Nat → Addr} (B : Blt mg) (S : Gs mg) (TU : Tus K mg) {f : Addr} {fd : FuncData} (FD : FnP K "_law_event" "_law_event" (top 20) [] f fd) (d_law_number : Dn P w K mg base cl "_law_number" 3 F_law_number) (d_law_of : Dn P w K mg base cl "_law_of" 2 F_law_of) : FnOk P w K mg base CX0 4 f fd ["_law_box_here"] (spM ⟨K, cl⟩ F_law_event) :=
  fn_defD (k := 3) (N := N_law_event) FD sc_law_event (ioOf_out (by decide)) (fun cdv A outer s H E hr => b_law_event B S TU hr d_law_number d_law_of)
theorem d_law_event {P : Program} {w : World} {K : PySem.W.Frag} {mg : Str → Option Value} {base : Heap} {cl : Nat → Addr} (B : Blt mg) (S : Gs mg) (TU : Tus K mg) {f : Addr} {fd : FuncData} (FD : FnP K "_law_event" "_law_event" (top 20) [] f fd) (hm : mg "_law_event" = some (.ref f)) (d_law_number : Dn P w K mg base cl "_law_number" 3 F_law_number) (d_law_of : Dn P w K mg base cl "_law_of" 2 F_law_of) : Dn P w K mg base cl "_law_event" 4 F_law_event :=
  ⟨f, fd, ["_law_box_here"], o_law_event B S TU FD d_law_number d_law_of, hm, FD.kp, FD.bindsN fun _ _ _ _ _ _ us hl => match us, hl with | [_], _ => rfl⟩
abbrev N_law_events : List Str := ["_law_box_here", "_law_most_so", "_law_turn"]
theorem sc_law_events : FnScope N_law_events ["_law_box_here", "_law_most_so"] (defScope (top 21)) := ⟨rfl, rfl, rfl, by decide +kernel, rfl, by decide +kernel, by decide +kernel⟩
def E_law_events_1 (ρ : En) : Res (B × En) := (cCallIO F_law_event (ioOf [0]) (cCons true (cVar 0) cNil)) ρ
def m_law_events : CS := (cRet (cCallB fTuple (cCons true (cLc [2] (iRange1 (cCallIO F_law_take (ioOf [0]) (cCons true (cVar 0) (cCons true (cBin fAdd true (cVar 1) (cC (.int 1))) cNil)))) (gSet 2) cYes E_law_events_1) cNil)))
def F_law_events : Fn := runDef 2 3 (ioOf [0]) m_law_events
theorem b_law_events {P : Program} {w : World} {K : PySem.W.Frag} {mg : Str → Option Value} {base : Heap} {cl : Nat → Addr} (B : Blt mg) (S : Gs mg) (TU : Tus K mg) {f : Addr} {cdv : Value} {A : Around} {outer : List Env} {s : Shared} {H : Hp} {E : XK} (hr : Room 4 (A.deeper (envOfC "_law_events" (defScope (top 21)) s.heap.objs.size f cdv))) (d_law_event : Dn P w K mg base cl "_law_event" 4 F_law_event) (d_law_take : Dn P w K mg base cl "_law_take" 1 F_law_take) : SSs (BX P w K mg base N_law_events "_law_events" (defScope (top 21)) f cdv A outer s H E) cl (ioOf [0]) (defBody (top 21)) m_law_events :=
  (sss_one (ss_ret (q := false) (dTuple (qb := false) rfl B.tuple (sb_cons (qa := false) (qb := true) (se_lc (own := [("_law_turn", 2)]) (qt := true) (qe := false) rfl sc_law_events.nd (si_range1 (qa := false) rfl B.range (se_callIO (qb := true) (io := (ioOf [0])) (d_law_take.fm hr (by decide)) rfl (sb_cons (qa := true) (qb := true) (dv 0) (sb_cons (qa := true) (qb := true) (dAdd (qa := true) (qb := true) (dv 1) se_int) sb_nil)))) (blkOk_by (by kernel_rfl)) (fun s H A l fp => (sg_name (i := 2) sc_law_events.nd rfl (by first | exact .inl rfl | exact .inr rfl) rfl)) (fun s H A l fp => sts_nil) (fun s H A l fp => (se_callIO (qb := true) (io := (ioOf [0])) (d_law_event.fm hr (by decide)).blk rfl (sb_cons (qa := true) (qb := true) (dv 0) sb_nil)))) sb_nil))))
theorem o_law_events {P : Program} {w : World} {K : PySem.W.Frag} {mg : Str → Option Value} {base : Heap} {cl : Nat → Addr} (B : Blt mg) (S : Gs mg) (TU : Tus K mg) {f : Addr} {fd : FuncData} (FD : FnP K "_law_events" "_law_events" (top 21) [] f fd) (d_law_event : Dn P w K mg base cl "_law_event" 4 F_law_event) (d_law_take : Dn P w K mg base cl "_law_take" 1 F_law_take) : FnOk P w K mg base CX0 5 f fd ["_law_box_here", "_law_most_so"] (spM ⟨K, cl⟩ F_law_events) :=
  fn_defD (k := 4) (N := N_law_events) FD sc_law_events (ioOf_out (by decide)) (fun cdv A outer s H E hr => b_law_events B S TU hr d_law_event d_law_take)
theorem d_law_events {P : Program} {w : World} {K : PySem.W.Frag} {mg : Str → Option Value} {base : Heap} {cl : Nat → Addr} (B : Blt mg) (S : Gs mg) (TU : Tus K mg) {f : Addr} {fd : FuncData} (FD : FnP K "_law_events" "_law_events" (top 21) [] f fd) (hm : mg "_law_events" = some (.ref f)) (d_law_event : Dn P w K mg base cl "_law_event" 4 F_law_event) (d_law_take : Dn P w K mg base cl "_law_take" 1 F_law_take) : Dn P w K mg base cl "_law_events" 5 F_law_events :=
  ⟨f, fd, ["_law_box_here", "_law_most_so"], o_law_events B S TU FD d_law_event d_law_take, hm, FD.kp, FD.bindsN fun _ _ _ _ _ _ us hl => match us, hl with | [_, _], _ => rfl⟩
abbrev N_law_is_entry : List Str := ["_law_matter", "_law_fine"]
theorem sc_law_is_entry : FnScope N_law_is_entry ["_law_matter"] (defScope (top 24)) := ⟨rfl, rfl, rfl, by decide +kernel, rfl, by decide +kernel, by decide +kernel⟩
def m_law_is_entry : CS := (cSeq
  (cIfS (cOrT (cNotT (cTest (cUn (fIsi ["tuple"]) (cVar 0)))) (cOrT (cTest (cBin fNe true (cCallB fLen (cCons true (cVar 0) cNil)) (cC (.int 2)))) (cNotT (cTest (cUn (fIsi ["str"]) (cBin fIdx true (cVar 0) (cC (.int 0)))))))) (cRet (cC (.bl false))) cNext)
  (cSeq
  (cAsg (gSet 1) (cAnd (cUn (fIsi ["int"]) (cBin fIdx true (cVar 0) (cC (.int 1)))) (cNot (cUn (fIsi ["bool"]) (cBin fIdx true (cVar 0) (cC (.int 1)))))))
  (cRet (cAnd (cVar 1) (cOr (cBin fEq true (cBin fIdx true (cVar 0) (cC (.int 0))) (cC (.str "add"))) (cOr (cBin fEq true (cBin fIdx true (cVar 0) (cC (.int 0))) (cC (.str "floor"))) (cBin fEq true (cBin fIdx true (cVar 0) (cC (.int 0))) (cC (.str "cap")))))))))
def F_law_is_entry : Fn := runDef 1 2 (ioOf []) m_law_is_entry
theorem b_law_is_entry {P : Program} {w : World} {K : PySem.W.Frag} {mg : Str → Option Value} {base : Heap} {cl : Nat → Addr} (B : Blt mg) (S : Gs mg) (TU : Tus K mg) {f : Addr} {cdv : Value} {A : Around} {outer : List Env} {s : Shared} {H : Hp} {E : XK} (hr : Room 0 (A.deeper (envOfC "_law_is_entry" (defScope (top 24)) s.heap.objs.size f cdv)))  : SSs (BX P w K mg base N_law_is_entry "_law_is_entry" (defScope (top 24)) f cdv A outer s H E) cl (ioOf []) (defBody (top 24)) m_law_is_entry :=
  (sss_cons
  (ss_if (q := true) (SW.st (qa := true) (sw_or (qa := true) (qb := true) (st_not (qa := true) (st_val (qa := true) (se_isi1 (qa := true) rfl B.isinstance (tyTuple rfl B.tuple) (by decide) (dv 0)))) (sw_or (qa := true) (qb := true) (tNe' (qa := true) (qb := true) hr.units (dLen (qb := true) rfl B.len (sb_cons (qa := true) (qb := true) (dv 0) sb_nil)) se_int) (sw_or1 (qa := true) (st_not (qa := true) (st_val (qa := true) (se_isi1 (qa := true) rfl B.isinstance (tyStr rfl B.str) (by decide) (dIx (qa := true) (qb := true) (dv 0) se_int)))))))) (sss_one (ss_ret (q := true) se_bl)) sss_nil)
  (sss_cons
  (ss_asg (q := true) (se_and (qa := true) (qb := true) (se_isi1 (qa := true) rfl B.isinstance (tyInt rfl B.int) (by decide) (dIx (qa := true) (qb := true) (dv 0) se_int)) (se_one (qa := true) (se_not (qa := true) (se_isi1 (qa := true) rfl B.isinstance (tyBool rfl B.bool) (by decide) (dIx (qa := true) (qb := true) (dv 0) se_int))))) (sg_name (i := 1) sc_law_is_entry.nd rfl (by first | exact .inl rfl | exact .inr rfl) rfl))
  (sss_one (ss_ret (q := true) (se_and (qa := true) (qb := true) (dv 1) (se_one (qa := true) (se_or (qa := true) (qb := true) (dEq (qa := true) (qb := true) hr.units (dIx (qa := true) (qb := true) (dv 0) se_int) se_str) (se_or (qa := true) (qb := true) (dEq (qa := true) (qb := true) hr.units (dIx (qa := true) (qb := true) (dv 0) se_int) se_str) (se_one (qa := true) (dEq (qa := true) (qb := true) hr.units (dIx (qa := true) (qb := true) (dv 0) se_int) se_str))))))))))
theorem o_law_is_entry {P : Program} {w : World} {K : PySem.W.Frag} {mg : Str → Option Value} {base : Heap} {cl : Nat → Addr} (B : Blt mg) (S : Gs mg) (TU : Tus K mg) {f : Addr} {fd : FuncData} (FD : FnP K "_law_is_entry" "_law_is_entry" (top 24) [] f fd)  : FnOk P w K mg base CX0 1 f fd ["_law_matter"] (spM ⟨K, cl⟩ F_law_is_entry) :=
  fn_defD (k := 0) (N := N_law_is_entry) FD sc_law_is_entry (ioOf_out (by decide)) (fun cdv A outer s H E hr => b_law_is_entry B S TU hr )
theorem d_law_is_entry {P : Program} {w : World} {K : PySem.W.Frag} {mg : Str → Option Value} {base : Heap} {cl : Nat → Addr} (B : Blt mg) (S : Gs mg) (TU : Tus K mg) {f : Addr} {fd : FuncData} (FD : FnP K "_law_is_entry" "_law_is_entry" (top 24) [] f fd) (hm : mg "_law_is_entry" = some (.ref f))  : Dn P w K mg base cl "_law_is_entry" 1 F_law_is_entry :=
  ⟨f, fd, ["_law_matter"], o_law_is_entry B S TU FD , hm, FD.kp, FD.bindsN fun _ _ _ _ _ _ us hl => match us, hl with | [_], _ => rfl⟩
abbrev N_law_is_verse : List Str := ["_law_matter", "_law_bit"]
theorem sc_law_is_verse : FnScope N_law_is_verse ["_law_matter"] (defScope (top 25)) := ⟨rfl, rfl, rfl, by decide +kernel, rfl, by decide +kernel, by decide +kernel⟩
def E_law_is_verse_1 (ρ : En) : Res (B × En) := (cCallV F_law_is_entry (cCons true (cVar 1) cNil)) ρ
def m_law_is_verse : CS := (cRet (cAnd (cUn (fIsi ["tuple"]) (cVar 0)) (cCallB fAll (cCons true (cLc [1] (iSeq (cVar 0)) (gSet 1) cYes E_law_is_verse_1) cNil))))
def F_law_is_verse : Fn := runDef 1 2 (ioOf []) m_law_is_verse
theorem b_law_is_verse {P : Program} {w : World} {K : PySem.W.Frag} {mg : Str → Option Value} {base : Heap} {cl : Nat → Addr} (B : Blt mg) (S : Gs mg) (TU : Tus K mg) {f : Addr} {cdv : Value} {A : Around} {outer : List Env} {s : Shared} {H : Hp} {E : XK} (hr : Room 1 (A.deeper (envOfC "_law_is_verse" (defScope (top 25)) s.heap.objs.size f cdv))) (d_law_is_entry : Dn P w K mg base cl "_law_is_entry" 1 F_law_is_entry) : SSs (BX P w K mg base N_law_is_verse "_law_is_verse" (defScope (top 25)) f cdv A outer s H E) cl (ioOf []) (defBody (top 25)) m_law_is_verse :=
  (sss_one (ss_ret (q := false) (se_and (qa := true) (qb := false) (se_isi1 (qa := true) rfl B.isinstance (tyTuple rfl B.tuple) (by decide) (dv 0)) (se_one (qa := false) (dAll (qb := false) rfl rfl B.all (sb_cons (qa := false) (qb := true) (se_lc (own := [("_law_bit", 1)]) (qt := true) (qe := true) rfl sc_law_is_verse.nd (si_seq (qa := true) (dv 0)) (blkOk_by (by kernel_rfl)) (fun s H A l fp => (sg_name (i := 1) sc_law_is_verse.nd rfl (by first | exact .inl rfl | exact .inr rfl) rfl)) (fun s H A l fp => sts_nil) (fun s H A l fp => (se_callV (qb := true) (d_law_is_entry.fm hr (by decide)).blk rfl (sb_cons (qa := true) (qb := true) (dv 1) sb_nil)))) sb_nil))))))
theorem o_law_is_verse {P : Program} {w : World} {K : PySem.W.Frag} {mg : Str → Option Value} {base : Heap} {cl : Nat → Addr} (B : Blt mg) (S : Gs mg) (TU : Tus K mg) {f : Addr} {fd : FuncData} (FD : FnP K "_law_is_verse" "_law_is_verse" (top 25) [] f fd) (d_law_is_entry : Dn P w K mg base cl "_law_is_entry" 1 F_law_is_entry) : FnOk P w K mg base CX0 2 f fd ["_law_matter"] (spM ⟨K, cl⟩ F_law_is_verse) :=
  fn_defD (k := 1) (N := N_law_is_verse) FD sc_law_is_verse (ioOf_out (by decide)) (fun cdv A outer s H E hr => b_law_is_verse B S TU hr d_law_is_entry)
theorem d_law_is_verse {P : Program} {w : World} {K : PySem.W.Frag} {mg : Str → Option Value} {base : Heap} {cl : Nat → Addr} (B : Blt mg) (S : Gs mg) (TU : Tus K mg) {f : Addr} {fd : FuncData} (FD : FnP K "_law_is_verse" "_law_is_verse" (top 25) [] f fd) (hm : mg "_law_is_verse" = some (.ref f)) (d_law_is_entry : Dn P w K mg base cl "_law_is_entry" 1 F_law_is_entry) : Dn P w K mg base cl "_law_is_verse" 2 F_law_is_verse :=
  ⟨f, fd, ["_law_matter"], o_law_is_verse B S TU FD d_law_is_entry, hm, FD.kp, FD.bindsN fun _ _ _ _ _ _ us hl => match us, hl with | [_], _ => rfl⟩
abbrev N_law_lists : List Str := ["_law_matter", "_law_bit"]
theorem sc_law_lists : FnScope N_law_lists ["_law_matter"] (defScope (top 18)) := ⟨rfl, rfl, rfl, by decide +kernel, rfl, by decide +kernel, by decide +kernel⟩
def E_law_lists_1 (Fme : Fn) (ρ : En) : Res (B × En) := (cCallP false Fme (cCons true (cVar 1) cNil)) ρ
def m_law_lists (Fme : Fn) : CS := (cRet (cIf (cTest (cUn (fIsi ["list", "tuple"]) (cVar 0))) (cLc [1] (iSeq (cVar 0)) (gSet 1) cYes (E_law_lists_1 Fme)) (cVar 0)))
def F_law_lists : Nat → Fn
  | 0 => errF
  | n + 1 => runDef 1 2 (ioOf []) (m_law_lists (F_law_lists n))
theorem b_law_lists {P : Program} {w : World} {K : PySem.W.Frag} {mg : Str → Option Value} {base : Heap} {cl : Nat → Addr} (B : Blt mg) (S : Gs mg) (TU : Tus K mg) {f : Addr} {cdv : Value} {A : Around} {outer : List Env} {s : Shared} {H : Hp} {E : XK} {n : Nat} {Fme : Fn} (hr : Room (n + 1) (A.deeper (envOfC "_law_lists" (defScope (top 18)) s.heap.objs.size f cdv))) (d_me : Dn P w K mg base cl "_law_lists" (n + 1) Fme)  : SSs (BX P w K mg base N_law_lists "_law_lists" (defScope (top 18)) f cdv A outer s H E) cl (ioOf []) (defBody (top 18)) (m_law_lists Fme) :=
  (sss_one (ss_ret (q := false) (se_if (qc := true) (qa := false) (qb := true) (st_val (qa := true) (se_isi2 (qa := true) rfl B.isinstance (tyList rfl B.list) (tyTuple rfl B.tuple) (by decide) (by decide) (dv 0))) (se_lc (own := [("_law_bit", 1)]) (qt := true) (qe := false) rfl sc_law_lists.nd (si_seq (qa := true) (dv 0)) (blkOk_by (by kernel_rfl)) (fun s H A l fp => (sg_name (i := 1) sc_law_lists.nd rfl (by first | exact .inl rfl | exact .inr rfl) rfl)) (fun s H A l fp => sts_nil) (fun s H A l fp => (se_callP (qb := true) (qd := false) (d_me.fm hr (by omega)).blk rfl (sb_cons (qa := true) (qb := true) (dv 1) sb_nil)))) (dv 0))))
theorem d_law_lists {P : Program} {w : World} {K : PySem.W.Frag} {mg : Str → Option Value} {base : Heap} {cl : Nat → Addr} (B : Blt mg) (S : Gs mg) (TU : Tus K mg) {f : Addr} {fd : FuncData} (FD : FnP K "_law_lists" "_law_lists" (top 18) [] f fd) (hm : mg "_law_lists" = some (.ref f))  : ∀ n : Nat, Dn P w K mg base cl "_law_lists" (n + 1) (F_law_lists n)
  | 0 => ⟨f, fd, ["_law_matter"], fn_zero (k := 0 + 0) FD sc_law_lists, hm, FD.kp, FD.bindsN fun _ _ _ _ _ _ us hl => match us, hl with | [_], _ => rfl⟩
  | n + 1 => ⟨f, fd, ["_law_matter"], (Nat.succ_add n 1).symm ▸ fn_def (k := n + 1) FD sc_law_lists (ioOf_out (by decide)) (fun cdv A outer s H E hr => b_law_lists B S TU hr (d_law_lists B S TU FD hm  n) ), hm, FD.kp, FD.bindsN fun _ _ _ _ _ _ us hl => match us, hl with | [_], _ => rfl⟩
abbrev N_law_on : List Str := ["_law_level_so", "_law_entry"]
theorem sc_law_on : FnScope N_law_on ["_law_level_so", "_law_entry"] (defScope (top 22)) := ⟨rfl, rfl, rfl, by decide +kernel, rfl, by decide +kernel, by decide +kernel⟩
def m_law_on : CS := (cSeq
  (cIfS (cTest (cBin fEq true (cBin fIdx true (cVar 1) (cC (.int 0))) (cC (.str "add")))) (cRet (cBin fAdd true (cVar 0) (cBin fIdx true (cVar 1) (cC (.int 1))))) cNext)
  (cSeq
  (cIfS (cTest (cBin fEq true (cBin fIdx true (cVar 1) (cC (.int 0))) (cC (.str "floor")))) (cRet (cIf (cTest (cBin fLt true (cVar 0) (cBin fIdx true (cVar 1) (cC (.int 1))))) (cBin fIdx true (cVar 1) (cC (.int 1))) (cVar 0))) cNext)
  (cRet (cIf (cTest (cBin fGt true (cVar 0) (cBin fIdx true (cVar 1) (cC (.int 1))))) (cBin fIdx true (cVar 1) (cC (.int 1))) (cVar 0)))))
def F_law_on : Fn := runDef 2 2 (ioOf []) m_law_on
theorem b_law_on {P : Program} {w : World} {K : PySem.W.Frag} {mg : Str → Option Value} {base : Heap} {cl : Nat → Addr} (B : Blt mg) (S : Gs mg) (TU : Tus K mg) {f : Addr} {cdv : Value} {A : Around} {outer : List Env} {s : Shared} {H : Hp} {E : XK} (hr : Room 0 (A.deeper (envOfC "_law_on" (defScope (top 22)) s.heap.objs.size f cdv)))  : SSs (BX P w K mg base N_law_on "_law_on" (defScope (top 22)) f cdv A outer s H E) cl (ioOf []) (defBody (top 22)) m_law_on :=
  (sss_cons
  (ss_if (q := true) (tEq' (qa := true) (qb := true) hr.units (dIx (qa := true) (qb := true) (dv 1) se_int) se_str) (sss_one (ss_ret (q := true) (dAdd (qa := true) (qb := true) (dv 0) (dIx (qa := true) (qb := true) (dv 1) se_int)))) sss_nil)
  (sss_cons
  (ss_if (q := true) (tEq' (qa := true) (qb := true) hr.units (dIx (qa := true) (qb := true) (dv 1) se_int) se_str) (sss_one (ss_ret (q := true) (se_if (qc := true) (qa := true) (qb := true) (tLt' (qa := true) (qb := true) (dv 0) (dIx (qa := true) (qb := true) (dv 1) se_int)) (dIx (qa := true) (qb := true) (dv 1) se_int) (dv 0)))) sss_nil)
  (sss_one (ss_ret (q := true) (se_if (qc := true) (qa := true) (qb := true) (tGt' (qa := true) (qb := true) (dv 0) (dIx (qa := true) (qb := true) (dv 1) se_int)) (dIx (qa := true) (qb := true) (dv 1) se_int) (dv 0))))))
theorem o_law_on {P : Program} {w : World} {K : PySem.W.Frag} {mg : Str → Option Value} {base : Heap} {cl : Nat → Addr} (B : Blt mg) (S : Gs mg) (TU : Tus K mg) {f : Addr} {fd : FuncData} (FD : FnP K "_law_on" "_law_on" (top 22) [] f fd)  : FnOk P w K mg base CX0 1 f fd ["_law_level_so", "_law_entry"] (spM ⟨K, cl⟩ F_law_on) :=
  fn_defD (k := 0) (N := N_law_on) FD sc_law_on (ioOf_out (by decide)) (fun cdv A outer s H E hr => b_law_on B S TU hr )
theorem d_law_on {P : Program} {w : World} {K : PySem.W.Frag} {mg : Str → Option Value} {base : Heap} {cl : Nat → Addr} (B : Blt mg) (S : Gs mg) (TU : Tus K mg) {f : Addr} {fd : FuncData} (FD : FnP K "_law_on" "_law_on" (top 22) [] f fd) (hm : mg "_law_on" = some (.ref f))  : Dn P w K mg base cl "_law_on" 1 F_law_on :=
  ⟨f, fd, ["_law_level_so", "_law_entry"], o_law_on B S TU FD , hm, FD.kp, FD.bindsN fun _ _ _ _ _ _ us hl => match us, hl with | [_, _], _ => rfl⟩
abbrev N_law_trace : List Str := ["_law_row_so", "_law_begin", "_law_found", "_law_entry"]
theorem sc_law_trace : FnScope N_law_trace ["_law_row_so", "_law_begin"] (defScope (top 23)) := ⟨rfl, rfl, rfl, by decide +kernel, rfl, by decide +kernel, by decide +kernel⟩
def L_law_trace_1 (ρ : En) : Res (Fl × En) := (cDrop (cApp false (cVar 2) (cCallP false F_law_on (cCons true (cBin fIdx true (cVar 2) (cUn fNeg (cC (.int 1)))) (cCons true (cVar 3) cNil))))) ρ
def m_law_trace : CS := (cSeq
  (cAsg (gSet 2) (cLst false (cCons true (cVar 1) cNil)))
  (cSeq
  (cFor (iSeq (cVar 0)) (gSet 3) L_law_trace_1)
  (cRet (cVar 2))))
def F_law_trace : Fn := runDef 2 4 (ioOf []) m_law_trace
theorem b_law_trace {P : Program} {w : World} {K : PySem.W.Frag} {mg : Str → Option Value} {base : Heap} {cl : Nat → Addr} (B : Blt mg) (S : Gs mg) (TU : Tus K mg) {f : Addr} {cdv : Value} {A : Around} {outer : List Env} {s : Shared} {H : Hp} {E : XK} (hr : Room 1 (A.deeper (envOfC "_law_trace" (defScope (top 23)) s.heap.objs.size f cdv))) (d_law_on : Dn P w K mg base cl "_law_on" 1 F_law_on) : SSs (BX P w K mg base N_law_trace "_law_trace" (defScope (top 23)) f cdv A outer s H E) cl (ioOf []) (defBody (top 23)) m_law_trace :=
  (sss_cons
  (ss_asg (q := false) (se_lst (qb := true) (qd := false) (sb_cons (qa := true) (qb := true) (dv 1) sb_nil)) (sg_name (i := 2) sc_law_trace.nd rfl (by first | exact .inl rfl | exact .inr rfl) rfl))
  (sss_cons
  (ss_for PassesOwn.never rfl (si_seq (qa := true) (dv 0)) (sg_name (i := 3) sc_law_trace.nd rfl (by first | exact .inl rfl | exact .inr rfl) rfl) (sss_one (ss_expr (q := false) (se_append (qo := true) (qa := false) (dv 2) (se_callP (qb := true) (qd := false) (d_law_on.fm hr (by decide)) rfl (sb_cons (qa := true) (qb := true) (dIx (qa := true) (qb := true) (dv 2) (dNeg (qa := true) se_int)) (sb_cons (qa := true) (qb := true) (dv 3) sb_nil)))))))
  (sss_one (ss_ret (q := true) (dv 2)))))
theorem o_law_trace {P : Program} {w : World} {K : PySem.W.Frag} {mg : Str → Option Value} {base : Heap} {cl : Nat → Addr} (B : Blt mg) (S : Gs mg) (TU : Tus K mg) {f : Addr} {fd : FuncData} (FD : FnP K "_law_trace" "_law_trace" (top 23) [] f fd) (d_law_on : Dn P w K mg base cl "_law_on" 1 F_law_on) : FnOk P w K mg base CX0 2 f fd ["_law_row_so", "_law_begin"] (spM ⟨K, cl⟩ F_law_trace) :=
  fn_defD (k := 1) (N := N_law_trace) FD sc_law_trace (ioOf_out (by decide)) (fun cdv A outer s H E hr => b_law_trace B S TU hr d_law_on)
theorem d_law_trace {P : Program} {w : World} {K : PySem.W.Frag} {mg : Str → Option Value} {base : Heap} {cl : Nat → Addr} (B : Blt mg) (S : Gs mg) (TU : Tus K mg) {f : Addr} {fd : FuncData} (FD : FnP K "_law_trace" "_law_trace" (top 23) [] f fd) (hm : mg "_law_trace" = some (.ref f)) (d_law_on : Dn P w K mg base cl "_law_on" 1 F_law_on) : Dn P w K mg base cl "_law_trace" 2 F_law_trace :=
  ⟨f, fd, ["_law_row_so", "_law_begin"], o_law_trace B S TU FD d_law_on, hm, FD.kp, FD.bindsN fun _ _ _ _ _ _ us hl => match us, hl with | [_, _], _ => rfl⟩
abbrev N_law_right : List Str := ["_law_box_here", "_law_turn", "_law_due", "_law_told", "_law_got", "_law_own", "_law_row_so", "_law_begin", "_law_lap"]
theorem sc_law_right : FnScope N_law_right ["_law_box_here"] (defScope (top 28)) := ⟨rfl, rfl, rfl, by decide +kernel, rfl, by decide +kernel, by decide +kernel⟩
def E_law_right_1 (ρ : En) : Res (B × En) := (cCallIO (F_law_bent 40) (ioOf [0]) (cCons true (cVar 0) (cCons true (cVar 6) (cCons true (cC (.int 3)) cNil)))) ρ
def L_law_right_1 (ρ : En) : Res (Fl × En) := (cIfS (cNotT (cTest (cCallV (F_law_same 40) (cCons true (cLst true (cCons true (cCallV Fis_row (cCons true (cVar 5) cNil)) (cCons true (cCallV Fis_event (cCons true (cVar 5) cNil)) cNil))) (cCons true (cLst true (cCons true (cCallV F_law_is_verse (cCons true (cVar 5) cNil)) (cCons true (cCallV F_law_is_entry (cCons true (cVar 5) cNil)) cNil))) cNil))))) (cRet (cC (.bl false))) cNext) ρ
def L_law_right_2 (ρ : En) : Res (Fl × En) := (cSeq
  (cAsg (gUnp (gsCons (gSet 6) (gsCons (gSet 7) gsNil))) (cTup true (cCons false (cCallIO F_law_events (ioOf [0]) (cCons true (cVar 0) (cCons true (cC (.int 12)) cNil))) (cCons true (cCallIO F_law_number (ioOf [0]) (cCons true (cVar 0) cNil)) cNil))))
  (cSeq
  (cAsg (gSet 2) (cCallP false F_law_trace (cCons true (cVar 6) (cCons true (cVar 7) cNil))))
  (cSeq
  (cAsg (gSet 3) (cCallP false Flevels_of (cCons true (cVar 6) (cCons true (cVar 7) cNil))))
  (cSeq
  (cLend 3 (kpBut [4]) (cAsg (gSet 4) (cLst false (cCons false (cVar 3) (cCons false (cCallP false Flevels_of (cCons true (cCallP false (F_law_lists 40) (cCons true (cVar 6) cNil)) (cCons true (cVar 7) cNil))) (cCons true (cCallP false Fend_of (cCons true (cVar 6) (cCons true (cVar 7) cNil))) cNil)))))
  (cIfS (cNotT (cTest (cCallV (F_law_same 40) (cCons false (cVar 4) (cCons true (cLst false (cCons true (cVar 2) (cCons true (cVar 2) (cCons true (cBin fIdx true (cVar 2) (cUn fNeg (cC (.int 1)))) cNil)))) cNil))))) (cRet (cC (.bl false))) cNext))
  (cSeq
  (cDrop (cApp true (cVar 3) (cC (.str "more"))))
  (cSeq
  (cAsg (gSet 4) (cLst true (cCons false (cCallKP false Flevels_of [1, 0] 2 (cCons true (cVar 7) (cCons true (cVar 6) cNil))) (cCons true (cCallP false Fend_of (cCons true (cCallP false (F_law_lists 40) (cCons true (cVar 6) cNil)) (cCons true (cVar 7) cNil))) cNil))))
  (cSeq
  (cIfS (cNotT (cTest (cCallV (F_law_same 40) (cCons false (cVar 4) (cCons true (cLst false (cCons true (cVar 2) (cCons true (cBin fIdx true (cVar 2) (cUn fNeg (cC (.int 1)))) cNil))) cNil))))) (cRet (cC (.bl false))) cNext)
  (cFor (iSeq (cBin fAdd true (cBin fAdd false (cLst false (cCons true (cVar 6) (cCons true (cCallB fList (cCons true (cVar 6) cNil)) cNil))) (cLc [8] (iRange1 (cC (.int 4))) (gSet 8) cYes E_law_right_1)) (cCallB fList (cCons true (cSl fSl true (cVar 6) oNone (oSome (cC (.int 2)))) cNil)))) (gSet 5) L_law_right_1)))))))) ρ
def m_law_right : CS := (cSeq
  (cFor (iRange1 (cC (.int 6))) (gSet 1) L_law_right_2)
  (cRet (cC (.bl true))))
def F_law_right : Fn := runDef 1 9 (ioOf [0]) m_law_right
theorem b_law_right {P : Program} {w : World} {K : PySem.W.Frag} {mg : Str → Option Value} {base : Heap} {cl : Nat → Addr} (B : Blt mg) (S : Gs mg) (TU : Tus K mg) {f : Addr} {cdv : Value} {A : Around} {outer : List Env} {s : Shared} {H : Hp} {E : XK} (hr : Room 43 (A.deeper (envOfC "_law_right" (defScope (top 28)) s.heap.objs.size f cdv))) (d_law_bent : Dn P w K mg base cl "_law_bent" 43 (F_law_bent 40)) (d_law_events : Dn P w K mg base cl "_law_events" 5 F_law_events) (d_law_is_entry : Dn P w K mg base cl "_law_is_entry" 1 F_law_is_entry) (d_law_is_verse : Dn P w K mg base cl "_law_is_verse" 2 F_law_is_verse) (d_law_lists : Dn P w K mg base cl "_law_lists" 41 (F_law_lists 40)) (d_law_number : Dn P w K mg base cl "_law_number" 3 F_law_number) (d_law_same : Dn P w K mg base cl "_law_same" 41 (F_law_same 40)) (d_law_trace : Dn P w K mg base cl "_law_trace" 2 F_law_trace) (dend_of : Dn P w K mg base cl "end_of" 2 Fend_of) (dis_event : Dn P w K mg base cl "is_event" 2 Fis_event) (dis_row : Dn P w K mg base cl "is_row" 3 Fis_row) (dlevels_of : Dn P w K mg base cl "levels_of" 2 Flevels_of) (klevels_of_start_row : Dk P w K mg base cl "levels_of" ["start", "row"] [1, 0] 2 Flevels_of) : SSs (BX P w K mg base N_law_right "_law_right" (defScope (top 28)) f cdv A outer s H E) cl (ioOf [0]) (defBody (top 28)) m_law_right :=
  (sss_cons
  (ss_for PassesOwn.never rfl (si_range1 (qa := true) rfl B.range se_int) (sg_name (i := 1) sc_law_right.nd rfl (by first | exact .inl rfl | exact .inr rfl) rfl) (sss_cons
  (ss_asg (q := false) (se_tup (qb := false) (qd := true) (sb_cons (qa := false) (qb := false) (se_callIO (qb := true) (io := (ioOf [0])) (d_law_events.fm hr (by decide)) rfl (sb_cons (qa := true) (qb := true) (dv 0) (sb_cons (qa := true) (qb := true) se_int sb_nil))) (sb_cons (qa := false) (qb := true) (se_callIO (qb := true) (io := (ioOf [0])) (d_law_number.fm hr (by decide)) rfl (sb_cons (qa := true) (qb := true) (dv 0) sb_nil)) sb_nil))) (sg_unp rfl (sgs_cons (sg_name (i := 6) sc_law_right.nd rfl (by first | exact .inl rfl | exact .inr rfl) rfl) (sgs_cons (sg_name (i := 7) sc_law_right.nd rfl (by first | exact .inl rfl | exact .inr rfl) rfl) sgs_nil)) (gsCons_len (gsCons_len gsNil_len))))
  (sss_cons
  (ss_asg (q := false) (se_callP (qb := true) (qd := false) (d_law_trace.fm hr (by decide)) rfl (sb_cons (qa := true) (qb := true) (dv 6) (sb_cons (qa := true) (qb := true) (dv 7) sb_nil))) (sg_name (i := 2) sc_law_right.nd rfl (by first | exact .inl rfl | exact .inr rfl) rfl))
  (sss_cons
  (ss_asg (q := false) (se_callP (qb := true) (qd := false) (dlevels_of.fm hr (by decide)) rfl (sb_cons (qa := true) (qb := true) (dv 6) (sb_cons (qa := true) (qb := true) (dv 7) sb_nil))) (sg_name (i := 3) sc_law_right.nd rfl (by first | exact .inl rfl | exact .inr rfl) rfl))
  (sss_lend (i := 3) (kp' := kpBut [4]) (hk_io (by decide))
  (ss_asg (q := false) (se_lst (qb := false) (qd := false) (sb_cons (qa := true) (qb := false) (dv 3) (sb_cons (qa := false) (qb := false) (se_callP (qb := false) (qd := false) (dlevels_of.fm hr (by decide)) rfl (sb_cons (qa := false) (qb := true) (se_callP (qb := true) (qd := false) (d_law_lists.fm hr (by decide)) rfl (sb_cons (qa := true) (qb := true) (dv 6) sb_nil)) (sb_cons (qa := true) (qb := true) (dv 7) sb_nil))) (sb_cons (qa := false) (qb := true) (se_callP (qb := true) (qd := false) (dend_of.fm hr (by decide)) rfl (sb_cons (qa := true) (qb := true) (dv 6) (sb_cons (qa := true) (qb := true) (dv 7) sb_nil))) sb_nil)))) (sg_name (i := 4) sc_law_right.nd rfl (by first | exact .inl rfl | exact .inr rfl) rfl))
  (ss_if (q := false) (st_not (qa := false) (st_val (qa := false) (se_callV (qb := false) (d_law_same.fm hr (by decide)) rfl (sb_cons (qa := true) (qb := false) (dv 4) (sb_cons (qa := false) (qb := true) (se_lst (qb := true) (qd := false) (sb_cons (qa := true) (qb := true) (dv 2) (sb_cons (qa := true) (qb := true) (dv 2) (sb_cons (qa := true) (qb := true) (dIx (qa := true) (qb := true) (dv 2) (dNeg (qa := true) se_int)) sb_nil)))) sb_nil))))) (sss_one (ss_ret (q := true) se_bl)) sss_nil)
  (sss_cons
  (ss_expr (q := false) (se_append (qo := true) (qa := true) (dv 3) se_str))
  (sss_cons
  (ss_asg (q := false) (se_lst (qb := false) (qd := true) (sb_cons (qa := false) (qb := false) (se_callKP (qb := true) (qd := false) (klevels_of_start_row.fm hr (by decide)) rfl (sk_cons (qa := true) (qb := true) (dv 7) (sk_cons (qa := true) (qb := true) (dv 6) sk_nil))) (sb_cons (qa := false) (qb := true) (se_callP (qb := false) (qd := false) (dend_of.fm hr (by decide)) rfl (sb_cons (qa := false) (qb := true) (se_callP (qb := true) (qd := false) (d_law_lists.fm hr (by decide)) rfl (sb_cons (qa := true) (qb := true) (dv 6) sb_nil)) (sb_cons (qa := true) (qb := true) (dv 7) sb_nil))) sb_nil))) (sg_name (i := 4) sc_law_right.nd rfl (by first | exact .inl rfl | exact .inr rfl) rfl))
  (sss_cons
  (ss_if (q := false) (st_not (qa := false) (st_val (qa := false) (se_callV (qb := false) (d_law_same.fm hr (by decide)) rfl (sb_cons (qa := true) (qb := false) (dv 4) (sb_cons (qa := false) (qb := true) (se_lst (qb := true) (qd := false) (sb_cons (qa := true) (qb := true) (dv 2) (sb_cons (qa := true) (qb := true) (dIx (qa := true) (qb := true) (dv 2) (dNeg (qa := true) se_int)) sb_nil))) sb_nil))))) (sss_one (ss_ret (q := true) se_bl)) sss_nil)
  (sss_one (ss_for PassesOwn.never rfl (si_seq (qa := false) (dAdd (qa := false) (qb := true) (dAdd (qa := false) (qb := false) (se_lst (qb := true) (qd := false) (sb_cons (qa := true) (qb := true) (dv 6) (sb_cons (qa := true) (qb := true) (dList (qb := true) rfl B.list (sb_cons (qa := true) (qb := true) (dv 6) sb_nil)) sb_nil))) (se_lc (own := [("_law_lap", 8)]) (qt := true) (qe := false) rfl sc_law_right.nd (si_range1 (qa := true) rfl B.range se_int) (blkOk_by (by kernel_rfl)) (fun s H A l fp => (sg_name (i := 8) sc_law_right.nd rfl (by first | exact .inl rfl | exact .inr rfl) rfl)) (fun s H A l fp => sts_nil) (fun s H A l fp => (se_callIO (qb := true) (io := (ioOf [0])) (d_law_bent.fm hr (by decide)).blk rfl (sb_cons (qa := true) (qb := true) (dv 0) (sb_cons (qa := true) (qb := true) (dv 6) (sb_cons (qa := true) (qb := true) se_int sb_nil))))))) (dList (qb := true) rfl B.list (sb_cons (qa := true) (qb := true) (dSl (qa := true) (ql := true) (qh := true) (dv 6) so_none (so_some (qa := true) se_int)) sb_nil)))) (sg_name (i := 5) sc_law_right.nd rfl (by first | exact .inl rfl | exact .inr rfl) rfl) (sss_one (ss_if (q := true) (st_not (qa := true) (st_val (qa := true) (se_callV (qb := true) (d_law_same.fm hr (by decide)) rfl (sb_cons (qa := true) (qb := true) (se_lst (qb := true) (qd := true) (sb_cons (qa := true) (qb := true) (se_callV (qb := true) (dis_row.fm hr (by decide)) rfl (sb_cons (qa := true) (qb := true) (dv 5) sb_nil)) (sb_cons (qa := true) (qb := true) (se_callV (qb := true) (dis_event.fm hr (by decide)) rfl (sb_cons (qa := true) (qb := true) (dv 5) sb_nil)) sb_nil))) (sb_cons (qa := true) (qb := true) (se_lst (qb := true) (qd := true) (sb_cons (qa := true) (qb := true) (se_callV (qb := true) (d_law_is_verse.fm hr (by decide)) rfl (sb_cons (qa := true) (qb := true) (dv 5) sb_nil)) (sb_cons (qa := true) (qb := true) (se_callV (qb := true) (d_law_is_entry.fm hr (by decide)) rfl (sb_cons (qa := true) (qb := true) (dv 5) sb_nil)) sb_nil))) sb_nil))))) (sss_one (ss_ret (q := true) se_bl)) sss_nil))))))))))))
  (sss_one (ss_ret (q := true) se_bl)))
theorem o_law_right {P : Program} {w : World} {K : PySem.W.Frag} {mg : Str → Option Value} {base : Heap} {cl : Nat → Addr} (B : Blt mg) (S : Gs mg) (TU : Tus K mg) {f : Addr} {fd : FuncData} (FD : FnP K "_law_right" "_law_right" (top 28) [] f fd) (d_law_bent : Dn P w K mg base cl "_law_bent" 43 (F_law_bent 40)) (d_law_events : Dn P w K mg base cl "_law_events" 5 F_law_events) (d_law_is_entry : Dn P w K mg base cl "_law_is_entry" 1 F_law_is_entry) (d_law_is_verse : Dn P w K mg base cl "_law_is_verse" 2 F_law_is_verse) (d_law_lists : Dn P w K mg base cl "_law_lists" 41 (F_law_lists 40)) (d_law_number : Dn P w K mg base cl "_law_number" 3 F_law_number) (d_law_same : Dn P w K mg base cl "_law_same" 41 (F_law_same 40)) (d_law_trace : Dn P w K mg base cl "_law_trace" 2 F_law_trace) (dend_of : Dn P w K mg base cl "end_of" 2 Fend_of) (dis_event : Dn P w K mg base cl "is_event" 2 Fis_event) (dis_row : Dn P w K mg base cl "is_row" 3 Fis_row) (dlevels_of : Dn P w K mg base cl "levels_of" 2 Flevels_of) (klevels_of_start_row : Dk P w K mg base cl "levels_of" ["start", "row"] [1, 0] 2 Flevels_of) : FnOk P w K mg base CX0 44 f fd ["_law_box_here"] (spM ⟨K, cl⟩ F_law_right) :=
  fn_defD (k := 43) (N := N_law_right) FD sc_law_right (ioOf_out (by decide)) (fun cdv A outer s H E hr => b_law_right B S TU hr d_law_bent d_law_events d_law_is_entry d_law_is_verse d_law_lists d_law_number d_law_same d_law_trace dend_of dis_event dis_row dlevels_of klevels_of_start_row)
theorem d_law_right {P : Program} {w : World} {K : PySem.W.Frag} {mg : Str → Option Value} {base : Heap} {cl : Nat → Addr} (B : Blt mg) (S : Gs mg) (TU : Tus K mg) {f : Addr} {fd : FuncData} (FD : FnP K "_law_right" "_law_right" (top 28) [] f fd) (hm : mg "_law_right" = some (.ref f)) (d_law_bent : Dn P w K mg base cl "_law_bent" 43 (F_law_bent 40)) (d_law_events : Dn P w K mg base cl "_law_events" 5 F_law_events) (d_law_is_entry : Dn P w K mg base cl "_law_is_entry" 1 F_law_is_entry) (d_law_is_verse : Dn P w K mg base cl "_law_is_verse" 2 F_law_is_verse) (d_law_lists : Dn P w K mg base cl "_law_lists" 41 (F_law_lists 40)) (d_law_number : Dn P w K mg base cl "_law_number" 3 F_law_number) (d_law_same : Dn P w K mg base cl "_law_same" 41 (F_law_same 40)) (d_law_trace : Dn P w K mg base cl "_law_trace" 2 F_law_trace) (dend_of : Dn P w K mg base cl "end_of" 2 Fend_of) (dis_event : Dn P w K mg base cl "is_event" 2 Fis_event) (dis_row : Dn P w K mg base cl "is_row" 3 Fis_row) (dlevels_of : Dn P w K mg base cl "levels_of" 2 Flevels_of) (klevels_of_start_row : Dk P w K mg base cl "levels_of" ["start", "row"] [1, 0] 2 Flevels_of) : Dn P w K mg base cl "_law_right" 44 F_law_right :=
  ⟨f, fd, ["_law_box_here"], o_law_right B S TU FD d_law_bent d_law_events d_law_is_entry d_law_is_verse d_law_lists d_law_number d_law_same d_law_trace dend_of dis_event dis_row dlevels_of klevels_of_start_row, hm, FD.kp, FD.bindsN fun _ _ _ _ _ _ us hl => match us, hl with | [_], _ => rfl⟩
abbrev Nlaw : List Str := ["_law_script", "_law_cells_so", "_law_k", "_law_box_here", "_law_turn"]
theorem sclaw : FnScope Nlaw ["_law_script"] (defScope (top 29)) := ⟨rfl, rfl, rfl, by decide +kernel, rfl, by decide +kernel, by decide +kernel⟩
def Elaw_1 (ρ : En) : Res (B × En) := (cCallIO F_law_right (ioOf [0]) (cCons true (cVar 3) cNil)) ρ
def Llaw_1 (ρ : En) : Res (Fl × En) := (cSeq
  (cAsg (gSet 3) (cCallP false F_law_box (cCons true (cVar 1) (cCons true (cVar 2) cNil))))
  (cIfS (cNotT (cTest (cCallB fAll (cCons true (cLc [4] (iRange1 (cC (.int 1))) (gSet 4) cYes Elaw_1) cNil)))) (cRet (cC (.bl false))) cNext)) ρ
def mlaw : CS := (cSeq
  (cIfS (cNotT (cTest (cCallP true F_law_by_hand_right cNil))) (cRet (cC (.bl false))) cNext)
  (cSeq
  (cAsg (gSet 1) (cCallP false F_law_cells (cCons true (cVar 0) (cCons true (cC (.int 3)) cNil))))
  (cSeq
  (cFor (iRange1 (cCallB fLen (cCons true (cVar 1) cNil))) (gSet 2) Llaw_1)
  (cRet (cC (.bl true))))))
def Flaw : Fn := runDef 1 5 (ioOf []) mlaw
theorem blaw {P : Program} {w : World} {K : PySem.W.Frag} {mg : Str → Option Value} {base : Heap} {cl : Nat → Addr} (B : Blt mg) (S : Gs mg) (TU : Tus K mg) {f : Addr} {cdv : Value} {A : Around} {outer : List Env} {s : Shared} {H : Hp} {E : XK} (hr : Room 44 (A.deeper (envOfC "law" (defScope (top 29)) s.heap.objs.size f cdv))) (d_law_box : Dn P w K mg base cl "_law_box" 1 F_law_box) (d_law_by_hand_right : Dn P w K mg base cl "_law_by_hand_right" 42 F_law_by_hand_right) (d_law_cells : Dn P w K mg base cl "_law_cells" 1 F_law_cells) (d_law_right : Dn P w K mg base cl "_law_right" 44 F_law_right) : SSs (BX P w K mg base Nlaw "law" (defScope (top 29)) f cdv A outer s H E) cl (ioOf []) (defBody (top 29)) mlaw :=
  (sss_cons
  (ss_if (q := true) (st_not (qa := true) (st_val (qa := true) (se_call0 (d_law_by_hand_right.fm hr (by decide)) rfl))) (sss_one (ss_ret (q := true) se_bl)) sss_nil)
  (sss_cons
  (ss_asg (q := false) (se_callP (qb := true) (qd := false) (d_law_cells.fm hr (by decide)) rfl (sb_cons (qa := true) (qb := true) (dv 0) (sb_cons (qa := true) (qb := true) se_int sb_nil))) (sg_name (i := 1) sclaw.nd rfl (by first | exact .inl rfl | exact .inr rfl) rfl))
  (sss_cons
  (ss_for PassesOwn.never rfl (si_range1 (qa := true) rfl B.range (dLen (qb := true) rfl B.len (sb_cons (qa := true) (qb := true) (dv 1) sb_nil))) (sg_name (i := 2) sclaw.nd rfl (by first | exact .inl rfl | exact .inr rfl) rfl) (sss_cons
  (ss_asg (q := false) (se_callP (qb := true) (qd := false) (d_law_box.fm hr (by decide)) rfl (sb_cons (qa := true) (qb := true) (dv 1) (sb_cons (qa := true) (qb := true) (dv 2) sb_nil))) (sg_name (i := 3) sclaw.nd rfl (by first | exact .inl rfl | exact .inr rfl) rfl))
  (sss_one (ss_if (q := false) (st_not (qa := false) (st_val (qa := false) (dAll (qb := false) rfl rfl B.all (sb_cons (qa := false) (qb := true) (se_lc (own := [("_law_turn", 4)]) (qt := true) (qe := false) rfl sclaw.nd (si_range1 (qa := true) rfl B.range se_int) (blkOk_by (by kernel_rfl)) (fun s H A l fp => (sg_name (i := 4) sclaw.nd rfl (by first | exact .inl rfl | exact .inr rfl) rfl)) (fun s H A l fp => sts_nil) (fun s H A l fp => (se_callIO (qb := true) (io := (ioOf [0])) (d_law_right.fm hr (by decide)).blk rfl (sb_cons (qa := true) (qb := true) (dv 3) sb_nil)))) sb_nil)))) (sss_one (ss_ret (q := true) se_bl)) sss_nil))))
  (sss_one (ss_ret (q := true) se_bl)))))
theorem olaw {P : Program} {w : World} {K : PySem.W.Frag} {mg : Str → Option Value} {base : Heap} {cl : Nat → Addr} (B : Blt mg) (S : Gs mg) (TU : Tus K mg) {f : Addr} {fd : FuncData} (FD : FnP K "law" "law" (top 29) [] f fd) (d_law_box : Dn P w K mg base cl "_law_box" 1 F_law_box) (d_law_by_hand_right : Dn P w K mg base cl "_law_by_hand_right" 42 F_law_by_hand_right) (d_law_cells : Dn P w K mg base cl "_law_cells" 1 F_law_cells) (d_law_right : Dn P w K mg base cl "_law_right" 44 F_law_right) : FnOk P w K mg base CX0 45 f fd ["_law_script"] (spM ⟨K, cl⟩ Flaw) :=
  fn_defD (k := 44) (N := Nlaw) FD sclaw (ioOf_out (by decide)) (fun cdv A outer s H E hr => blaw B S TU hr d_law_box d_law_by_hand_right d_law_cells d_law_right)
end Gn
namespace Gn
open Mi PySem PySem.Spec PyProof.Rows L2
def D_law_box : DefX := ⟨fun K => He.ga K "_law_box", "_law_box", "_law_box", defArgs (top 13), defBody (top 13), defScope (top 13), []⟩
def D_law_same : DefX := ⟨fun K => He.ga K "_law_same", "_law_same", "_law_same", defArgs (top 17), defBody (top 17), defScope (top 17), []⟩
def Dbehind : DefX := ⟨fun K => He.ga K "behind", "behind", "behind", defArgs (top 8), defBody (top 8), defScope (top 8), []⟩
def Dend_of : DefX := ⟨fun K => He.ga K "end_of", "end_of", "end_of", defArgs (top 9), defBody (top 9), defScope (top 9), []⟩
def Dis_number : DefX := ⟨fun K => He.ga K "is_number", "is_number", "is_number", defArgs (top 5), defBody (top 5), defScope (top 5), []⟩
def Dis_event : DefX := ⟨fun K => He.ga K "is_event", "is_event", "is_event", defArgs (top 6), defBody (top 6), defScope (top 6), []⟩
def Dis_row : DefX := ⟨fun K => He.ga K "is_row", "is_row", "is_row", defArgs (top 7), defBody (top 7), defScope (top 7), []⟩
def Dlevels_of : DefX := ⟨fun K => He.ga K "levels_of", "levels_of", "levels_of", defArgs (top 11), defBody (top 11), defScope (top 11), []⟩
def D_law_by_hand_right : DefX := ⟨fun K => He.ga K "_law_by_hand_right", "_law_by_hand_right", "_law_by_hand_right", defArgs (top 27), defBody (top 27), defScope (top 27), []⟩
def D_law_cells : DefX := ⟨fun K => He.ga K "_law_cells", "_law_cells", "_law_cells", defArgs (top 15), defBody (top 15), defScope (top 15), []⟩
def D_law_take : DefX := ⟨fun K => He.ga K "_law_take", "_law_take", "_law_take", defArgs (top 14), defBody (top 14), defScope (top 14), []⟩
def D_law_of : DefX := ⟨fun K => He.ga K "_law_of", "_law_of", "_law_of", defArgs (top 16), defBody (top 16), defScope (top 16), []⟩
def D_law_bent : DefX := ⟨fun K => He.ga K "_law_bent", "_law_bent", "_law_bent", defArgs (top 26), defBody (top 26), defScope (top 26), []⟩
def D_law_number : DefX := ⟨fun K => He.ga K "_law_number", "_law_number", "_law_number", defArgs (top 19), defBody (top 19), defScope (top 19), []⟩
def D_law_event : DefX := ⟨fun K => He.ga K "_law_event", "_law_event", "_law_event", defArgs (top 20), defBody (top 20), defScope (top 20), []⟩
def D_law_events : DefX := ⟨fun K => He.ga K "_law_events", "_law_events", "_law_events", defArgs (top 21), defBody (top 21), defScope (top 21), []⟩
def D_law_is_entry : DefX := ⟨fun K => He.ga K "_law_is_entry", "_law_is_entry", "_law_is_entry", defArgs (top 24), defBody (top 24), defScope (top 24), []⟩
def D_law_is_verse : DefX := ⟨fun K => He.ga K "_law_is_verse", "_law_is_verse", "_law_is_verse", defArgs (top 25), defBody (top 25), defScope (top 25), []⟩
def D_law_lists : DefX := ⟨fun K => He.ga K "_law_lists", "_law_lists", "_law_lists", defArgs (top 18), defBody (top 18), defScope (top 18), []⟩
def D_law_on : DefX := ⟨fun K => He.ga K "_law_on", "_law_on", "_law_on", defArgs (top 22), defBody (top 22), defScope (top 22), []⟩
def D_law_trace : DefX := ⟨fun K => He.ga K "_law_trace", "_law_trace", "_law_trace", defArgs (top 23), defBody (top 23), defScope (top 23), []⟩
def D_law_right : DefX := ⟨fun K => He.ga K "_law_right", "_law_right", "_law_right", defArgs (top 28), defBody (top 28), defScope (top 28), []⟩
def Dlaw : DefX := ⟨fun K => He.ga K "law", "law", "law", defArgs (top 29), defBody (top 29), defScope (top 29), []⟩
def fnl : List DefX := [D_law_box, D_law_same, Dbehind, Dend_of, Dis_number, Dis_event, Dis_row, Dlevels_of, D_law_by_hand_right, D_law_cells, D_law_take, D_law_of, D_law_bent, D_law_number, D_law_event, D_law_events, D_law_is_entry, D_law_is_verse, D_law_lists, D_law_on, D_law_trace, D_law_right, Dlaw]
def fal : List He.Fa := [.glo "_law_box", .glo "_law_same", .glo "behind", .glo "end_of", .glo "is_number", .glo "is_event", .glo "is_row", .glo "levels_of", .glo "_law_by_hand_right", .glo "_law_cells", .glo "_law_take", .glo "_law_of", .glo "_law_bent", .glo "_law_number", .glo "_law_event", .glo "_law_events", .glo "_law_is_entry", .glo "_law_is_verse", .glo "_law_lists", .glo "_law_on", .glo "_law_trace", .glo "_law_right", .glo "law", .glo "WORDS", .free "abs", .free "all", .free "any", .free "bool", .free "enumerate", .free "int", .free "isinstance", .free "len", .free "list", .free "max", .free "min", .free "range", .free "reversed", .free "set", .free "sorted", .free "str", .free "sum", .free "tuple", .free "zip", .str "ADD" "add", .str "FLOOR" "floor", .str "CAP" "cap"]
def xb : PySem.W.Frag → Bool := fun K => true && (tuB K (He.ga K "WORDS") [.str "add", .str "floor", .str "cap"])
abbrev Rr : PySem.W.OpenRow := PySem.W.OpenLaw.row PySem.Challenge.rw_boundedlevels_k28_events_rows_and_their
abbrev hk : PySem.W.Hook := hookX 4 fal fnl xb
def ob (s : PySem.W.SharedT) : AlX := obsXG 4 fal fnl xb (HandSHeadRun.getT s)
theorem ob_eq (s : PySem.W.SharedT) : ob s = hk.obs s.abs := obsXG_eq (HandSHeadRun.getT_eq s)
theorem hrun (w : World) : HandSHeadRun.RunEq Rr (PySem.W.view Rr.prog [29]) hk ob 3400 ["ADD", "FLOOR", "CAP", "WORDS", "is_number", "is_event", "is_row", "behind", "end_of", "levels_of", "_law_box", "_law_take", "_law_cells", "_law_of", "_law_same", "_law_lists", "_law_number", "_law_event", "_law_events", "_law_on", "_law_trace", "_law_is_entry", "_law_is_verse", "_law_bent", "_law_by_hand_right", "_law_right"] w := by
  intro os
  kernel_rfl
theorem facts {P : Program} {w : World} {K : PySem.W.Frag} {h : Heap} {mg : Str → Option Value} {f : Addr} (X : K.In h) (G : h.Ns mainGlobals mg) (hfa : mg ("law" : Str) = some (.ref f)) (c : SaysX fal fnl xb K) :
    ∃ fd : FuncData, (∀ (s : Shared) (v : Value), BindsTo s fd ⟨[v], []⟩ [("_law_script", v)]) ∧ ∀ base : Heap, K.In base → base.Ns mainGlobals mg → FnOk P w K mg base CX0 45 f fd ["_law_script"] (spM ⟨K, (fun _ => 0)⟩ Flaw) := by
  obtain ⟨fd__law_box, F_law_box_⟩ := c.fn 0 (d := D_law_box) rfl
  obtain ⟨fd__law_same, F_law_same_⟩ := c.fn 1 (d := D_law_same) rfl
  obtain ⟨fd_behind, Fbehind_⟩ := c.fn 2 (d := Dbehind) rfl
  obtain ⟨fd_end_of, Fend_of_⟩ := c.fn 3 (d := Dend_of) rfl
  obtain ⟨fd_is_number, Fis_number_⟩ := c.fn 4 (d := Dis_number) rfl
  obtain ⟨fd_is_event, Fis_event_⟩ := c.fn 5 (d := Dis_event) rfl
  obtain ⟨fd_is_row, Fis_row_⟩ := c.fn 6 (d := Dis_row) rfl
  obtain ⟨fd_levels_of, Flevels_of_⟩ := c.fn 7 (d := Dlevels_of) rfl
  obtain ⟨fd__law_by_hand_right, F_law_by_hand_right_⟩ := c.fn 8 (d := D_law_by_hand_right) rfl
  obtain ⟨fd__law_cells, F_law_cells_⟩ := c.fn 9 (d := D_law_cells) rfl
  obtain ⟨fd__law_take, F_law_take_⟩ := c.fn 10 (d := D_law_take) rfl
  obtain ⟨fd__law_of, F_law_of_⟩ := c.fn 11 (d := D_law_of) rfl
  obtain ⟨fd__law_bent, F_law_bent_⟩ := c.fn 12 (d := D_law_bent) rfl
  obtain ⟨fd__law_number, F_law_number_⟩ := c.fn 13 (d := D_law_number) rfl
  obtain ⟨fd__law_event, F_law_event_⟩ := c.fn 14 (d := D_law_event) rfl
  obtain ⟨fd__law_events, F_law_events_⟩ := c.fn 15 (d := D_law_events) rfl
  obtain ⟨fd__law_is_entry, F_law_is_entry_⟩ := c.fn 16 (d := D_law_is_entry) rfl
  obtain ⟨fd__law_is_verse, F_law_is_verse_⟩ := c.fn 17 (d := D_law_is_verse) rfl
  obtain ⟨fd__law_lists, F_law_lists_⟩ := c.fn 18 (d := D_law_lists) rfl
  obtain ⟨fd__law_on, F_law_on_⟩ := c.fn 19 (d := D_law_on) rfl
  obtain ⟨fd__law_trace, F_law_trace_⟩ := c.fn 20 (d := D_law_trace) rfl
  obtain ⟨fd__law_right, F_law_right_⟩ := c.fn 21 (d := D_law_right) rfl
  obtain ⟨fd_law, Flaw_⟩ := c.fn 22 (d := Dlaw) rfl
  have e := hfa.symm.trans (He.glo_ok X G (c.fact 22 (f := .glo "law") rfl))
  cases e
  have b := FunD.bindsA (ps := ["_law_script"]) Flaw_ fun _ _ _ _ _ _ us hl => match us, hl with | [_], _ => rfl
  have B : Blt mg := ⟨He.free_ok X G (c.fact 31 (f := .free "len") rfl), He.free_ok X G (c.fact 24 (f := .free "abs") rfl), He.free_ok X G (c.fact 33 (f := .free "max") rfl), He.free_ok X G (c.fact 34 (f := .free "min") rfl), He.free_ok X G (c.fact 29 (f := .free "int") rfl), He.free_ok X G (c.fact 39 (f := .free "str") rfl), He.free_ok X G (c.fact 27 (f := .free "bool") rfl), He.free_ok X G (c.fact 40 (f := .free "sum") rfl), He.free_ok X G (c.fact 25 (f := .free "all") rfl), He.free_ok X G (c.fact 26 (f := .free "any") rfl), He.free_ok X G (c.fact 41 (f := .free "tuple") rfl), He.free_ok X G (c.fact 32 (f := .free "list") rfl), He.free_ok X G (c.fact 30 (f := .free "isinstance") rfl), He.free_ok X G (c.fact 35 (f := .free "range") rfl), He.free_ok X G (c.fact 28 (f := .free "enumerate") rfl), He.free_ok X G (c.fact 42 (f := .free "zip") rfl), He.free_ok X G (c.fact 38 (f := .free "sorted") rfl), He.free_ok X G (c.fact 36 (f := .free "reversed") rfl), He.free_ok X G (c.fact 37 (f := .free "set") rfl)⟩
  have S : Gs mg := ⟨trivial, He.str_ok X G (c.fact 43 (f := .str "ADD" "add") rfl), He.str_ok X G (c.fact 44 (f := .str "FLOOR" "floor") rfl), He.str_ok X G (c.fact 45 (f := .str "CAP" "cap") rfl)⟩
  have hx := c.all.2.2
  simp only [xb, Bool.and_eq_true] at hx
  obtain ⟨xx0, xu0⟩ := hx
  have TU : Tus K mg := ⟨trivial, ⟨_, He.glo_ok X G (c.fact 23 (f := .glo "WORDS") rfl), tuB_ok xu0⟩⟩
  have g__law_box := He.glo_ok X G (c.fact 0 (f := .glo "_law_box") rfl)
  have g__law_same := He.glo_ok X G (c.fact 1 (f := .glo "_law_same") rfl)
  have g_behind := He.glo_ok X G (c.fact 2 (f := .glo "behind") rfl)
  have g_end_of := He.glo_ok X G (c.fact 3 (f := .glo "end_of") rfl)
  have g_is_number := He.glo_ok X G (c.fact 4 (f := .glo "is_number") rfl)
  have g_is_event := He.glo_ok X G (c.fact 5 (f := .glo "is_event") rfl)
  have g_is_row := He.glo_ok X G (c.fact 6 (f := .glo "is_row") rfl)
  have g_levels_of := He.glo_ok X G (c.fact 7 (f := .glo "levels_of") rfl)
  have g__law_by_hand_right := He.glo_ok X G (c.fact 8 (f := .glo "_law_by_hand_right") rfl)
  have g__law_cells := He.glo_ok X G (c.fact 9 (f := .glo "_law_cells") rfl)
  have g__law_take := He.glo_ok X G (c.fact 10 (f := .glo "_law_take") rfl)
  have g__law_of := He.glo_ok X G (c.fact 11 (f := .glo "_law_of") rfl)
  have g__law_bent := He.glo_ok X G (c.fact 12 (f := .glo "_law_bent") rfl)
  have g__law_number := He.glo_ok X G (c.fact 13 (f := .glo "_law_number") rfl)
  have g__law_event := He.glo_ok X G (c.fact 14 (f := .glo "_law_event") rfl)
  have g__law_events := He.glo_ok X G (c.fact 15 (f := .glo "_law_events") rfl)
  have g__law_is_entry := He.glo_ok X G (c.fact 16 (f := .glo "_law_is_entry") rfl)
  have g__law_is_verse := He.glo_ok X G (c.fact 17 (f := .glo "_law_is_verse") rfl)
  have g__law_lists := He.glo_ok X G (c.fact 18 (f := .glo "_law_lists") rfl)
  have g__law_on := He.glo_ok X G (c.fact 19 (f := .glo "_law_on") rfl)
  have g__law_trace := He.glo_ok X G (c.fact 20 (f := .glo "_law_trace") rfl)
  have g__law_right := He.glo_ok X G (c.fact 21 (f := .glo "_law_right") rfl)
  refine ⟨fd_law, fun s v => b s [v] rfl, fun base _ _ => ?_⟩
  have d_law_box := d_law_box (P := P) (w := w) (base := base) (cl := fun _ => 0) B S TU F_law_box_ g__law_box
  have d_law_same := d_law_same (P := P) (w := w) (base := base) (cl := fun _ => 0) B S TU F_law_same_ g__law_same  40
  have dbehind := dbehind (P := P) (w := w) (base := base) (cl := fun _ => 0) B S TU Fbehind_ g_behind
  have dend_of := dend_of (P := P) (w := w) (base := base) (cl := fun _ => 0) B S TU Fend_of_ g_end_of dbehind
  have kend_of_start_row := kend_of_start_row (P := P) (w := w) (base := base) (cl := fun _ => 0) B S TU Fend_of_ g_end_of dbehind
  have dis_number := dis_number (P := P) (w := w) (base := base) (cl := fun _ => 0) B S TU Fis_number_ g_is_number
  have dis_event := dis_event (P := P) (w := w) (base := base) (cl := fun _ => 0) B S TU Fis_event_ g_is_event dis_number
  have kis_event_thing := kis_event_thing (P := P) (w := w) (base := base) (cl := fun _ => 0) B S TU Fis_event_ g_is_event dis_number
  have dis_row := dis_row (P := P) (w := w) (base := base) (cl := fun _ => 0) B S TU Fis_row_ g_is_row dis_event
  have kis_row_thing := kis_row_thing (P := P) (w := w) (base := base) (cl := fun _ => 0) B S TU Fis_row_ g_is_row dis_event
  have dlevels_of := dlevels_of (P := P) (w := w) (base := base) (cl := fun _ => 0) B S TU Flevels_of_ g_levels_of dbehind
  have klevels_of_row_start := klevels_of_row_start (P := P) (w := w) (base := base) (cl := fun _ => 0) B S TU Flevels_of_ g_levels_of dbehind
  have klevels_of_start_row := klevels_of_start_row (P := P) (w := w) (base := base) (cl := fun _ => 0) B S TU Flevels_of_ g_levels_of dbehind
  have d_law_by_hand_right := d_law_by_hand_right (P := P) (w := w) (base := base) (cl := fun _ => 0) B S TU F_law_by_hand_right_ g__law_by_hand_right d_law_same dend_of dis_event dis_row dlevels_of kend_of_start_row kis_event_thing kis_row_thing klevels_of_row_start
  have d_law_cells := d_law_cells (P := P) (w := w) (base := base) (cl := fun _ => 0) B S TU F_law_cells_ g__law_cells
  have d_law_take := d_law_take (P := P) (w := w) (base := base) (cl := fun _ => 0) B S TU F_law_take_ g__law_take
  have d_law_of := d_law_of (P := P) (w := w) (base := base) (cl := fun _ => 0) B S TU F_law_of_ g__law_of d_law_take
  have d_law_bent := d_law_bent (P := P) (w := w) (base := base) (cl := fun _ => 0) B S TU F_law_bent_ g__law_bent d_law_of d_law_take 40
  have d_law_number := d_law_number (P := P) (w := w) (base := base) (cl := fun _ => 0) B S TU F_law_number_ g__law_number d_law_of d_law_take
  have d_law_event := d_law_event (P := P) (w := w) (base := base) (cl := fun _ => 0) B S TU F_law_event_ g__law_event d_law_number d_law_of
  have d_law_events := d_law_events (P := P) (w := w) (base := base) (cl := fun _ => 0) B S TU F_law_events_ g__law_events d_law_event d_law_take
  have d_law_is_entry := d_law_is_entry (P := P) (w := w) (base := base) (cl := fun _ => 0) B S TU F_law_is_entry_ g__law_is_entry
  have d_law_is_verse := d_law_is_verse (P := P) (w := w) (base := base) (cl := fun _ => 0) B S TU F_law_is_verse_ g__law_is_verse d_law_is_entry
  have d_law_lists := d_law_lists (P := P) (w := w) (base := base) (cl := fun _ => 0) B S TU F_law_lists_ g__law_lists  40
  have d_law_on := d_law_on (P := P) (w := w) (base := base) (cl := fun _ => 0) B S TU F_law_on_ g__law_on
  have d_law_trace := d_law_trace (P := P) (w := w) (base := base) (cl := fun _ => 0) B S TU F_law_trace_ g__law_trace d_law_on
  have d_law_right := d_law_right (P := P) (w := w) (base := base) (cl := fun _ => 0) B S TU F_law_right_ g__law_right d_law_bent d_law_events d_law_is_entry d_law_is_verse d_law_lists d_law_number d_law_same d_law_trace dend_of dis_event dis_row dlevels_of klevels_of_start_row
  exact olaw B S TU Flaw_ d_law_box d_law_by_hand_right d_law_cells d_law_right
theorem law_holds (hF : ∀ ns : List Int, ns.length ≤ 63 → ∃ bk, Flaw [.fz (.scr (ns.map D.int))] = .ok (.fz (.bl true), bk)) : PySem.Challenge.rw_boundedlevels_k28_events_rows_and_their.Holds := by
  w_on; o_law
  refine HandSHeadRun.head_any (r := PySem.W.OpenLaw.row PySem.Challenge.rw_boundedlevels_k28_events_rows_and_their) (q := PySem.W.view (PySem.W.OpenLaw.row PySem.Challenge.rw_boundedlevels_k28_events_rows_and_their).prog [29]) (H := Gn.hk) (ob := Gn.ob) (M := 3400) (loose := ["ADD", "FLOOR", "CAP", "WORDS", "is_number", "is_event", "is_row", "behind", "end_of", "levels_of", "_law_box", "_law_take", "_law_cells", "_law_of", "_law_same", "_law_lists", "_law_number", "_law_event", "_law_events", "_law_on", "_law_trace", "_law_is_entry", "_law_is_verse", "_law_bent", "_law_by_hand_right", "_law_right"]) (d := HandSHeadRun.topDef (PySem.W.OpenLaw.row PySem.Challenge.rw_boundedlevels_k28_events_rows_and_their).prog 29) (kwd := []) Gn.ob_eq
    (by kernel_rfl) (fun s => by kernel_rfl) Gn.hrun (by kernel_rfl) (by kernel_rfl) (by kernel_rfl) (by rfl) (by first | assumption | decide +kernel) (by decide +kernel) ⟨rfl, rfl, rfl, rfl, rfl, by decide +kernel⟩ ?hw ?hc
  case hw => w_witness2
  case hc =>
    refine L2.walk_ofE (l := PySem.Challenge.rw_boundedlevels_k28_events_rows_and_their) (n := 63) (k := 45) (x := "_law_script") (CX := L2.CX0) rfl (by decide) (by kernel_rfl) ⟨rfl, by decide, by decide⟩ ?F (fun _ _ _ _ z => z)
    intro w mg fa h Y G hmg0
    obtain ⟨K, KX, c⟩ := Y
    have hmg : mg ("law" : PySem.Str) = some (.ref fa) := by
      have e : (HandSHeadRun.topDef (PySem.W.OpenLaw.row PySem.Challenge.rw_boundedlevels_k28_events_rows_and_their).prog 29).name = ("law" : PySem.Str) := by kernel_rfl
      rw [← e]
      exact hmg0
    obtain ⟨fd, hb, hF2⟩ := Gn.facts (P := (PySem.Challenge.rw_boundedlevels_k28_events_rows_and_their).prog) (w := w) KX G hmg c
    exact ⟨K, fd, _, KX, hb, fun H a ns hl _ hS => law_sp hS (hF ns hl), hF2⟩
end Gn
namespace Gn
open Mi PySem
structure Bx where
  a : Int
  b : Int
  c : Int
abbrev bx (β : Bx) : W := .lst [.fz (.int β.a), .fz (.int β.b), .fz (.int β.c)]
def Gd (m : Nat) (β : Bx) : Prop := 0 ≤ β.c ∧ β.c + (m : Int) < 2 ^ 60
theorem Gd.le {m n : Nat} {β : Bx} (h : Gd n β) (hm : m ≤ n) : Gd m β := ⟨h.1, by have := h.2; omega⟩
theorem take_ok {m : Nat} {β : Bx} {n : Int} (g : Gd (m + 1) β) (h0 : 0 < n) (h1 : n < 2 ^ 64) : ∃ (r : Int) (β' : Bx), 0 ≤ r ∧ r < n ∧ Gd m β' ∧ F_law_take [bx β, .fz (.int n)] = .ok (.fz (.int r), [bx β', .fz (.int n)]) := by
  obtain ⟨a, b, c⟩ := β
  obtain ⟨g1, g2⟩ := g
  simp only at g1 g2
  by_cases ha : 0 < a
  · refine ⟨a % n, ⟨a / n, b, c⟩, Int.emod_nonneg _ (by omega), Int.emod_lt_of_pos _ h0, ⟨g1, by simp only; omega⟩, ?_⟩
    simp only [F_law_take, m_law_take, v_bin6, v_bin5, v_bin4, v_bin3, v_bin2, v_bin1, v_bin, v_un3, v_un2, v_un1, v_un, v_test2, v_test1, v_test, v_cons3, v_cons2, v_cons1, v_cons, v_star4, v_star3, v_star2, v_star1, v_star, v_tup2, v_tup1, v_tup, v_lst2, v_lst1, v_lst, v_callB3, v_callB2, v_callB1, v_callB, v_andT1, v_andT, v_orT1, v_orT, v_notT1, v_notT, v_and2, v_and1, v_and, v_or2, v_or1, v_or, v_not2, v_not1, v_not, v_if1, v_if, v_orL1, v_orL, v_seq1, v_seq, v_ifS1, v_ifS, v_ret2, v_ret1, v_ret, v_drop1, v_drop, v_asg3, v_asg2, v_asg1, v_asg, v_gset1, v_gset, v_gsub5, v_gsub4, v_gsub3, v_gsub2, v_gsub1, v_gsub, v_gsc1, v_gsc, v_gsn1, v_gsn, v_for1, v_for, v_forc2, v_forc1, v_forc, v_lcc2, v_lcc1, v_lcc, v_lcT3, v_lcT2, v_lcT1, v_lcT, v_lc4, v_lc1, v_lc, v_def4, v_def3, v_def2, v_def1, v_def, v_callV4, v_callV3, v_callV2, v_callV1, v_callV, v_callP4, v_callP3, v_callP2, v_callP1, v_callP, v_callKV5, v_callKV4, v_callKV3, v_callKV2, v_callKV1, v_callKV, v_callKP5, v_callKP4, v_callKP3, v_callKP2, v_callKP1, v_callKP, v_callIO5, v_callIO4, v_callIO3, v_callIO2, v_callIO1, v_callIO, v_app7, v_app6, v_app5, v_app4, v_app3, v_app2, v_app1, v_app, v_sl6, v_sl5, v_sl4, v_sl3, v_sl2, v_sl1, v_sl, v_oS2, v_oS1, v_oS, v_iseq3, v_iseq2, v_iseq1, v_iseq, v_ienum3, v_ienum2, v_ienum1, v_ienum, v_irg1, v_irg, v_rgTup3, v_rgTup2, v_rgTup1, v_rgTup, v_argsc2, v_argsc1, v_argsc, v_putc1, v_putc, v_takesc2, v_takesc1, v_takesc, v_contsc2, v_contsc1, v_contsc, v_backsI2, v_backsI1, v_backsI, v_binF7, v_binF6, v_binF5, v_binF4, v_binF3, v_binF2, v_binF1, v_binF, v_par22, v_par21, v_par2, v_par32, v_par31, v_par3, v_ext8, v_ext7, v_ext6, v_ext5, v_ext4, v_ext3, v_ext2, v_ext1, v_ext, v_zip2, v_zip1, v_zip, v_irgB3, v_irgB2, v_irgB1, v_irgB, v_rgLst3, v_rgLst2, v_rgLst1, v_rgLst, v_rgTupB5, v_rgTupB4, v_rgTupB3, v_rgTupB2, v_rgTupB1, v_rgTupB, v_rgLstB5, v_rgLstB4, v_rgLstB3, v_rgLstB2, v_rgLstB1, v_rgLstB, v_ok, v_c, v_nil, v_next, v_yes, v_oN, v_gtup, v_var, v_for0, v_lc0, v_args0, v_put0, v_takes0, v_conts0, v_backs0, w_add, w_sub, w_neg, w_lt, w_le, w_gt, w_ge, w_intI, w_intB, w_ix0, w_ix1, w_ix2, w_i0, w_i1, w_i2, pend, cont, take, frz, frzs, getP, setP, Res.of, boolOf, isPl, mutS, mutP, intOf, move, retOf, backs1, put1, fzT, ioOf, chk, early, shut, isTmp, flatB, scal, List.map_cons, List.map_nil, List.cons_append, List.nil_append, List.append_nil, List.replicate_succ, List.replicate_zero, List.replicate, List.length_cons, List.length_nil, List.getElem?_cons_zero, List.getElem?_cons_succ, List.set_cons_zero, List.set_cons_succ, List.all_cons, List.all_nil, List.contains_cons, List.contains_nil, List.elem_cons, List.elem_nil, List.isEmpty_nil, List.isEmpty_cons, Nat.reduceAdd, Nat.reduceSub, Nat.reduceBEq, Nat.reduceLT, Nat.reduceLeDiff, Nat.reduceEqDiff, decide_true, decide_false, Bool.and_true, Bool.true_and, Bool.or_true, Bool.true_or, Bool.or_false, Bool.false_or, Bool.and_false, Bool.false_and, Bool.not_true, Bool.not_false, Bool.false_eq_true, reduceIte, ite_true, ite_false, beq_self_eq_true, Nat.zero_add, reduceCtorEq, and_self, true_and, and_true, ge_iff_le, gt_iff_lt, Nat.succ_eq_add_one, Nat.add_one_sub_one, Nat.zero_lt_succ, Nat.lt_add_left_iff_pos, wipeE, restE, pick, List.filterMap_cons, List.filterMap_nil, u_irg, u_irgB, Int.reduceLE, Int.reduceLT, Int.reduceNeg, u_unT, u_unL, u_unW, u_max, u_min, u_abs, u_tup, u_lst, u_lc, u_app0, u_app, u_ext0, u_ext, u_par2, u_par3, u_zip, u_aug0, u_aug, u_aug2, u_ch, u_ch1, u_ch2, u_ch3, e_int, ne_int, e_bl, ne_bl, q_aa, q_af, q_ac, q_fa, q_ff, q_fc, q_ca, q_cf, q_cc, is_non, is_int, isn_non, isn_int, ix_t0, ix_t1, ix_t2, ix_l0, ix_l1, x_asc, x_kco, x_ite, decide_eq_true_eq, Bool.not_eq_true', decide_eq_false_iff_not, u_srT, u_srL, u_srW, isT, seqV, tupV, lstV, u_join, Option.getD, ha, w_mod h0, w_div h0 h1]
  · have e1 : ∀ x : Int, fMul (.fz (.int 48271)) (.fz (.int x)) = .ok (.fz (.int (48271 * x))) := fun x => w_mulL (by decide)
    have e2 : ∀ x : Int, fMul (.fz (.int x)) (.fz (.int (39373 + (c + 1)))) = .ok (.fz (.int (x * (39373 + (c + 1))))) := fun x => w_mulR (by omega)
    have e3 : ∀ x y : Int, fMul (.fz (.int x)) (.fz (.int (y % 40009 + 7))) = .ok (.fz (.int (x * (y % 40009 + 7)))) := fun x y => w_mulR (by omega)
    have e4 : ∀ x : Int, fMul (.fz (.int x)) (.fz (.int 48271)) = .ok (.fz (.int (x * 48271))) := fun x => w_mulR (by decide)
    refine ⟨(((((b + 48271 * (c + 1)) * (39373 + (c + 1))) % 2147483647 + (c + 1) + b / 1000003) * ((((b + 48271 * (c + 1)) * (39373 + (c + 1))) % 2147483647) % 40009 + 7) % 2147483629) * 48271 + ((b + 48271 * (c + 1)) * (39373 + (c + 1))) % 2147483647) % 2147483587 / 64 % n, ⟨a, b, c + 1⟩, Int.emod_nonneg _ (by omega), Int.emod_lt_of_pos _ h0, ⟨by simp only; omega, by simp only; omega⟩, ?_⟩
    have m1 : ∀ x : Int, fMod (.fz (.int x)) (.fz (.int 2147483647)) = .ok (.fz (.int (x % 2147483647))) := fun x => w_mod (by decide)
    have m2 : ∀ x : Int, fMod (.fz (.int x)) (.fz (.int 40009)) = .ok (.fz (.int (x % 40009))) := fun x => w_mod (by decide)
    have m3 : ∀ x : Int, fMod (.fz (.int x)) (.fz (.int 2147483629)) = .ok (.fz (.int (x % 2147483629))) := fun x => w_mod (by decide)
    have m4 : ∀ x : Int, fMod (.fz (.int x)) (.fz (.int 2147483587)) = .ok (.fz (.int (x % 2147483587))) := fun x => w_mod (by decide)
    have d1 : ∀ x : Int, fDiv (.fz (.int x)) (.fz (.int 1000003)) = .ok (.fz (.int (x / 1000003))) := fun x => w_div (by decide) (by decide)
    have d2 : ∀ x : Int, fDiv (.fz (.int x)) (.fz (.int 64)) = .ok (.fz (.int (x / 64))) := fun x => w_div (by decide) (by decide)
    simp only [F_law_take, m_law_take, v_bin6, v_bin5, v_bin4, v_bin3, v_bin2, v_bin1, v_bin, v_un3, v_un2, v_un1, v_un, v_test2, v_test1, v_test, v_cons3, v_cons2, v_cons1, v_cons, v_star4, v_star3, v_star2, v_star1, v_star, v_tup2, v_tup1, v_tup, v_lst2, v_lst1, v_lst, v_callB3, v_callB2, v_callB1, v_callB, v_andT1, v_andT, v_orT1, v_orT, v_notT1, v_notT, v_and2, v_and1, v_and, v_or2, v_or1, v_or, v_not2, v_not1, v_not, v_if1, v_if, v_orL1, v_orL, v_seq1, v_seq, v_ifS1, v_ifS, v_ret2, v_ret1, v_ret, v_drop1, v_drop, v_asg3, v_asg2, v_asg1, v_asg, v_gset1, v_gset, v_gsub5, v_gsub4, v_gsub3, v_gsub2, v_gsub1, v_gsub, v_gsc1, v_gsc, v_gsn1, v_gsn, v_for1, v_for, v_forc2, v_forc1, v_forc, v_lcc2, v_lcc1, v_lcc, v_lcT3, v_lcT2, v_lcT1, v_lcT, v_lc4, v_lc1, v_lc, v_def4, v_def3, v_def2, v_def1, v_def, v_callV4, v_callV3, v_callV2, v_callV1, v_callV, v_callP4, v_callP3, v_callP2, v_callP1, v_callP, v_callKV5, v_callKV4, v_callKV3, v_callKV2, v_callKV1, v_callKV, v_callKP5, v_callKP4, v_callKP3, v_callKP2, v_callKP1, v_callKP, v_callIO5, v_callIO4, v_callIO3, v_callIO2, v_callIO1, v_callIO, v_app7, v_app6, v_app5, v_app4, v_app3, v_app2, v_app1, v_app, v_sl6, v_sl5, v_sl4, v_sl3, v_sl2, v_sl1, v_sl, v_oS2, v_oS1, v_oS, v_iseq3, v_iseq2, v_iseq1, v_iseq, v_ienum3, v_ienum2, v_ienum1, v_ienum, v_irg1, v_irg, v_rgTup3, v_rgTup2, v_rgTup1, v_rgTup, v_argsc2, v_argsc1, v_argsc, v_putc1, v_putc, v_takesc2, v_takesc1, v_takesc, v_contsc2, v_contsc1, v_contsc, v_backsI2, v_backsI1, v_backsI, v_binF7, v_binF6, v_binF5, v_binF4, v_binF3, v_binF2, v_binF1, v_binF, v_par22, v_par21, v_par2, v_par32, v_par31, v_par3, v_ext8, v_ext7, v_ext6, v_ext5, v_ext4, v_ext3, v_ext2, v_ext1, v_ext, v_zip2, v_zip1, v_zip, v_irgB3, v_irgB2, v_irgB1, v_irgB, v_rgLst3, v_rgLst2, v_rgLst1, v_rgLst, v_rgTupB5, v_rgTupB4, v_rgTupB3, v_rgTupB2, v_rgTupB1, v_rgTupB, v_rgLstB5, v_rgLstB4, v_rgLstB3, v_rgLstB2, v_rgLstB1, v_rgLstB, v_ok, v_c, v_nil, v_next, v_yes, v_oN, v_gtup, v_var, v_for0, v_lc0, v_args0, v_put0, v_takes0, v_conts0, v_backs0, w_add, w_sub, w_neg, w_lt, w_le, w_gt, w_ge, w_intI, w_intB, w_ix0, w_ix1, w_ix2, w_i0, w_i1, w_i2, pend, cont, take, frz, frzs, getP, setP, Res.of, boolOf, isPl, mutS, mutP, intOf, move, retOf, backs1, put1, fzT, ioOf, chk, early, shut, isTmp, flatB, scal, List.map_cons, List.map_nil, List.cons_append, List.nil_append, List.append_nil, List.replicate_succ, List.replicate_zero, List.replicate, List.length_cons, List.length_nil, List.getElem?_cons_zero, List.getElem?_cons_succ, List.set_cons_zero, List.set_cons_succ, List.all_cons, List.all_nil, List.contains_cons, List.contains_nil, List.elem_cons, List.elem_nil, List.isEmpty_nil, List.isEmpty_cons, Nat.reduceAdd, Nat.reduceSub, Nat.reduceBEq, Nat.reduceLT, Nat.reduceLeDiff, Nat.reduceEqDiff, decide_true, decide_false, Bool.and_true, Bool.true_and, Bool.or_true, Bool.true_or, Bool.or_false, Bool.false_or, Bool.and_false, Bool.false_and, Bool.not_true, Bool.not_false, Bool.false_eq_true, reduceIte, ite_true, ite_false, beq_self_eq_true, Nat.zero_add, reduceCtorEq, and_self, true_and, and_true, ge_iff_le, gt_iff_lt, Nat.succ_eq_add_one, Nat.add_one_sub_one, Nat.zero_lt_succ, Nat.lt_add_left_iff_pos, wipeE, restE, pick, List.filterMap_cons, List.filterMap_nil, u_irg, u_irgB, Int.reduceLE, Int.reduceLT, Int.reduceNeg, u_unT, u_unL, u_unW, u_max, u_min, u_abs, u_tup, u_lst, u_lc, u_app0, u_app, u_ext0, u_ext, u_par2, u_par3, u_zip, u_aug0, u_aug, u_aug2, u_ch, u_ch1, u_ch2, u_ch3, e_int, ne_int, e_bl, ne_bl, q_aa, q_af, q_ac, q_fa, q_ff, q_fc, q_ca, q_cf, q_cc, is_non, is_int, isn_non, isn_int, ix_t0, ix_t1, ix_t2, ix_l0, ix_l1, x_asc, x_kco, x_ite, decide_eq_true_eq, Bool.not_eq_true', decide_eq_false_iff_not, u_srT, u_srL, u_srW, isT, seqV, tupV, lstV, u_join, Option.getD, ha, w_mod h0, e1, e2, e3, e4, m1, m2, m3, m4, d1, d2]
abbrev cw (cs : List Int) : W := .lst (cs.map fun n => W.fz (.int n))
theorem unfz_cw : ∀ cs : List Int, unfz (cs.map fun n => W.fz (.int n)) = some (cs.map D.int)
  | [] => rfl
  | n :: cs => by
    show (match unfz (cs.map fun n => W.fz (.int n)) with | some ds => some (D.int n :: ds) | none => none) = _
    rw [unfz_cw cs]; rfl
theorem frzs_cw : ∀ cs : List Int, frzs (cs.map fun n => W.fz (.int n)) = cs.map D.int
  | [] => rfl
  | n :: cs => by
    show D.int n :: frzs (cs.map fun n => W.fz (.int n)) = _
    rw [frzs_cw cs]; rfl
theorem ixN_pos {n : Nat} {k : Int} (h0 : 0 ≤ k) (h1 : k < n) : L2.ixN n k = some k.toNat := by unfold L2.ixN; rw [if_pos h0, if_pos h1]
theorem ixcw {cs : List Int} {k v : Int} {j : Nat} (hk : L2.ixN cs.length k = some j) (hv : cs[j]? = some v) : fIdx (cw cs) (.fz (.int k)) = .ok (.fz (.int v)) :=
  w_ix (ds := cs.map D.int) (unfz_cw cs) (by rw [List.length_map]; exact hk) (by rw [List.getElem?_map, hv]; rfl)
theorem ixfl {cs : List Int} {k v : Int} {j : Nat} (hk : L2.ixN cs.length k = some j) (hv : cs[j]? = some v) : fIdx (.fz (.lst (cs.map D.int))) (.fz (.int k)) = .ok (.fz (.int v)) :=
  w_ix (ds := cs.map D.int) rfl (by rw [List.length_map]; exact hk) (by rw [List.getElem?_map, hv]; rfl)
theorem box_ok {cs : List Int} {k : Int} (h0 : 0 ≤ k) (h1 : k < cs.length) : ∃ β : Bx, β.c = 0 ∧ F_law_box [.fz (.lst (cs.map D.int)), .fz (.int k)] = .ok (bx β, [.fz (.lst (cs.map D.int)), .fz (.int k)]) := by
  obtain ⟨v, hv⟩ : ∃ v, cs[k.toNat]? = some v := ⟨cs[k.toNat]'(by omega), List.getElem?_eq_getElem _⟩
  have i1 := ixfl (ixN_pos h0 h1) hv
  have l1 : fLen [.fz (.lst (cs.map D.int))] = .ok (.fz (.int cs.length)) := by show Res.ok (W.fz (.int (cs.map D.int).length)) = _; rw [List.length_map]
  have p1 : fPow (.fz (.int 10)) (.fz (.int 18)) = .ok (.fz (.int 1000000000000000000)) := by kernel_rfl
  have m1 : ∀ x y : Int, fMul (.fz (.int x)) (.fz (.int (if 1000000000000000000 ≤ y then 1 else 0))) = .ok (.fz (.int (x * (if 1000000000000000000 ≤ y then 1 else 0)))) := fun x y => w_mulR (by split <;> decide)
  have m2 : ∀ x : Int, fMod (.fz (.int x)) (.fz (.int 2305843009213693951)) = .ok (.fz (.int (x % 2305843009213693951))) := fun x => w_mod (by decide)
  have m3 : fMul (.fz (.int 39373)) (.fz (.int k)) = .ok (.fz (.int (39373 * k))) := w_mulL (by decide)
  refine ⟨⟨(max v (-v)) * (if 1000000000000000000 ≤ (max v (-v)) then 1 else 0), v % 2305843009213693951 + 39373 * k + 62328, 0⟩, rfl, ?_⟩
  simp only [F_law_box, m_law_box, v_bin6, v_bin5, v_bin4, v_bin3, v_bin2, v_bin1, v_bin, v_un3, v_un2, v_un1, v_un, v_test2, v_test1, v_test, v_cons3, v_cons2, v_cons1, v_cons, v_star4, v_star3, v_star2, v_star1, v_star, v_tup2, v_tup1, v_tup, v_lst2, v_lst1, v_lst, v_callB3, v_callB2, v_callB1, v_callB, v_andT1, v_andT, v_orT1, v_orT, v_notT1, v_notT, v_and2, v_and1, v_and, v_or2, v_or1, v_or, v_not2, v_not1, v_not, v_if1, v_if, v_orL1, v_orL, v_seq1, v_seq, v_ifS1, v_ifS, v_ret2, v_ret1, v_ret, v_drop1, v_drop, v_asg3, v_asg2, v_asg1, v_asg, v_gset1, v_gset, v_gsub5, v_gsub4, v_gsub3, v_gsub2, v_gsub1, v_gsub, v_gsc1, v_gsc, v_gsn1, v_gsn, v_for1, v_for, v_forc2, v_forc1, v_forc, v_lcc2, v_lcc1, v_lcc, v_lcT3, v_lcT2, v_lcT1, v_lcT, v_lc4, v_lc1, v_lc, v_def4, v_def3, v_def2, v_def1, v_def, v_callV4, v_callV3, v_callV2, v_callV1, v_callV, v_callP4, v_callP3, v_callP2, v_callP1, v_callP, v_callKV5, v_callKV4, v_callKV3, v_callKV2, v_callKV1, v_callKV, v_callKP5, v_callKP4, v_callKP3, v_callKP2, v_callKP1, v_callKP, v_callIO5, v_callIO4, v_callIO3, v_callIO2, v_callIO1, v_callIO, v_app7, v_app6, v_app5, v_app4, v_app3, v_app2, v_app1, v_app, v_sl6, v_sl5, v_sl4, v_sl3, v_sl2, v_sl1, v_sl, v_oS2, v_oS1, v_oS, v_iseq3, v_iseq2, v_iseq1, v_iseq, v_ienum3, v_ienum2, v_ienum1, v_ienum, v_irg1, v_irg, v_rgTup3, v_rgTup2, v_rgTup1, v_rgTup, v_argsc2, v_argsc1, v_argsc, v_putc1, v_putc, v_takesc2, v_takesc1, v_takesc, v_contsc2, v_contsc1, v_contsc, v_backsI2, v_backsI1, v_backsI, v_binF7, v_binF6, v_binF5, v_binF4, v_binF3, v_binF2, v_binF1, v_binF, v_par22, v_par21, v_par2, v_par32, v_par31, v_par3, v_ext8, v_ext7, v_ext6, v_ext5, v_ext4, v_ext3, v_ext2, v_ext1, v_ext, v_zip2, v_zip1, v_zip, v_irgB3, v_irgB2, v_irgB1, v_irgB, v_rgLst3, v_rgLst2, v_rgLst1, v_rgLst, v_rgTupB5, v_rgTupB4, v_rgTupB3, v_rgTupB2, v_rgTupB1, v_rgTupB, v_rgLstB5, v_rgLstB4, v_rgLstB3, v_rgLstB2, v_rgLstB1, v_rgLstB, v_ok, v_c, v_nil, v_next, v_yes, v_oN, v_gtup, v_var, v_for0, v_lc0, v_args0, v_put0, v_takes0, v_conts0, v_backs0, w_add, w_sub, w_neg, w_lt, w_le, w_gt, w_ge, w_intI, w_intB, w_ix0, w_ix1, w_ix2, w_i0, w_i1, w_i2, pend, cont, take, frz, frzs, getP, setP, Res.of, boolOf, isPl, mutS, mutP, intOf, move, retOf, backs1, put1, fzT, ioOf, chk, early, shut, isTmp, flatB, scal, List.map_cons, List.map_nil, List.cons_append, List.nil_append, List.append_nil, List.replicate_succ, List.replicate_zero, List.replicate, List.length_cons, List.length_nil, List.getElem?_cons_zero, List.getElem?_cons_succ, List.set_cons_zero, List.set_cons_succ, List.all_cons, List.all_nil, List.contains_cons, List.contains_nil, List.elem_cons, List.elem_nil, List.isEmpty_nil, List.isEmpty_cons, Nat.reduceAdd, Nat.reduceSub, Nat.reduceBEq, Nat.reduceLT, Nat.reduceLeDiff, Nat.reduceEqDiff, decide_true, decide_false, Bool.and_true, Bool.true_and, Bool.or_true, Bool.true_or, Bool.or_false, Bool.false_or, Bool.and_false, Bool.false_and, Bool.not_true, Bool.not_false, Bool.false_eq_true, reduceIte, ite_true, ite_false, beq_self_eq_true, Nat.zero_add, reduceCtorEq, and_self, true_and, and_true, ge_iff_le, gt_iff_lt, Nat.succ_eq_add_one, Nat.add_one_sub_one, Nat.zero_lt_succ, Nat.lt_add_left_iff_pos, wipeE, restE, pick, List.filterMap_cons, List.filterMap_nil, u_irg, u_irgB, Int.reduceLE, Int.reduceLT, Int.reduceNeg, u_unT, u_unL, u_unW, u_max, u_min, u_abs, u_tup, u_lst, u_lc, u_app0, u_app, u_ext0, u_ext, u_par2, u_par3, u_zip, u_aug0, u_aug, u_aug2, u_ch, u_ch1, u_ch2, u_ch3, e_int, ne_int, e_bl, ne_bl, q_aa, q_af, q_ac, q_fa, q_ff, q_fc, q_ca, q_cf, q_cc, is_non, is_int, isn_non, isn_int, ix_t0, ix_t1, ix_t2, ix_l0, ix_l1, x_asc, x_kco, x_ite, decide_eq_true_eq, Bool.not_eq_true', decide_eq_false_iff_not, u_srT, u_srL, u_srW, isT, seqV, tupV, lstV, u_join, Option.getD, l1, h1, i1, p1, m1, m2, m3]
theorem cw_set (cs : List Int) (j : Nat) (v : Int) : cw (cs.set j v) = .lst ((cs.map fun n => W.fz (.int n)).set j (.fz (.int v))) := by unfold cw; rw [List.map_set]
def cutL (ns : List Int) (lo hi : Option Int) : List Int := (ns.drop (HT.sIx ns.length 0 lo)).take (HT.sIx ns.length ns.length hi - HT.sIx ns.length 0 lo)
theorem cut_eq (ns : List Int) (lo hi : Option Int)   : Mi.cutD (ns.map D.int) lo hi = (cutL ns lo hi).map D.int := by
  unfold Mi.cutD cutL
  rw [List.length_map, List.map_take, List.map_drop]
theorem loop_ok {s : W} {t : Nat} (ht : 0 < t) (ht2 : t < 1000) : ∀ (vs : List Int) (i : Nat) (cs : List Int) (o3 o4 o5 : Option W), i + vs.length < 1000 → cs.length = t → ∃ cs' o3' o4' o5', cs'.length = t ∧
    forL (gUnp (gsCons (gSet 3) (gsCons (gSet 4) gsNil))) L_law_cells_1 (enumD i (vs.map D.int)) [some s, some (.fz (.int t)), some (cw cs), o3, o4, o5] = .ok (.nx, [some s, some (.fz (.int t)), some (cw cs'), o3', o4', o5'])
  | [], i, cs, o3, o4, o5, _, hc => ⟨cs, o3, o4, o5, hc, rfl⟩
  | v :: vs, i, cs, o3, o4, o5, hi, hc => by
    have hi' : i + 1 + vs.length < 1000 := by simp only [List.length_cons] at hi; omega
    have tp : (0 : Int) < (t : Int) := by omega
    have k0 : 0 ≤ ((i : Nat) : Int) % (t : Int) := Int.emod_nonneg _ (by omega)
    have k1 : ((i : Nat) : Int) % (t : Int) < cs.length := by rw [hc]; exact Int.emod_lt_of_pos _ tp
    have hj := ixN_pos k0 k1
    obtain ⟨x, hx⟩ : ∃ x, cs[(((i : Nat) : Int) % (t : Int)).toNat]? = some x := ⟨cs[(((i : Nat) : Int) % (t : Int)).toNat]'(by omega), List.getElem?_eq_getElem _⟩
    have i1 := ixcw hj hx
    have m1 : fMul (.fz (.int v)) (.fz (.int ((i : Nat) + 2))) = .ok (.fz (.int (v * ((i : Nat) + 2)))) := w_mulR (by simp only [List.length_cons] at hi; omega)
    have md : fMod (.fz (.int ((i : Nat) : Int))) (.fz (.int (t : Int))) = .ok (.fz (.int (((i : Nat) : Int) % (t : Int)))) := w_mod tp
    obtain ⟨cs', o3', o4', o5', hl, e⟩ := loop_ok (s := s) ht ht2 vs (i + 1) (cs.set (((i : Nat) : Int) % (t : Int)).toNat (x + v * ((i : Nat) + 2))) (some (.fz (.int (i : Nat)))) (some (.fz (.int v))) (some (.fz (.int (((i : Nat) : Int) % (t : Int))))) hi' (by rw [List.length_set]; exact hc)
    refine ⟨cs', o3', o4', o5', hl, ?_⟩
    rw [← e]
    have hen : enumD i (List.map D.int (v :: vs)) = .tup [.int (i : Nat), .int v] :: enumD (i + 1) (vs.map D.int) := rfl
    rw [hen]
    simp only [L_law_cells_1, v_bin6, v_bin5, v_bin4, v_bin3, v_bin2, v_bin1, v_bin, v_un3, v_un2, v_un1, v_un, v_test2, v_test1, v_test, v_cons3, v_cons2, v_cons1, v_cons, v_star4, v_star3, v_star2, v_star1, v_star, v_tup2, v_tup1, v_tup, v_lst2, v_lst1, v_lst, v_callB3, v_callB2, v_callB1, v_callB, v_andT1, v_andT, v_orT1, v_orT, v_notT1, v_notT, v_and2, v_and1, v_and, v_or2, v_or1, v_or, v_not2, v_not1, v_not, v_if1, v_if, v_orL1, v_orL, v_seq1, v_seq, v_ifS1, v_ifS, v_ret2, v_ret1, v_ret, v_drop1, v_drop, v_asg3, v_asg2, v_asg1, v_asg, v_gset1, v_gset, v_gsub5, v_gsub4, v_gsub3, v_gsub2, v_gsub1, v_gsub, v_gsc1, v_gsc, v_gsn1, v_gsn, v_for1, v_for, v_forc2, v_forc1, v_forc, v_lcc2, v_lcc1, v_lcc, v_lcT3, v_lcT2, v_lcT1, v_lcT, v_lc4, v_lc1, v_lc, v_def4, v_def3, v_def2, v_def1, v_def, v_callV4, v_callV3, v_callV2, v_callV1, v_callV, v_callP4, v_callP3, v_callP2, v_callP1, v_callP, v_callKV5, v_callKV4, v_callKV3, v_callKV2, v_callKV1, v_callKV, v_callKP5, v_callKP4, v_callKP3, v_callKP2, v_callKP1, v_callKP, v_callIO5, v_callIO4, v_callIO3, v_callIO2, v_callIO1, v_callIO, v_app7, v_app6, v_app5, v_app4, v_app3, v_app2, v_app1, v_app, v_sl6, v_sl5, v_sl4, v_sl3, v_sl2, v_sl1, v_sl, v_oS2, v_oS1, v_oS, v_iseq3, v_iseq2, v_iseq1, v_iseq, v_ienum3, v_ienum2, v_ienum1, v_ienum, v_irg1, v_irg, v_rgTup3, v_rgTup2, v_rgTup1, v_rgTup, v_argsc2, v_argsc1, v_argsc, v_putc1, v_putc, v_takesc2, v_takesc1, v_takesc, v_contsc2, v_contsc1, v_contsc, v_backsI2, v_backsI1, v_backsI, v_binF7, v_binF6, v_binF5, v_binF4, v_binF3, v_binF2, v_binF1, v_binF, v_par22, v_par21, v_par2, v_par32, v_par31, v_par3, v_ext8, v_ext7, v_ext6, v_ext5, v_ext4, v_ext3, v_ext2, v_ext1, v_ext, v_zip2, v_zip1, v_zip, v_irgB3, v_irgB2, v_irgB1, v_irgB, v_rgLst3, v_rgLst2, v_rgLst1, v_rgLst, v_rgTupB5, v_rgTupB4, v_rgTupB3, v_rgTupB2, v_rgTupB1, v_rgTupB, v_rgLstB5, v_rgLstB4, v_rgLstB3, v_rgLstB2, v_rgLstB1, v_rgLstB, v_ok, v_c, v_nil, v_next, v_yes, v_oN, v_gtup, v_var, v_for0, v_lc0, v_args0, v_put0, v_takes0, v_conts0, v_backs0, w_add, w_sub, w_neg, w_lt, w_le, w_gt, w_ge, w_intI, w_intB, w_ix0, w_ix1, w_ix2, w_i0, w_i1, w_i2, pend, cont, take, frz, frzs, getP, setP, Res.of, boolOf, isPl, mutS, mutP, intOf, move, retOf, backs1, put1, fzT, ioOf, chk, early, shut, isTmp, flatB, scal, List.map_cons, List.map_nil, List.cons_append, List.nil_append, List.append_nil, List.replicate_succ, List.replicate_zero, List.replicate, List.length_cons, List.length_nil, List.getElem?_cons_zero, List.getElem?_cons_succ, List.set_cons_zero, List.set_cons_succ, List.all_cons, List.all_nil, List.contains_cons, List.contains_nil, List.elem_cons, List.elem_nil, List.isEmpty_nil, List.isEmpty_cons, Nat.reduceAdd, Nat.reduceSub, Nat.reduceBEq, Nat.reduceLT, Nat.reduceLeDiff, Nat.reduceEqDiff, decide_true, decide_false, Bool.and_true, Bool.true_and, Bool.or_true, Bool.true_or, Bool.or_false, Bool.false_or, Bool.and_false, Bool.false_and, Bool.not_true, Bool.not_false, Bool.false_eq_true, reduceIte, ite_true, ite_false, beq_self_eq_true, Nat.zero_add, reduceCtorEq, and_self, true_and, and_true, ge_iff_le, gt_iff_lt, Nat.succ_eq_add_one, Nat.add_one_sub_one, Nat.zero_lt_succ, Nat.lt_add_left_iff_pos, wipeE, restE, pick, List.filterMap_cons, List.filterMap_nil, u_irg, u_irgB, Int.reduceLE, Int.reduceLT, Int.reduceNeg, u_unT, u_unL, u_unW, u_max, u_min, u_abs, u_tup, u_lst, u_lc, u_app0, u_app, u_ext0, u_ext, u_par2, u_par3, u_zip, u_aug0, u_aug, u_aug2, u_ch, u_ch1, u_ch2, u_ch3, e_int, ne_int, e_bl, ne_bl, q_aa, q_af, q_ac, q_fa, q_ff, q_fc, q_ca, q_cf, q_cc, is_non, is_int, isn_non, isn_int, ix_t0, ix_t1, ix_t2, ix_l0, ix_l1, x_asc, x_kco, x_ite, decide_eq_true_eq, Bool.not_eq_true', decide_eq_false_iff_not, u_srT, u_srL, u_srW, isT, seqV, tupV, lstV, u_join, Option.getD, md, i1, m1, List.length_map, hj]
    rw [cw_set]
theorem sl_scr (ns : List Int) (lo hi : Option Int) : fSl (.fz (.scr (ns.map D.int))) lo hi = .ok (cw (cutL ns lo hi)) := by
  show Res.ok (W.lst ((Mi.cutD (ns.map D.int) lo hi).map W.fz)) = _
  rw [cut_eq, List.map_map]; rfl
theorem lst_fl0 : fList [.fz (.lst [])] = .ok (.lst []) := rfl
theorem lst_fl1 (c : Int) (cs : List Int) : fList [.fz (.lst (D.int c :: cs.map D.int))] = .ok (cw (c :: cs)) := by
  show Res.ok (W.lst ((D.int c :: cs.map D.int).map W.fz)) = _
  rw [List.map_cons, List.map_map]; rfl
theorem src_cw (cs : List Int) : srcV (cw cs) = some (cs.map D.int) := by show some (frzs _) = _; rw [frzs_cw]
theorem src0 : srcV (.lst []) = some [] := rfl
theorem cut_lo (ns : List Int) (t : Nat) : (cutL ns none (some (t : Int))).length = min t ns.length := by
  unfold cutL; rw [HT.sIx_none, HT.sIx_nat]; simp
theorem cut_hi (ns : List Int) (t : Nat) (h : ns.length < t) : cutL ns (some (t : Int)) (some 63) = [] := by
  unfold cutL; rw [HT.sIx_nat]
  rw [List.drop_of_length_le (by omega), List.take_nil]
theorem cut_hi2 (ns : List Int) (t : Nat) (h : ns.length ≤ 63) : (cutL ns (some (t : Int)) (some 63)).length ≤ 63 := by
  unfold cutL; simp only [List.length_take, List.length_drop]; omega
theorem cells_ok {ns : List Int} {t : Nat} (ht : 0 < t) (ht2 : t < 63) (hn : ns.length ≤ 63) : ∃ cs : List Int, 0 < cs.length ∧ cs.length ≤ t ∧ F_law_cells [.fz (.scr (ns.map D.int)), .fz (.int t)] = .ok (cw cs, [.fz (.scr (ns.map D.int)), .fz (.int t)]) := by
  have hl := cut_lo ns t
  have hh := cut_hi2 ns t hn
  have ki : ∀ k : Int, (match W.fz (.int k) with | .fz (.int k) => Res.ok k | _ => .err) = .ok k := fun _ => rfl
  by_cases h : ns.length < t
  · have h2 := cut_hi ns t h
    cases hc : cutL ns none (some (t : Int)) with
    | nil =>
      refine ⟨[0], by decide, by simp only [List.length_cons, List.length_nil]; omega, ?_⟩
      have l0 : cw [] = .lst [] := rfl
      simp only [F_law_cells, m_law_cells, v_bin6, v_bin5, v_bin4, v_bin3, v_bin2, v_bin1, v_bin, v_un3, v_un2, v_un1, v_un, v_test2, v_test1, v_test, v_cons3, v_cons2, v_cons1, v_cons, v_star4, v_star3, v_star2, v_star1, v_star, v_tup2, v_tup1, v_tup, v_lst2, v_lst1, v_lst, v_callB3, v_callB2, v_callB1, v_callB, v_andT1, v_andT, v_orT1, v_orT, v_notT1, v_notT, v_and2, v_and1, v_and, v_or2, v_or1, v_or, v_not2, v_not1, v_not, v_if1, v_if, v_orL1, v_orL, v_seq1, v_seq, v_ifS1, v_ifS, v_ret2, v_ret1, v_ret, v_drop1, v_drop, v_asg3, v_asg2, v_asg1, v_asg, v_gset1, v_gset, v_gsub5, v_gsub4, v_gsub3, v_gsub2, v_gsub1, v_gsub, v_gsc1, v_gsc, v_gsn1, v_gsn, v_for1, v_for, v_forc2, v_forc1, v_forc, v_lcc2, v_lcc1, v_lcc, v_lcT3, v_lcT2, v_lcT1, v_lcT, v_lc4, v_lc1, v_lc, v_def4, v_def3, v_def2, v_def1, v_def, v_callV4, v_callV3, v_callV2, v_callV1, v_callV, v_callP4, v_callP3, v_callP2, v_callP1, v_callP, v_callKV5, v_callKV4, v_callKV3, v_callKV2, v_callKV1, v_callKV, v_callKP5, v_callKP4, v_callKP3, v_callKP2, v_callKP1, v_callKP, v_callIO5, v_callIO4, v_callIO3, v_callIO2, v_callIO1, v_callIO, v_app7, v_app6, v_app5, v_app4, v_app3, v_app2, v_app1, v_app, v_sl6, v_sl5, v_sl4, v_sl3, v_sl2, v_sl1, v_sl, v_oS2, v_oS1, v_oS, v_iseq3, v_iseq2, v_iseq1, v_iseq, v_ienum3, v_ienum2, v_ienum1, v_ienum, v_irg1, v_irg, v_rgTup3, v_rgTup2, v_rgTup1, v_rgTup, v_argsc2, v_argsc1, v_argsc, v_putc1, v_putc, v_takesc2, v_takesc1, v_takesc, v_contsc2, v_contsc1, v_contsc, v_backsI2, v_backsI1, v_backsI, v_binF7, v_binF6, v_binF5, v_binF4, v_binF3, v_binF2, v_binF1, v_binF, v_par22, v_par21, v_par2, v_par32, v_par31, v_par3, v_ext8, v_ext7, v_ext6, v_ext5, v_ext4, v_ext3, v_ext2, v_ext1, v_ext, v_zip2, v_zip1, v_zip, v_irgB3, v_irgB2, v_irgB1, v_irgB, v_rgLst3, v_rgLst2, v_rgLst1, v_rgLst, v_rgTupB5, v_rgTupB4, v_rgTupB3, v_rgTupB2, v_rgTupB1, v_rgTupB, v_rgLstB5, v_rgLstB4, v_rgLstB3, v_rgLstB2, v_rgLstB1, v_rgLstB, v_ok, v_c, v_nil, v_next, v_yes, v_oN, v_gtup, v_var, v_for0, v_lc0, v_args0, v_put0, v_takes0, v_conts0, v_backs0, w_add, w_sub, w_neg, w_lt, w_le, w_gt, w_ge, w_intI, w_intB, w_ix0, w_ix1, w_ix2, w_i0, w_i1, w_i2, pend, cont, take, frz, frzs, getP, setP, Res.of, boolOf, isPl, mutS, mutP, intOf, move, retOf, backs1, put1, fzT, ioOf, chk, early, shut, isTmp, flatB, scal, List.map_cons, List.map_nil, List.cons_append, List.nil_append, List.append_nil, List.replicate_succ, List.replicate_zero, List.replicate, List.length_cons, List.length_nil, List.getElem?_cons_zero, List.getElem?_cons_succ, List.set_cons_zero, List.set_cons_succ, List.all_cons, List.all_nil, List.contains_cons, List.contains_nil, List.elem_cons, List.elem_nil, List.isEmpty_nil, List.isEmpty_cons, Nat.reduceAdd, Nat.reduceSub, Nat.reduceBEq, Nat.reduceLT, Nat.reduceLeDiff, Nat.reduceEqDiff, decide_true, decide_false, Bool.and_true, Bool.true_and, Bool.or_true, Bool.true_or, Bool.or_false, Bool.false_or, Bool.and_false, Bool.false_and, Bool.not_true, Bool.not_false, Bool.false_eq_true, reduceIte, ite_true, ite_false, beq_self_eq_true, Nat.zero_add, reduceCtorEq, and_self, true_and, and_true, ge_iff_le, gt_iff_lt, Nat.succ_eq_add_one, Nat.add_one_sub_one, Nat.zero_lt_succ, Nat.lt_add_left_iff_pos, wipeE, restE, pick, List.filterMap_cons, List.filterMap_nil, u_irg, u_irgB, Int.reduceLE, Int.reduceLT, Int.reduceNeg, u_unT, u_unL, u_unW, u_max, u_min, u_abs, u_tup, u_lst, u_lc, u_app0, u_app, u_ext0, u_ext, u_par2, u_par3, u_zip, u_aug0, u_aug, u_aug2, u_ch, u_ch1, u_ch2, u_ch3, e_int, ne_int, e_bl, ne_bl, q_aa, q_af, q_ac, q_fa, q_ff, q_fc, q_ca, q_cf, q_cc, is_non, is_int, isn_non, isn_int, ix_t0, ix_t1, ix_t2, ix_l0, ix_l1, x_asc, x_kco, x_ite, decide_eq_true_eq, Bool.not_eq_true', decide_eq_false_iff_not, u_srT, u_srL, u_srW, isT, seqV, tupV, lstV, u_join, Option.getD, sl_scr, frzs_cw, lst_fl0, lst_fl1, src0, hc, h2, src_cw, l0, enumD]
      rfl
    | cons c cs =>
      rw [hc] at hl
      refine ⟨c :: cs, by simp, by rw [hl]; omega, ?_⟩
      simp only [F_law_cells, m_law_cells, v_bin6, v_bin5, v_bin4, v_bin3, v_bin2, v_bin1, v_bin, v_un3, v_un2, v_un1, v_un, v_test2, v_test1, v_test, v_cons3, v_cons2, v_cons1, v_cons, v_star4, v_star3, v_star2, v_star1, v_star, v_tup2, v_tup1, v_tup, v_lst2, v_lst1, v_lst, v_callB3, v_callB2, v_callB1, v_callB, v_andT1, v_andT, v_orT1, v_orT, v_notT1, v_notT, v_and2, v_and1, v_and, v_or2, v_or1, v_or, v_not2, v_not1, v_not, v_if1, v_if, v_orL1, v_orL, v_seq1, v_seq, v_ifS1, v_ifS, v_ret2, v_ret1, v_ret, v_drop1, v_drop, v_asg3, v_asg2, v_asg1, v_asg, v_gset1, v_gset, v_gsub5, v_gsub4, v_gsub3, v_gsub2, v_gsub1, v_gsub, v_gsc1, v_gsc, v_gsn1, v_gsn, v_for1, v_for, v_forc2, v_forc1, v_forc, v_lcc2, v_lcc1, v_lcc, v_lcT3, v_lcT2, v_lcT1, v_lcT, v_lc4, v_lc1, v_lc, v_def4, v_def3, v_def2, v_def1, v_def, v_callV4, v_callV3, v_callV2, v_callV1, v_callV, v_callP4, v_callP3, v_callP2, v_callP1, v_callP, v_callKV5, v_callKV4, v_callKV3, v_callKV2, v_callKV1, v_callKV, v_callKP5, v_callKP4, v_callKP3, v_callKP2, v_callKP1, v_callKP, v_callIO5, v_callIO4, v_callIO3, v_callIO2, v_callIO1, v_callIO, v_app7, v_app6, v_app5, v_app4, v_app3, v_app2, v_app1, v_app, v_sl6, v_sl5, v_sl4, v_sl3, v_sl2, v_sl1, v_sl, v_oS2, v_oS1, v_oS, v_iseq3, v_iseq2, v_iseq1, v_iseq, v_ienum3, v_ienum2, v_ienum1, v_ienum, v_irg1, v_irg, v_rgTup3, v_rgTup2, v_rgTup1, v_rgTup, v_argsc2, v_argsc1, v_argsc, v_putc1, v_putc, v_takesc2, v_takesc1, v_takesc, v_contsc2, v_contsc1, v_contsc, v_backsI2, v_backsI1, v_backsI, v_binF7, v_binF6, v_binF5, v_binF4, v_binF3, v_binF2, v_binF1, v_binF, v_par22, v_par21, v_par2, v_par32, v_par31, v_par3, v_ext8, v_ext7, v_ext6, v_ext5, v_ext4, v_ext3, v_ext2, v_ext1, v_ext, v_zip2, v_zip1, v_zip, v_irgB3, v_irgB2, v_irgB1, v_irgB, v_rgLst3, v_rgLst2, v_rgLst1, v_rgLst, v_rgTupB5, v_rgTupB4, v_rgTupB3, v_rgTupB2, v_rgTupB1, v_rgTupB, v_rgLstB5, v_rgLstB4, v_rgLstB3, v_rgLstB2, v_rgLstB1, v_rgLstB, v_ok, v_c, v_nil, v_next, v_yes, v_oN, v_gtup, v_var, v_for0, v_lc0, v_args0, v_put0, v_takes0, v_conts0, v_backs0, w_add, w_sub, w_neg, w_lt, w_le, w_gt, w_ge, w_intI, w_intB, w_ix0, w_ix1, w_ix2, w_i0, w_i1, w_i2, pend, cont, take, frz, frzs, getP, setP, Res.of, boolOf, isPl, mutS, mutP, intOf, move, retOf, backs1, put1, fzT, ioOf, chk, early, shut, isTmp, flatB, scal, List.map_cons, List.map_nil, List.cons_append, List.nil_append, List.append_nil, List.replicate_succ, List.replicate_zero, List.replicate, List.length_cons, List.length_nil, List.getElem?_cons_zero, List.getElem?_cons_succ, List.set_cons_zero, List.set_cons_succ, List.all_cons, List.all_nil, List.contains_cons, List.contains_nil, List.elem_cons, List.elem_nil, List.isEmpty_nil, List.isEmpty_cons, Nat.reduceAdd, Nat.reduceSub, Nat.reduceBEq, Nat.reduceLT, Nat.reduceLeDiff, Nat.reduceEqDiff, decide_true, decide_false, Bool.and_true, Bool.true_and, Bool.or_true, Bool.true_or, Bool.or_false, Bool.false_or, Bool.and_false, Bool.false_and, Bool.not_true, Bool.not_false, Bool.false_eq_true, reduceIte, ite_true, ite_false, beq_self_eq_true, Nat.zero_add, reduceCtorEq, and_self, true_and, and_true, ge_iff_le, gt_iff_lt, Nat.succ_eq_add_one, Nat.add_one_sub_one, Nat.zero_lt_succ, Nat.lt_add_left_iff_pos, wipeE, restE, pick, List.filterMap_cons, List.filterMap_nil, u_irg, u_irgB, Int.reduceLE, Int.reduceLT, Int.reduceNeg, u_unT, u_unL, u_unW, u_max, u_min, u_abs, u_tup, u_lst, u_lc, u_app0, u_app, u_ext0, u_ext, u_par2, u_par3, u_zip, u_aug0, u_aug, u_aug2, u_ch, u_ch1, u_ch2, u_ch3, e_int, ne_int, e_bl, ne_bl, q_aa, q_af, q_ac, q_fa, q_ff, q_fc, q_ca, q_cf, q_cc, is_non, is_int, isn_non, isn_int, ix_t0, ix_t1, ix_t2, ix_l0, ix_l1, x_asc, x_kco, x_ite, decide_eq_true_eq, Bool.not_eq_true', decide_eq_false_iff_not, u_srT, u_srL, u_srW, isT, seqV, tupV, lstV, u_join, Option.getD, sl_scr, frzs_cw, lst_fl0, lst_fl1, src0, hc, h2, src_cw, enumD]
      rfl
  · obtain ⟨c, cs, hc⟩ : ∃ c cs, cutL ns none (some (t : Int)) = c :: cs := by
      cases hc : cutL ns none (some (t : Int)) with
      | nil => rw [hc] at hl; simp only [List.length_nil] at hl; omega
      | cons c cs => exact ⟨c, cs, rfl⟩
    rw [hc] at hl
    obtain ⟨cs', o3', o4', o5', q1, q2⟩ := loop_ok (s := .fz (.scr (ns.map D.int))) ht (by omega) (cutL ns (some (t : Int)) (some 63)) 0 (c :: cs) none none none (by omega) (by rw [hl]; omega)
    refine ⟨cs', by omega, by omega, ?_⟩
    have q3 : forL (gUnp (gsCons (gSet 3) (gsCons (gSet 4) gsNil))) L_law_cells_1 (enumD 0 ((cutL ns (some (t : Int)) (some 63)).map D.int)) [some (.fz (.scr (ns.map D.int))), some (.fz (.int t)), some (.lst (W.fz (.int c) :: cs.map fun n => W.fz (.int n))), none, none, none] = _ := q2
    simp only [F_law_cells, m_law_cells, v_bin6, v_bin5, v_bin4, v_bin3, v_bin2, v_bin1, v_bin, v_un3, v_un2, v_un1, v_un, v_test2, v_test1, v_test, v_cons3, v_cons2, v_cons1, v_cons, v_star4, v_star3, v_star2, v_star1, v_star, v_tup2, v_tup1, v_tup, v_lst2, v_lst1, v_lst, v_callB3, v_callB2, v_callB1, v_callB, v_andT1, v_andT, v_orT1, v_orT, v_notT1, v_notT, v_and2, v_and1, v_and, v_or2, v_or1, v_or, v_not2, v_not1, v_not, v_if1, v_if, v_orL1, v_orL, v_seq1, v_seq, v_ifS1, v_ifS, v_ret2, v_ret1, v_ret, v_drop1, v_drop, v_asg3, v_asg2, v_asg1, v_asg, v_gset1, v_gset, v_gsub5, v_gsub4, v_gsub3, v_gsub2, v_gsub1, v_gsub, v_gsc1, v_gsc, v_gsn1, v_gsn, v_for1, v_for, v_forc2, v_forc1, v_forc, v_lcc2, v_lcc1, v_lcc, v_lcT3, v_lcT2, v_lcT1, v_lcT, v_lc4, v_lc1, v_lc, v_def4, v_def3, v_def2, v_def1, v_def, v_callV4, v_callV3, v_callV2, v_callV1, v_callV, v_callP4, v_callP3, v_callP2, v_callP1, v_callP, v_callKV5, v_callKV4, v_callKV3, v_callKV2, v_callKV1, v_callKV, v_callKP5, v_callKP4, v_callKP3, v_callKP2, v_callKP1, v_callKP, v_callIO5, v_callIO4, v_callIO3, v_callIO2, v_callIO1, v_callIO, v_app7, v_app6, v_app5, v_app4, v_app3, v_app2, v_app1, v_app, v_sl6, v_sl5, v_sl4, v_sl3, v_sl2, v_sl1, v_sl, v_oS2, v_oS1, v_oS, v_iseq3, v_iseq2, v_iseq1, v_iseq, v_ienum3, v_ienum2, v_ienum1, v_ienum, v_irg1, v_irg, v_rgTup3, v_rgTup2, v_rgTup1, v_rgTup, v_argsc2, v_argsc1, v_argsc, v_putc1, v_putc, v_takesc2, v_takesc1, v_takesc, v_contsc2, v_contsc1, v_contsc, v_backsI2, v_backsI1, v_backsI, v_binF7, v_binF6, v_binF5, v_binF4, v_binF3, v_binF2, v_binF1, v_binF, v_par22, v_par21, v_par2, v_par32, v_par31, v_par3, v_ext8, v_ext7, v_ext6, v_ext5, v_ext4, v_ext3, v_ext2, v_ext1, v_ext, v_zip2, v_zip1, v_zip, v_irgB3, v_irgB2, v_irgB1, v_irgB, v_rgLst3, v_rgLst2, v_rgLst1, v_rgLst, v_rgTupB5, v_rgTupB4, v_rgTupB3, v_rgTupB2, v_rgTupB1, v_rgTupB, v_rgLstB5, v_rgLstB4, v_rgLstB3, v_rgLstB2, v_rgLstB1, v_rgLstB, v_ok, v_c, v_nil, v_next, v_yes, v_oN, v_gtup, v_var, v_for0, v_lc0, v_args0, v_put0, v_takes0, v_conts0, v_backs0, w_add, w_sub, w_neg, w_lt, w_le, w_gt, w_ge, w_intI, w_intB, w_ix0, w_ix1, w_ix2, w_i0, w_i1, w_i2, pend, cont, take, frz, frzs, getP, setP, Res.of, boolOf, isPl, mutS, mutP, intOf, move, retOf, backs1, put1, fzT, ioOf, chk, early, shut, isTmp, flatB, scal, List.map_cons, List.map_nil, List.cons_append, List.nil_append, List.append_nil, List.replicate_succ, List.replicate_zero, List.replicate, List.length_cons, List.length_nil, List.getElem?_cons_zero, List.getElem?_cons_succ, List.set_cons_zero, List.set_cons_succ, List.all_cons, List.all_nil, List.contains_cons, List.contains_nil, List.elem_cons, List.elem_nil, List.isEmpty_nil, List.isEmpty_cons, Nat.reduceAdd, Nat.reduceSub, Nat.reduceBEq, Nat.reduceLT, Nat.reduceLeDiff, Nat.reduceEqDiff, decide_true, decide_false, Bool.and_true, Bool.true_and, Bool.or_true, Bool.true_or, Bool.or_false, Bool.false_or, Bool.and_false, Bool.false_and, Bool.not_true, Bool.not_false, Bool.false_eq_true, reduceIte, ite_true, ite_false, beq_self_eq_true, Nat.zero_add, reduceCtorEq, and_self, true_and, and_true, ge_iff_le, gt_iff_lt, Nat.succ_eq_add_one, Nat.add_one_sub_one, Nat.zero_lt_succ, Nat.lt_add_left_iff_pos, wipeE, restE, pick, List.filterMap_cons, List.filterMap_nil, u_irg, u_irgB, Int.reduceLE, Int.reduceLT, Int.reduceNeg, u_unT, u_unL, u_unW, u_max, u_min, u_abs, u_tup, u_lst, u_lc, u_app0, u_app, u_ext0, u_ext, u_par2, u_par3, u_zip, u_aug0, u_aug, u_aug2, u_ch, u_ch1, u_ch2, u_ch3, e_int, ne_int, e_bl, ne_bl, q_aa, q_af, q_ac, q_fa, q_ff, q_fc, q_ca, q_cf, q_cc, is_non, is_int, isn_non, isn_int, ix_t0, ix_t1, ix_t2, ix_l0, ix_l1, x_asc, x_kco, x_ite, decide_eq_true_eq, Bool.not_eq_true', decide_eq_false_iff_not, u_srT, u_srL, u_srW, isT, seqV, tupV, lstV, u_join, Option.getD, sl_scr, frzs_cw, lst_fl0, lst_fl1, src0, hc, src_cw, q3]
end Gn
namespace Gn
open Mi PySem
def pln : Nat → D → Prop
  | 0, _ => False
  | n + 1, .tup ds => ds.length ≤ 1000000 ∧ ∀ d ∈ ds, pln n d
  | n + 1, .lst ds => ds.length ≤ 1000000 ∧ ∀ d ∈ ds, pln n d
  | _ + 1, .non => True
  | _ + 1, .bl _ => True
  | _ + 1, .int _ => True
  | _ + 1, .str s => PyData.strOk s = true
  | _ + 1, _ => False
theorem pln_succ : ∀ {n : Nat} {d : D}, pln n d → pln (n + 1) d
  | 0, _, h => h.elim
  | n + 1, .tup ds, h => ⟨h.1, fun d hd => pln_succ (h.2 d hd)⟩
  | n + 1, .lst ds, h => ⟨h.1, fun d hd => pln_succ (h.2 d hd)⟩
  | n + 1, .non, _ => trivial
  | n + 1, .bl _, _ => trivial
  | n + 1, .int _, _ => trivial
  | n + 1, .str _, h => h
  | n + 1, .scr _, h => h.elim
  | n + 1, .obj _ _, h => h.elim
theorem pln_le {n m : Nat} {d : D} (h : pln n d) (k : n ≤ m) : pln m d := by
  induction k with
  | refl => exact h
  | step _ ih => exact pln_succ ih
theorem i_lt_t {ds : List D} : fIsi ["list", "tuple"] (.fz (.tup ds)) = .ok (.fz (.bl true)) := by kernel_rfl
theorem i_lt_l {ds : List D} : fIsi ["list", "tuple"] (.fz (.lst ds)) = .ok (.fz (.bl true)) := by kernel_rfl
theorem i_lt_i {i : Int} : fIsi ["list", "tuple"] (.fz (.int i)) = .ok (.fz (.bl false)) := by kernel_rfl
theorem i_lt_n : fIsi ["list", "tuple"] (.fz .non) = .ok (.fz (.bl false)) := by kernel_rfl
theorem i_lt_b {b : Bool} : fIsi ["list", "tuple"] (.fz (.bl b)) = .ok (.fz (.bl false)) := by kernel_rfl
theorem i_lt_s {s : Str} : fIsi ["list", "tuple"] (.fz (.str s)) = .ok (.fz (.bl false)) := by kernel_rfl
theorem i_l_t {ds : List D} : fIsi ["list"] (.fz (.tup ds)) = .ok (.fz (.bl false)) := by kernel_rfl
theorem i_l_l {ds : List D} : fIsi ["list"] (.fz (.lst ds)) = .ok (.fz (.bl true)) := by kernel_rfl
theorem i_t_t {ds : List D} : fIsi ["tuple"] (.fz (.tup ds)) = .ok (.fz (.bl true)) := by kernel_rfl
theorem i_t_l {ds : List D} : fIsi ["tuple"] (.fz (.lst ds)) = .ok (.fz (.bl false)) := by kernel_rfl
theorem i_bs_i {i : Int} : fIsi ["bool", "str"] (.fz (.int i)) = .ok (.fz (.bl false)) := by kernel_rfl
theorem i_bs_b {b : Bool} : fIsi ["bool", "str"] (.fz (.bl b)) = .ok (.fz (.bl true)) := by kernel_rfl
theorem i_bs_s {s : Str} : fIsi ["bool", "str"] (.fz (.str s)) = .ok (.fz (.bl true)) := by kernel_rfl
theorem i_b_i {i : Int} : fIsi ["bool"] (.fz (.int i)) = .ok (.fz (.bl false)) := by kernel_rfl
theorem i_b_n : fIsi ["bool"] (.fz .non) = .ok (.fz (.bl false)) := by kernel_rfl
theorem i_b_b {b : Bool} : fIsi ["bool"] (.fz (.bl b)) = .ok (.fz (.bl true)) := by kernel_rfl
theorem i_b_s {s : Str} : fIsi ["bool"] (.fz (.str s)) = .ok (.fz (.bl false)) := by kernel_rfl
theorem i_i_i {i : Int} : fIsi ["int"] (.fz (.int i)) = .ok (.fz (.bl true)) := by kernel_rfl
theorem is_bl {b : Bool} : fIsN (.fz (.bl b)) (.fz .non) = .ok (.fz (.bl false)) := rfl
theorem is_str {s : Str} : fIsN (.fz (.str s)) (.fz .non) = .ok (.fz (.bl false)) := rfl
theorem e_non : fEq (.fz .non) (.fz .non) = .ok (.fz (.bl true)) := by kernel_rfl
theorem e_strS {s : Str} (h : PyData.strOk s = true) : fEq (.fz (.str s)) (.fz (.str s)) = .ok (.fz (.bl true)) := by
  have h1 : SeqAt.shaped (.str s) = true := by
    show (PyData.canLay0 (.str s) && decide (PyData.depth (.str s) ≤ 64)) = true
    have : PyData.canLay0 (.str s) = PyData.strOk s := by simp only [PyData.canLay0]
    rw [this, h]; rfl
  have h2 : PyData.eqv (.str s) (.str s) = true := by simp [PyData.eqv]
  show Res.bind (if (SeqAt.shaped (.str s) && SeqAt.shaped (.str s)) = true then Res.ok (PyData.eqv (.str s) (.str s)) else .err) _ = _
  rw [h1, h2]; rfl
theorem len_t {ds : List D} : fLen [.fz (.tup ds)] = .ok (.fz (.int ds.length)) := rfl
theorem len_l {ds : List D} : fLen [.fz (.lst ds)] = .ok (.fz (.int ds.length)) := rfl
theorem zip_self (ds : List D) : zipD ds ds = ds.map fun d => D.tup [d, d] := by
  unfold zipD
  induction ds with
  | nil => rfl
  | cons d ds ih => rw [List.zipWith_cons_cons, ih]; rfl
theorem all_true {α : Type} (l : List α) : fAll [.fz (.lst (l.map fun _ => D.bl true))] = .ok (.fz (.bl true)) := by
  have h : ∀ l : List α, blsD (l.map fun _ => D.bl true) = some (l.map fun _ => true) := by
    intro l
    induction l with
    | nil => rfl
    | cons a l ih => show (match blsD (l.map fun _ => D.bl true) with | some ns => some (true :: ns) | none => none) = _; rw [ih]; rfl
  show (match blsD (l.map fun _ => D.bl true) with | some ns => Res.ok (W.fz (.bl (ns.all id))) | none => .err) = _
  rw [h]
  have : ((l.map fun _ => true).all id) = true := by rw [List.all_eq_true]; intro x hx; obtain ⟨_, _, e⟩ := List.mem_map.mp hx; rw [← e]; rfl
  show Res.ok (W.fz (.bl ((l.map fun _ => true).all id))) = _
  rw [this]
theorem frzs_fz {α : Type} (g : α → D) : ∀ l : List α, frzs (l.map fun x => W.fz (g x)) = l.map g
  | [] => rfl
  | x :: l => by show g x :: frzs (l.map fun x => W.fz (g x)) = _; rw [frzs_fz g l]; rfl
theorem same_lc {F : Fn} {x y : Option W} : ∀ ds : List D, (∀ d ∈ ds, F [.fz d, .fz d] = .ok (.fz (.bl true), [.fz d, .fz d])) →
    lcL [2, 3] (gUnp (gsCons (gSet 2) (gsCons (gSet 3) gsNil))) cYes (E_law_same_1 F) (ds.map fun d => D.tup [d, d]) [x, y, none, none] = .ok (ds.map fun _ => W.fz (.bl true), [x, y, none, none])
  | [], _ => rfl
  | d :: ds, h => by
    have ih := same_lc (x := x) (y := y) ds fun e he => h e (by simp [he])
    have h0 := h d (by simp)
    simp only [List.map_cons (f := fun d => D.tup [d, d]), E_law_same_1, v_bin6, v_bin5, v_bin4, v_bin3, v_bin2, v_bin1, v_bin, v_un3, v_un2, v_un1, v_un, v_test2, v_test1, v_test, v_cons3, v_cons2, v_cons1, v_cons, v_star4, v_star3, v_star2, v_star1, v_star, v_tup2, v_tup1, v_tup, v_lst2, v_lst1, v_lst, v_callB3, v_callB2, v_callB1, v_callB, v_andT1, v_andT, v_orT1, v_orT, v_notT1, v_notT, v_and2, v_and1, v_and, v_or2, v_or1, v_or, v_not2, v_not1, v_not, v_if1, v_if, v_orL1, v_orL, v_seq1, v_seq, v_ifS1, v_ifS, v_ret2, v_ret1, v_ret, v_drop1, v_drop, v_asg3, v_asg2, v_asg1, v_asg, v_gset1, v_gset, v_gsub5, v_gsub4, v_gsub3, v_gsub2, v_gsub1, v_gsub, v_gsc1, v_gsc, v_gsn1, v_gsn, v_for1, v_for, v_forc2, v_forc1, v_forc, v_lcc2, v_lcc1, v_lcc, v_lcT3, v_lcT2, v_lcT1, v_lcT, v_lc4, v_lc1, v_lc, v_def4, v_def3, v_def2, v_def1, v_def, v_callV4, v_callV3, v_callV2, v_callV1, v_callV, v_callP4, v_callP3, v_callP2, v_callP1, v_callP, v_callKV5, v_callKV4, v_callKV3, v_callKV2, v_callKV1, v_callKV, v_callKP5, v_callKP4, v_callKP3, v_callKP2, v_callKP1, v_callKP, v_callIO5, v_callIO4, v_callIO3, v_callIO2, v_callIO1, v_callIO, v_app7, v_app6, v_app5, v_app4, v_app3, v_app2, v_app1, v_app, v_sl6, v_sl5, v_sl4, v_sl3, v_sl2, v_sl1, v_sl, v_oS2, v_oS1, v_oS, v_iseq3, v_iseq2, v_iseq1, v_iseq, v_ienum3, v_ienum2, v_ienum1, v_ienum, v_irg1, v_irg, v_rgTup3, v_rgTup2, v_rgTup1, v_rgTup, v_argsc2, v_argsc1, v_argsc, v_putc1, v_putc, v_takesc2, v_takesc1, v_takesc, v_contsc2, v_contsc1, v_contsc, v_backsI2, v_backsI1, v_backsI, v_binF7, v_binF6, v_binF5, v_binF4, v_binF3, v_binF2, v_binF1, v_binF, v_par22, v_par21, v_par2, v_par32, v_par31, v_par3, v_ext8, v_ext7, v_ext6, v_ext5, v_ext4, v_ext3, v_ext2, v_ext1, v_ext, v_zip2, v_zip1, v_zip, v_irgB3, v_irgB2, v_irgB1, v_irgB, v_rgLst3, v_rgLst2, v_rgLst1, v_rgLst, v_rgTupB5, v_rgTupB4, v_rgTupB3, v_rgTupB2, v_rgTupB1, v_rgTupB, v_rgLstB5, v_rgLstB4, v_rgLstB3, v_rgLstB2, v_rgLstB1, v_rgLstB, v_ok, v_c, v_nil, v_next, v_yes, v_oN, v_gtup, v_var, v_for0, v_lc0, v_args0, v_put0, v_takes0, v_conts0, v_backs0, w_add, w_sub, w_neg, w_lt, w_le, w_gt, w_ge, w_intI, w_intB, w_ix0, w_ix1, w_ix2, w_i0, w_i1, w_i2, pend, cont, take, frz, frzs, getP, setP, Res.of, boolOf, isPl, mutS, mutP, intOf, move, retOf, backs1, put1, fzT, ioOf, chk, early, shut, isTmp, flatB, scal, List.map_cons, List.map_nil, List.cons_append, List.nil_append, List.append_nil, List.replicate_succ, List.replicate_zero, List.replicate, List.length_cons, List.length_nil, List.getElem?_cons_zero, List.getElem?_cons_succ, List.set_cons_zero, List.set_cons_succ, List.all_cons, List.all_nil, List.contains_cons, List.contains_nil, List.elem_cons, List.elem_nil, List.isEmpty_nil, List.isEmpty_cons, Nat.reduceAdd, Nat.reduceSub, Nat.reduceBEq, Nat.reduceLT, Nat.reduceLeDiff, Nat.reduceEqDiff, decide_true, decide_false, Bool.and_true, Bool.true_and, Bool.or_true, Bool.true_or, Bool.or_false, Bool.false_or, Bool.and_false, Bool.false_and, Bool.not_true, Bool.not_false, Bool.false_eq_true, reduceIte, ite_true, ite_false, beq_self_eq_true, Nat.zero_add, reduceCtorEq, and_self, true_and, and_true, ge_iff_le, gt_iff_lt, Nat.succ_eq_add_one, Nat.add_one_sub_one, Nat.zero_lt_succ, Nat.lt_add_left_iff_pos, wipeE, restE, pick, List.filterMap_cons, List.filterMap_nil, u_irg, u_irgB, Int.reduceLE, Int.reduceLT, Int.reduceNeg, u_unT, u_unL, u_unW, u_max, u_min, u_abs, u_tup, u_lst, u_lc, u_app0, u_app, u_ext0, u_ext, u_par2, u_par3, u_zip, u_aug0, u_aug, u_aug2, u_ch, u_ch1, u_ch2, u_ch3, e_int, ne_int, e_bl, ne_bl, q_aa, q_af, q_ac, q_fa, q_ff, q_fc, q_ca, q_cf, q_cc, is_non, is_int, isn_non, isn_int, ix_t0, ix_t1, ix_t2, ix_l0, ix_l1, x_asc, x_kco, x_ite, decide_eq_true_eq, Bool.not_eq_true', decide_eq_false_iff_not, u_srT, u_srL, u_srW, isT, seqV, tupV, lstV, u_join, Option.getD, h0, ih]
theorem same_ok : ∀ (n : Nat) (d : D), pln n d → F_law_same n [.fz d, .fz d] = .ok (.fz (.bl true), [.fz d, .fz d])
  | 0, _, h => h.elim
  | n + 1, .tup ds, h => by
    have e := same_lc (F := F_law_same n) (x := some (.fz (.tup ds))) (y := some (.fz (.tup ds))) ds fun d hd => same_ok n d (h.2 d hd)
    have hl : (ds.map fun d => D.tup [d, d]).length ≤ 1000000 := by rw [List.length_map]; exact h.1
    simp only [F_law_same, m_law_same, v_bin6, v_bin5, v_bin4, v_bin3, v_bin2, v_bin1, v_bin, v_un3, v_un2, v_un1, v_un, v_test2, v_test1, v_test, v_cons3, v_cons2, v_cons1, v_cons, v_star4, v_star3, v_star2, v_star1, v_star, v_tup2, v_tup1, v_tup, v_lst2, v_lst1, v_lst, v_callB3, v_callB2, v_callB1, v_callB, v_andT1, v_andT, v_orT1, v_orT, v_notT1, v_notT, v_and2, v_and1, v_and, v_or2, v_or1, v_or, v_not2, v_not1, v_not, v_if1, v_if, v_orL1, v_orL, v_seq1, v_seq, v_ifS1, v_ifS, v_ret2, v_ret1, v_ret, v_drop1, v_drop, v_asg3, v_asg2, v_asg1, v_asg, v_gset1, v_gset, v_gsub5, v_gsub4, v_gsub3, v_gsub2, v_gsub1, v_gsub, v_gsc1, v_gsc, v_gsn1, v_gsn, v_for1, v_for, v_forc2, v_forc1, v_forc, v_lcc2, v_lcc1, v_lcc, v_lcT3, v_lcT2, v_lcT1, v_lcT, v_lc4, v_lc1, v_lc, v_def4, v_def3, v_def2, v_def1, v_def, v_callV4, v_callV3, v_callV2, v_callV1, v_callV, v_callP4, v_callP3, v_callP2, v_callP1, v_callP, v_callKV5, v_callKV4, v_callKV3, v_callKV2, v_callKV1, v_callKV, v_callKP5, v_callKP4, v_callKP3, v_callKP2, v_callKP1, v_callKP, v_callIO5, v_callIO4, v_callIO3, v_callIO2, v_callIO1, v_callIO, v_app7, v_app6, v_app5, v_app4, v_app3, v_app2, v_app1, v_app, v_sl6, v_sl5, v_sl4, v_sl3, v_sl2, v_sl1, v_sl, v_oS2, v_oS1, v_oS, v_iseq3, v_iseq2, v_iseq1, v_iseq, v_ienum3, v_ienum2, v_ienum1, v_ienum, v_irg1, v_irg, v_rgTup3, v_rgTup2, v_rgTup1, v_rgTup, v_argsc2, v_argsc1, v_argsc, v_putc1, v_putc, v_takesc2, v_takesc1, v_takesc, v_contsc2, v_contsc1, v_contsc, v_backsI2, v_backsI1, v_backsI, v_binF7, v_binF6, v_binF5, v_binF4, v_binF3, v_binF2, v_binF1, v_binF, v_par22, v_par21, v_par2, v_par32, v_par31, v_par3, v_ext8, v_ext7, v_ext6, v_ext5, v_ext4, v_ext3, v_ext2, v_ext1, v_ext, v_zip2, v_zip1, v_zip, v_irgB3, v_irgB2, v_irgB1, v_irgB, v_rgLst3, v_rgLst2, v_rgLst1, v_rgLst, v_rgTupB5, v_rgTupB4, v_rgTupB3, v_rgTupB2, v_rgTupB1, v_rgTupB, v_rgLstB5, v_rgLstB4, v_rgLstB3, v_rgLstB2, v_rgLstB1, v_rgLstB, v_ok, v_c, v_nil, v_next, v_yes, v_oN, v_gtup, v_var, v_for0, v_lc0, v_args0, v_put0, v_takes0, v_conts0, v_backs0, w_add, w_sub, w_neg, w_lt, w_le, w_gt, w_ge, w_intI, w_intB, w_ix0, w_ix1, w_ix2, w_i0, w_i1, w_i2, pend, cont, take, frz, frzs, getP, setP, Res.of, boolOf, isPl, mutS, mutP, intOf, move, retOf, backs1, put1, fzT, ioOf, chk, early, shut, isTmp, flatB, scal, List.map_cons, List.map_nil, List.cons_append, List.nil_append, List.append_nil, List.replicate_succ, List.replicate_zero, List.replicate, List.length_cons, List.length_nil, List.getElem?_cons_zero, List.getElem?_cons_succ, List.set_cons_zero, List.set_cons_succ, List.all_cons, List.all_nil, List.contains_cons, List.contains_nil, List.elem_cons, List.elem_nil, List.isEmpty_nil, List.isEmpty_cons, Nat.reduceAdd, Nat.reduceSub, Nat.reduceBEq, Nat.reduceLT, Nat.reduceLeDiff, Nat.reduceEqDiff, decide_true, decide_false, Bool.and_true, Bool.true_and, Bool.or_true, Bool.true_or, Bool.or_false, Bool.false_or, Bool.and_false, Bool.false_and, Bool.not_true, Bool.not_false, Bool.false_eq_true, reduceIte, ite_true, ite_false, beq_self_eq_true, Nat.zero_add, reduceCtorEq, and_self, true_and, and_true, ge_iff_le, gt_iff_lt, Nat.succ_eq_add_one, Nat.add_one_sub_one, Nat.zero_lt_succ, Nat.lt_add_left_iff_pos, wipeE, restE, pick, List.filterMap_cons, List.filterMap_nil, u_irg, u_irgB, Int.reduceLE, Int.reduceLT, Int.reduceNeg, u_unT, u_unL, u_unW, u_max, u_min, u_abs, u_tup, u_lst, u_lc, u_app0, u_app, u_ext0, u_ext, u_par2, u_par3, u_zip, u_aug0, u_aug, u_aug2, u_ch, u_ch1, u_ch2, u_ch3, e_int, ne_int, e_bl, ne_bl, q_aa, q_af, q_ac, q_fa, q_ff, q_fc, q_ca, q_cf, q_cc, is_non, is_int, isn_non, isn_int, ix_t0, ix_t1, ix_t2, ix_l0, ix_l1, x_asc, x_kco, x_ite, decide_eq_true_eq, Bool.not_eq_true', decide_eq_false_iff_not, u_srT, u_srL, u_srW, isT, seqV, tupV, lstV, u_join, Option.getD, i_lt_t, i_l_t, i_t_t, len_t, zip_self, hl, e, frzs_fz, all_true, bne_self_eq_false]
  | n + 1, .lst ds, h => by
    have e := same_lc (F := F_law_same n) (x := some (.fz (.lst ds))) (y := some (.fz (.lst ds))) ds fun d hd => same_ok n d (h.2 d hd)
    have hl : (ds.map fun d => D.tup [d, d]).length ≤ 1000000 := by rw [List.length_map]; exact h.1
    simp only [F_law_same, m_law_same, v_bin6, v_bin5, v_bin4, v_bin3, v_bin2, v_bin1, v_bin, v_un3, v_un2, v_un1, v_un, v_test2, v_test1, v_test, v_cons3, v_cons2, v_cons1, v_cons, v_star4, v_star3, v_star2, v_star1, v_star, v_tup2, v_tup1, v_tup, v_lst2, v_lst1, v_lst, v_callB3, v_callB2, v_callB1, v_callB, v_andT1, v_andT, v_orT1, v_orT, v_notT1, v_notT, v_and2, v_and1, v_and, v_or2, v_or1, v_or, v_not2, v_not1, v_not, v_if1, v_if, v_orL1, v_orL, v_seq1, v_seq, v_ifS1, v_ifS, v_ret2, v_ret1, v_ret, v_drop1, v_drop, v_asg3, v_asg2, v_asg1, v_asg, v_gset1, v_gset, v_gsub5, v_gsub4, v_gsub3, v_gsub2, v_gsub1, v_gsub, v_gsc1, v_gsc, v_gsn1, v_gsn, v_for1, v_for, v_forc2, v_forc1, v_forc, v_lcc2, v_lcc1, v_lcc, v_lcT3, v_lcT2, v_lcT1, v_lcT, v_lc4, v_lc1, v_lc, v_def4, v_def3, v_def2, v_def1, v_def, v_callV4, v_callV3, v_callV2, v_callV1, v_callV, v_callP4, v_callP3, v_callP2, v_callP1, v_callP, v_callKV5, v_callKV4, v_callKV3, v_callKV2, v_callKV1, v_callKV, v_callKP5, v_callKP4, v_callKP3, v_callKP2, v_callKP1, v_callKP, v_callIO5, v_callIO4, v_callIO3, v_callIO2, v_callIO1, v_callIO, v_app7, v_app6, v_app5, v_app4, v_app3, v_app2, v_app1, v_app, v_sl6, v_sl5, v_sl4, v_sl3, v_sl2, v_sl1, v_sl, v_oS2, v_oS1, v_oS, v_iseq3, v_iseq2, v_iseq1, v_iseq, v_ienum3, v_ienum2, v_ienum1, v_ienum, v_irg1, v_irg, v_rgTup3, v_rgTup2, v_rgTup1, v_rgTup, v_argsc2, v_argsc1, v_argsc, v_putc1, v_putc, v_takesc2, v_takesc1, v_takesc, v_contsc2, v_contsc1, v_contsc, v_backsI2, v_backsI1, v_backsI, v_binF7, v_binF6, v_binF5, v_binF4, v_binF3, v_binF2, v_binF1, v_binF, v_par22, v_par21, v_par2, v_par32, v_par31, v_par3, v_ext8, v_ext7, v_ext6, v_ext5, v_ext4, v_ext3, v_ext2, v_ext1, v_ext, v_zip2, v_zip1, v_zip, v_irgB3, v_irgB2, v_irgB1, v_irgB, v_rgLst3, v_rgLst2, v_rgLst1, v_rgLst, v_rgTupB5, v_rgTupB4, v_rgTupB3, v_rgTupB2, v_rgTupB1, v_rgTupB, v_rgLstB5, v_rgLstB4, v_rgLstB3, v_rgLstB2, v_rgLstB1, v_rgLstB, v_ok, v_c, v_nil, v_next, v_yes, v_oN, v_gtup, v_var, v_for0, v_lc0, v_args0, v_put0, v_takes0, v_conts0, v_backs0, w_add, w_sub, w_neg, w_lt, w_le, w_gt, w_ge, w_intI, w_intB, w_ix0, w_ix1, w_ix2, w_i0, w_i1, w_i2, pend, cont, take, frz, frzs, getP, setP, Res.of, boolOf, isPl, mutS, mutP, intOf, move, retOf, backs1, put1, fzT, ioOf, chk, early, shut, isTmp, flatB, scal, List.map_cons, List.map_nil, List.cons_append, List.nil_append, List.append_nil, List.replicate_succ, List.replicate_zero, List.replicate, List.length_cons, List.length_nil, List.getElem?_cons_zero, List.getElem?_cons_succ, List.set_cons_zero, List.set_cons_succ, List.all_cons, List.all_nil, List.contains_cons, List.contains_nil, List.elem_cons, List.elem_nil, List.isEmpty_nil, List.isEmpty_cons, Nat.reduceAdd, Nat.reduceSub, Nat.reduceBEq, Nat.reduceLT, Nat.reduceLeDiff, Nat.reduceEqDiff, decide_true, decide_false, Bool.and_true, Bool.true_and, Bool.or_true, Bool.true_or, Bool.or_false, Bool.false_or, Bool.and_false, Bool.false_and, Bool.not_true, Bool.not_false, Bool.false_eq_true, reduceIte, ite_true, ite_false, beq_self_eq_true, Nat.zero_add, reduceCtorEq, and_self, true_and, and_true, ge_iff_le, gt_iff_lt, Nat.succ_eq_add_one, Nat.add_one_sub_one, Nat.zero_lt_succ, Nat.lt_add_left_iff_pos, wipeE, restE, pick, List.filterMap_cons, List.filterMap_nil, u_irg, u_irgB, Int.reduceLE, Int.reduceLT, Int.reduceNeg, u_unT, u_unL, u_unW, u_max, u_min, u_abs, u_tup, u_lst, u_lc, u_app0, u_app, u_ext0, u_ext, u_par2, u_par3, u_zip, u_aug0, u_aug, u_aug2, u_ch, u_ch1, u_ch2, u_ch3, e_int, ne_int, e_bl, ne_bl, q_aa, q_af, q_ac, q_fa, q_ff, q_fc, q_ca, q_cf, q_cc, is_non, is_int, isn_non, isn_int, ix_t0, ix_t1, ix_t2, ix_l0, ix_l1, x_asc, x_kco, x_ite, decide_eq_true_eq, Bool.not_eq_true', decide_eq_false_iff_not, u_srT, u_srL, u_srW, isT, seqV, tupV, lstV, u_join, Option.getD, i_lt_l, i_l_l, i_t_l, len_l, zip_self, hl, e, frzs_fz, all_true, bne_self_eq_false]
  | n + 1, .non, _ => by simp only [F_law_same, m_law_same, v_bin6, v_bin5, v_bin4, v_bin3, v_bin2, v_bin1, v_bin, v_un3, v_un2, v_un1, v_un, v_test2, v_test1, v_test, v_cons3, v_cons2, v_cons1, v_cons, v_star4, v_star3, v_star2, v_star1, v_star, v_tup2, v_tup1, v_tup, v_lst2, v_lst1, v_lst, v_callB3, v_callB2, v_callB1, v_callB, v_andT1, v_andT, v_orT1, v_orT, v_notT1, v_notT, v_and2, v_and1, v_and, v_or2, v_or1, v_or, v_not2, v_not1, v_not, v_if1, v_if, v_orL1, v_orL, v_seq1, v_seq, v_ifS1, v_ifS, v_ret2, v_ret1, v_ret, v_drop1, v_drop, v_asg3, v_asg2, v_asg1, v_asg, v_gset1, v_gset, v_gsub5, v_gsub4, v_gsub3, v_gsub2, v_gsub1, v_gsub, v_gsc1, v_gsc, v_gsn1, v_gsn, v_for1, v_for, v_forc2, v_forc1, v_forc, v_lcc2, v_lcc1, v_lcc, v_lcT3, v_lcT2, v_lcT1, v_lcT, v_lc4, v_lc1, v_lc, v_def4, v_def3, v_def2, v_def1, v_def, v_callV4, v_callV3, v_callV2, v_callV1, v_callV, v_callP4, v_callP3, v_callP2, v_callP1, v_callP, v_callKV5, v_callKV4, v_callKV3, v_callKV2, v_callKV1, v_callKV, v_callKP5, v_callKP4, v_callKP3, v_callKP2, v_callKP1, v_callKP, v_callIO5, v_callIO4, v_callIO3, v_callIO2, v_callIO1, v_callIO, v_app7, v_app6, v_app5, v_app4, v_app3, v_app2, v_app1, v_app, v_sl6, v_sl5, v_sl4, v_sl3, v_sl2, v_sl1, v_sl, v_oS2, v_oS1, v_oS, v_iseq3, v_iseq2, v_iseq1, v_iseq, v_ienum3, v_ienum2, v_ienum1, v_ienum, v_irg1, v_irg, v_rgTup3, v_rgTup2, v_rgTup1, v_rgTup, v_argsc2, v_argsc1, v_argsc, v_putc1, v_putc, v_takesc2, v_takesc1, v_takesc, v_contsc2, v_contsc1, v_contsc, v_backsI2, v_backsI1, v_backsI, v_binF7, v_binF6, v_binF5, v_binF4, v_binF3, v_binF2, v_binF1, v_binF, v_par22, v_par21, v_par2, v_par32, v_par31, v_par3, v_ext8, v_ext7, v_ext6, v_ext5, v_ext4, v_ext3, v_ext2, v_ext1, v_ext, v_zip2, v_zip1, v_zip, v_irgB3, v_irgB2, v_irgB1, v_irgB, v_rgLst3, v_rgLst2, v_rgLst1, v_rgLst, v_rgTupB5, v_rgTupB4, v_rgTupB3, v_rgTupB2, v_rgTupB1, v_rgTupB, v_rgLstB5, v_rgLstB4, v_rgLstB3, v_rgLstB2, v_rgLstB1, v_rgLstB, v_ok, v_c, v_nil, v_next, v_yes, v_oN, v_gtup, v_var, v_for0, v_lc0, v_args0, v_put0, v_takes0, v_conts0, v_backs0, w_add, w_sub, w_neg, w_lt, w_le, w_gt, w_ge, w_intI, w_intB, w_ix0, w_ix1, w_ix2, w_i0, w_i1, w_i2, pend, cont, take, frz, frzs, getP, setP, Res.of, boolOf, isPl, mutS, mutP, intOf, move, retOf, backs1, put1, fzT, ioOf, chk, early, shut, isTmp, flatB, scal, List.map_cons, List.map_nil, List.cons_append, List.nil_append, List.append_nil, List.replicate_succ, List.replicate_zero, List.replicate, List.length_cons, List.length_nil, List.getElem?_cons_zero, List.getElem?_cons_succ, List.set_cons_zero, List.set_cons_succ, List.all_cons, List.all_nil, List.contains_cons, List.contains_nil, List.elem_cons, List.elem_nil, List.isEmpty_nil, List.isEmpty_cons, Nat.reduceAdd, Nat.reduceSub, Nat.reduceBEq, Nat.reduceLT, Nat.reduceLeDiff, Nat.reduceEqDiff, decide_true, decide_false, Bool.and_true, Bool.true_and, Bool.or_true, Bool.true_or, Bool.or_false, Bool.false_or, Bool.and_false, Bool.false_and, Bool.not_true, Bool.not_false, Bool.false_eq_true, reduceIte, ite_true, ite_false, beq_self_eq_true, Nat.zero_add, reduceCtorEq, and_self, true_and, and_true, ge_iff_le, gt_iff_lt, Nat.succ_eq_add_one, Nat.add_one_sub_one, Nat.zero_lt_succ, Nat.lt_add_left_iff_pos, wipeE, restE, pick, List.filterMap_cons, List.filterMap_nil, u_irg, u_irgB, Int.reduceLE, Int.reduceLT, Int.reduceNeg, u_unT, u_unL, u_unW, u_max, u_min, u_abs, u_tup, u_lst, u_lc, u_app0, u_app, u_ext0, u_ext, u_par2, u_par3, u_zip, u_aug0, u_aug, u_aug2, u_ch, u_ch1, u_ch2, u_ch3, e_int, ne_int, e_bl, ne_bl, q_aa, q_af, q_ac, q_fa, q_ff, q_fc, q_ca, q_cf, q_cc, is_non, is_int, isn_non, isn_int, ix_t0, ix_t1, ix_t2, ix_l0, ix_l1, x_asc, x_kco, x_ite, decide_eq_true_eq, Bool.not_eq_true', decide_eq_false_iff_not, u_srT, u_srL, u_srW, isT, seqV, tupV, lstV, u_join, Option.getD, i_lt_n, i_b_n, e_non]
  | n + 1, .bl b, _ => by simp only [F_law_same, m_law_same, v_bin6, v_bin5, v_bin4, v_bin3, v_bin2, v_bin1, v_bin, v_un3, v_un2, v_un1, v_un, v_test2, v_test1, v_test, v_cons3, v_cons2, v_cons1, v_cons, v_star4, v_star3, v_star2, v_star1, v_star, v_tup2, v_tup1, v_tup, v_lst2, v_lst1, v_lst, v_callB3, v_callB2, v_callB1, v_callB, v_andT1, v_andT, v_orT1, v_orT, v_notT1, v_notT, v_and2, v_and1, v_and, v_or2, v_or1, v_or, v_not2, v_not1, v_not, v_if1, v_if, v_orL1, v_orL, v_seq1, v_seq, v_ifS1, v_ifS, v_ret2, v_ret1, v_ret, v_drop1, v_drop, v_asg3, v_asg2, v_asg1, v_asg, v_gset1, v_gset, v_gsub5, v_gsub4, v_gsub3, v_gsub2, v_gsub1, v_gsub, v_gsc1, v_gsc, v_gsn1, v_gsn, v_for1, v_for, v_forc2, v_forc1, v_forc, v_lcc2, v_lcc1, v_lcc, v_lcT3, v_lcT2, v_lcT1, v_lcT, v_lc4, v_lc1, v_lc, v_def4, v_def3, v_def2, v_def1, v_def, v_callV4, v_callV3, v_callV2, v_callV1, v_callV, v_callP4, v_callP3, v_callP2, v_callP1, v_callP, v_callKV5, v_callKV4, v_callKV3, v_callKV2, v_callKV1, v_callKV, v_callKP5, v_callKP4, v_callKP3, v_callKP2, v_callKP1, v_callKP, v_callIO5, v_callIO4, v_callIO3, v_callIO2, v_callIO1, v_callIO, v_app7, v_app6, v_app5, v_app4, v_app3, v_app2, v_app1, v_app, v_sl6, v_sl5, v_sl4, v_sl3, v_sl2, v_sl1, v_sl, v_oS2, v_oS1, v_oS, v_iseq3, v_iseq2, v_iseq1, v_iseq, v_ienum3, v_ienum2, v_ienum1, v_ienum, v_irg1, v_irg, v_rgTup3, v_rgTup2, v_rgTup1, v_rgTup, v_argsc2, v_argsc1, v_argsc, v_putc1, v_putc, v_takesc2, v_takesc1, v_takesc, v_contsc2, v_contsc1, v_contsc, v_backsI2, v_backsI1, v_backsI, v_binF7, v_binF6, v_binF5, v_binF4, v_binF3, v_binF2, v_binF1, v_binF, v_par22, v_par21, v_par2, v_par32, v_par31, v_par3, v_ext8, v_ext7, v_ext6, v_ext5, v_ext4, v_ext3, v_ext2, v_ext1, v_ext, v_zip2, v_zip1, v_zip, v_irgB3, v_irgB2, v_irgB1, v_irgB, v_rgLst3, v_rgLst2, v_rgLst1, v_rgLst, v_rgTupB5, v_rgTupB4, v_rgTupB3, v_rgTupB2, v_rgTupB1, v_rgTupB, v_rgLstB5, v_rgLstB4, v_rgLstB3, v_rgLstB2, v_rgLstB1, v_rgLstB, v_ok, v_c, v_nil, v_next, v_yes, v_oN, v_gtup, v_var, v_for0, v_lc0, v_args0, v_put0, v_takes0, v_conts0, v_backs0, w_add, w_sub, w_neg, w_lt, w_le, w_gt, w_ge, w_intI, w_intB, w_ix0, w_ix1, w_ix2, w_i0, w_i1, w_i2, pend, cont, take, frz, frzs, getP, setP, Res.of, boolOf, isPl, mutS, mutP, intOf, move, retOf, backs1, put1, fzT, ioOf, chk, early, shut, isTmp, flatB, scal, List.map_cons, List.map_nil, List.cons_append, List.nil_append, List.append_nil, List.replicate_succ, List.replicate_zero, List.replicate, List.length_cons, List.length_nil, List.getElem?_cons_zero, List.getElem?_cons_succ, List.set_cons_zero, List.set_cons_succ, List.all_cons, List.all_nil, List.contains_cons, List.contains_nil, List.elem_cons, List.elem_nil, List.isEmpty_nil, List.isEmpty_cons, Nat.reduceAdd, Nat.reduceSub, Nat.reduceBEq, Nat.reduceLT, Nat.reduceLeDiff, Nat.reduceEqDiff, decide_true, decide_false, Bool.and_true, Bool.true_and, Bool.or_true, Bool.true_or, Bool.or_false, Bool.false_or, Bool.and_false, Bool.false_and, Bool.not_true, Bool.not_false, Bool.false_eq_true, reduceIte, ite_true, ite_false, beq_self_eq_true, Nat.zero_add, reduceCtorEq, and_self, true_and, and_true, ge_iff_le, gt_iff_lt, Nat.succ_eq_add_one, Nat.add_one_sub_one, Nat.zero_lt_succ, Nat.lt_add_left_iff_pos, wipeE, restE, pick, List.filterMap_cons, List.filterMap_nil, u_irg, u_irgB, Int.reduceLE, Int.reduceLT, Int.reduceNeg, u_unT, u_unL, u_unW, u_max, u_min, u_abs, u_tup, u_lst, u_lc, u_app0, u_app, u_ext0, u_ext, u_par2, u_par3, u_zip, u_aug0, u_aug, u_aug2, u_ch, u_ch1, u_ch2, u_ch3, e_int, ne_int, e_bl, ne_bl, q_aa, q_af, q_ac, q_fa, q_ff, q_fc, q_ca, q_cf, q_cc, is_non, is_int, isn_non, isn_int, ix_t0, ix_t1, ix_t2, ix_l0, ix_l1, x_asc, x_kco, x_ite, decide_eq_true_eq, Bool.not_eq_true', decide_eq_false_iff_not, u_srT, u_srL, u_srW, isT, seqV, tupV, lstV, u_join, Option.getD, i_lt_b, i_bs_b, i_b_b, is_bl]
  | n + 1, .int i, _ => by simp only [F_law_same, m_law_same, v_bin6, v_bin5, v_bin4, v_bin3, v_bin2, v_bin1, v_bin, v_un3, v_un2, v_un1, v_un, v_test2, v_test1, v_test, v_cons3, v_cons2, v_cons1, v_cons, v_star4, v_star3, v_star2, v_star1, v_star, v_tup2, v_tup1, v_tup, v_lst2, v_lst1, v_lst, v_callB3, v_callB2, v_callB1, v_callB, v_andT1, v_andT, v_orT1, v_orT, v_notT1, v_notT, v_and2, v_and1, v_and, v_or2, v_or1, v_or, v_not2, v_not1, v_not, v_if1, v_if, v_orL1, v_orL, v_seq1, v_seq, v_ifS1, v_ifS, v_ret2, v_ret1, v_ret, v_drop1, v_drop, v_asg3, v_asg2, v_asg1, v_asg, v_gset1, v_gset, v_gsub5, v_gsub4, v_gsub3, v_gsub2, v_gsub1, v_gsub, v_gsc1, v_gsc, v_gsn1, v_gsn, v_for1, v_for, v_forc2, v_forc1, v_forc, v_lcc2, v_lcc1, v_lcc, v_lcT3, v_lcT2, v_lcT1, v_lcT, v_lc4, v_lc1, v_lc, v_def4, v_def3, v_def2, v_def1, v_def, v_callV4, v_callV3, v_callV2, v_callV1, v_callV, v_callP4, v_callP3, v_callP2, v_callP1, v_callP, v_callKV5, v_callKV4, v_callKV3, v_callKV2, v_callKV1, v_callKV, v_callKP5, v_callKP4, v_callKP3, v_callKP2, v_callKP1, v_callKP, v_callIO5, v_callIO4, v_callIO3, v_callIO2, v_callIO1, v_callIO, v_app7, v_app6, v_app5, v_app4, v_app3, v_app2, v_app1, v_app, v_sl6, v_sl5, v_sl4, v_sl3, v_sl2, v_sl1, v_sl, v_oS2, v_oS1, v_oS, v_iseq3, v_iseq2, v_iseq1, v_iseq, v_ienum3, v_ienum2, v_ienum1, v_ienum, v_irg1, v_irg, v_rgTup3, v_rgTup2, v_rgTup1, v_rgTup, v_argsc2, v_argsc1, v_argsc, v_putc1, v_putc, v_takesc2, v_takesc1, v_takesc, v_contsc2, v_contsc1, v_contsc, v_backsI2, v_backsI1, v_backsI, v_binF7, v_binF6, v_binF5, v_binF4, v_binF3, v_binF2, v_binF1, v_binF, v_par22, v_par21, v_par2, v_par32, v_par31, v_par3, v_ext8, v_ext7, v_ext6, v_ext5, v_ext4, v_ext3, v_ext2, v_ext1, v_ext, v_zip2, v_zip1, v_zip, v_irgB3, v_irgB2, v_irgB1, v_irgB, v_rgLst3, v_rgLst2, v_rgLst1, v_rgLst, v_rgTupB5, v_rgTupB4, v_rgTupB3, v_rgTupB2, v_rgTupB1, v_rgTupB, v_rgLstB5, v_rgLstB4, v_rgLstB3, v_rgLstB2, v_rgLstB1, v_rgLstB, v_ok, v_c, v_nil, v_next, v_yes, v_oN, v_gtup, v_var, v_for0, v_lc0, v_args0, v_put0, v_takes0, v_conts0, v_backs0, w_add, w_sub, w_neg, w_lt, w_le, w_gt, w_ge, w_intI, w_intB, w_ix0, w_ix1, w_ix2, w_i0, w_i1, w_i2, pend, cont, take, frz, frzs, getP, setP, Res.of, boolOf, isPl, mutS, mutP, intOf, move, retOf, backs1, put1, fzT, ioOf, chk, early, shut, isTmp, flatB, scal, List.map_cons, List.map_nil, List.cons_append, List.nil_append, List.append_nil, List.replicate_succ, List.replicate_zero, List.replicate, List.length_cons, List.length_nil, List.getElem?_cons_zero, List.getElem?_cons_succ, List.set_cons_zero, List.set_cons_succ, List.all_cons, List.all_nil, List.contains_cons, List.contains_nil, List.elem_cons, List.elem_nil, List.isEmpty_nil, List.isEmpty_cons, Nat.reduceAdd, Nat.reduceSub, Nat.reduceBEq, Nat.reduceLT, Nat.reduceLeDiff, Nat.reduceEqDiff, decide_true, decide_false, Bool.and_true, Bool.true_and, Bool.or_true, Bool.true_or, Bool.or_false, Bool.false_or, Bool.and_false, Bool.false_and, Bool.not_true, Bool.not_false, Bool.false_eq_true, reduceIte, ite_true, ite_false, beq_self_eq_true, Nat.zero_add, reduceCtorEq, and_self, true_and, and_true, ge_iff_le, gt_iff_lt, Nat.succ_eq_add_one, Nat.add_one_sub_one, Nat.zero_lt_succ, Nat.lt_add_left_iff_pos, wipeE, restE, pick, List.filterMap_cons, List.filterMap_nil, u_irg, u_irgB, Int.reduceLE, Int.reduceLT, Int.reduceNeg, u_unT, u_unL, u_unW, u_max, u_min, u_abs, u_tup, u_lst, u_lc, u_app0, u_app, u_ext0, u_ext, u_par2, u_par3, u_zip, u_aug0, u_aug, u_aug2, u_ch, u_ch1, u_ch2, u_ch3, e_int, ne_int, e_bl, ne_bl, q_aa, q_af, q_ac, q_fa, q_ff, q_fc, q_ca, q_cf, q_cc, is_non, is_int, isn_non, isn_int, ix_t0, ix_t1, ix_t2, ix_l0, ix_l1, x_asc, x_kco, x_ite, decide_eq_true_eq, Bool.not_eq_true', decide_eq_false_iff_not, u_srT, u_srL, u_srW, isT, seqV, tupV, lstV, u_join, Option.getD, i_lt_i, i_bs_i, i_b_i, i_i_i]
  | n + 1, .str s, h => by
    have e := e_strS h
    simp only [F_law_same, m_law_same, v_bin6, v_bin5, v_bin4, v_bin3, v_bin2, v_bin1, v_bin, v_un3, v_un2, v_un1, v_un, v_test2, v_test1, v_test, v_cons3, v_cons2, v_cons1, v_cons, v_star4, v_star3, v_star2, v_star1, v_star, v_tup2, v_tup1, v_tup, v_lst2, v_lst1, v_lst, v_callB3, v_callB2, v_callB1, v_callB, v_andT1, v_andT, v_orT1, v_orT, v_notT1, v_notT, v_and2, v_and1, v_and, v_or2, v_or1, v_or, v_not2, v_not1, v_not, v_if1, v_if, v_orL1, v_orL, v_seq1, v_seq, v_ifS1, v_ifS, v_ret2, v_ret1, v_ret, v_drop1, v_drop, v_asg3, v_asg2, v_asg1, v_asg, v_gset1, v_gset, v_gsub5, v_gsub4, v_gsub3, v_gsub2, v_gsub1, v_gsub, v_gsc1, v_gsc, v_gsn1, v_gsn, v_for1, v_for, v_forc2, v_forc1, v_forc, v_lcc2, v_lcc1, v_lcc, v_lcT3, v_lcT2, v_lcT1, v_lcT, v_lc4, v_lc1, v_lc, v_def4, v_def3, v_def2, v_def1, v_def, v_callV4, v_callV3, v_callV2, v_callV1, v_callV, v_callP4, v_callP3, v_callP2, v_callP1, v_callP, v_callKV5, v_callKV4, v_callKV3, v_callKV2, v_callKV1, v_callKV, v_callKP5, v_callKP4, v_callKP3, v_callKP2, v_callKP1, v_callKP, v_callIO5, v_callIO4, v_callIO3, v_callIO2, v_callIO1, v_callIO, v_app7, v_app6, v_app5, v_app4, v_app3, v_app2, v_app1, v_app, v_sl6, v_sl5, v_sl4, v_sl3, v_sl2, v_sl1, v_sl, v_oS2, v_oS1, v_oS, v_iseq3, v_iseq2, v_iseq1, v_iseq, v_ienum3, v_ienum2, v_ienum1, v_ienum, v_irg1, v_irg, v_rgTup3, v_rgTup2, v_rgTup1, v_rgTup, v_argsc2, v_argsc1, v_argsc, v_putc1, v_putc, v_takesc2, v_takesc1, v_takesc, v_contsc2, v_contsc1, v_contsc, v_backsI2, v_backsI1, v_backsI, v_binF7, v_binF6, v_binF5, v_binF4, v_binF3, v_binF2, v_binF1, v_binF, v_par22, v_par21, v_par2, v_par32, v_par31, v_par3, v_ext8, v_ext7, v_ext6, v_ext5, v_ext4, v_ext3, v_ext2, v_ext1, v_ext, v_zip2, v_zip1, v_zip, v_irgB3, v_irgB2, v_irgB1, v_irgB, v_rgLst3, v_rgLst2, v_rgLst1, v_rgLst, v_rgTupB5, v_rgTupB4, v_rgTupB3, v_rgTupB2, v_rgTupB1, v_rgTupB, v_rgLstB5, v_rgLstB4, v_rgLstB3, v_rgLstB2, v_rgLstB1, v_rgLstB, v_ok, v_c, v_nil, v_next, v_yes, v_oN, v_gtup, v_var, v_for0, v_lc0, v_args0, v_put0, v_takes0, v_conts0, v_backs0, w_add, w_sub, w_neg, w_lt, w_le, w_gt, w_ge, w_intI, w_intB, w_ix0, w_ix1, w_ix2, w_i0, w_i1, w_i2, pend, cont, take, frz, frzs, getP, setP, Res.of, boolOf, isPl, mutS, mutP, intOf, move, retOf, backs1, put1, fzT, ioOf, chk, early, shut, isTmp, flatB, scal, List.map_cons, List.map_nil, List.cons_append, List.nil_append, List.append_nil, List.replicate_succ, List.replicate_zero, List.replicate, List.length_cons, List.length_nil, List.getElem?_cons_zero, List.getElem?_cons_succ, List.set_cons_zero, List.set_cons_succ, List.all_cons, List.all_nil, List.contains_cons, List.contains_nil, List.elem_cons, List.elem_nil, List.isEmpty_nil, List.isEmpty_cons, Nat.reduceAdd, Nat.reduceSub, Nat.reduceBEq, Nat.reduceLT, Nat.reduceLeDiff, Nat.reduceEqDiff, decide_true, decide_false, Bool.and_true, Bool.true_and, Bool.or_true, Bool.true_or, Bool.or_false, Bool.false_or, Bool.and_false, Bool.false_and, Bool.not_true, Bool.not_false, Bool.false_eq_true, reduceIte, ite_true, ite_false, beq_self_eq_true, Nat.zero_add, reduceCtorEq, and_self, true_and, and_true, ge_iff_le, gt_iff_lt, Nat.succ_eq_add_one, Nat.add_one_sub_one, Nat.zero_lt_succ, Nat.lt_add_left_iff_pos, wipeE, restE, pick, List.filterMap_cons, List.filterMap_nil, u_irg, u_irgB, Int.reduceLE, Int.reduceLT, Int.reduceNeg, u_unT, u_unL, u_unW, u_max, u_min, u_abs, u_tup, u_lst, u_lc, u_app0, u_app, u_ext0, u_ext, u_par2, u_par3, u_zip, u_aug0, u_aug, u_aug2, u_ch, u_ch1, u_ch2, u_ch3, e_int, ne_int, e_bl, ne_bl, q_aa, q_af, q_ac, q_fa, q_ff, q_fc, q_ca, q_cf, q_cc, is_non, is_int, isn_non, isn_int, ix_t0, ix_t1, ix_t2, ix_l0, ix_l1, x_asc, x_kco, x_ite, decide_eq_true_eq, Bool.not_eq_true', decide_eq_false_iff_not, u_srT, u_srL, u_srW, isT, seqV, tupV, lstV, u_join, Option.getD, i_lt_s, i_bs_s, i_b_s, is_str, e]
  | n + 1, .scr _, h => h.elim
  | n + 1, .obj _ _, h => h.elim
theorem same40 {d : D} (n : Nat) (h : pln n d) (hn : n ≤ 40) : F_law_same 40 [.fz d, .fz d] = .ok (.fz (.bl true), [.fz d, .fz d]) := same_ok 40 d (pln_le h hn)
mutual
theorem pln_py : ∀ (n : Nat) (d : D), pln n d → ∃ p, py d = some p ∧ PyData.canLay0 p = true ∧ PyData.depth p ≤ n ∧ PyData.eqv p p = true
  | 0, _, h => h.elim
  | n + 1, .tup ds, h => by
    obtain ⟨ps, h1, h2, h3, h4⟩ := pln_pys n ds h.2
    exact ⟨.tuple ps, by simp only [py, h1], by simp only [PyData.canLay0, h2], by simp only [PyData.depth]; omega, by simp only [PyData.eqv, h4]⟩
  | n + 1, .lst ds, h => by
    obtain ⟨ps, h1, h2, h3, h4⟩ := pln_pys n ds h.2
    exact ⟨.list ps, by simp only [py, h1], by simp only [PyData.canLay0, h2], by simp only [PyData.depth]; omega, by simp only [PyData.eqv, h4]⟩
  | n + 1, .non, _ => ⟨.none, rfl, by simp only [PyData.canLay0], by simp only [PyData.depth]; omega, by simp only [PyData.eqv]⟩
  | n + 1, .bl b, _ => ⟨.bool b, rfl, by simp only [PyData.canLay0], by simp only [PyData.depth]; omega, by simp only [PyData.eqv, beq_self_eq_true]⟩
  | n + 1, .int i, _ => ⟨.int i, rfl, by simp only [PyData.canLay0], by simp only [PyData.depth]; omega, by simp only [PyData.eqv, beq_self_eq_true]⟩
  | n + 1, .str s, h => ⟨.str s, rfl, by simp only [PyData.canLay0]; exact h, by simp only [PyData.depth]; omega, by simp only [PyData.eqv, beq_self_eq_true]⟩
  | n + 1, .scr _, h => h.elim
  | n + 1, .obj _ _, h => h.elim
theorem pln_pys : ∀ (n : Nat) (ds : List D), (∀ d ∈ ds, pln n d) → ∃ ps, pys ds = some ps ∧ PyData.canLayAll0 ps = true ∧ PyData.depthAll ps ≤ n ∧ PyData.eqvAll ps ps = true
  | n, [], _ => ⟨[], rfl, by simp only [PyData.canLayAll0], by simp only [PyData.depthAll]; omega, by simp only [PyData.eqvAll]⟩
  | n, d :: ds, h => by
    obtain ⟨p, h1, h2, h3, h4⟩ := pln_py n d (h d (by simp))
    obtain ⟨ps, g1, g2, g3, g4⟩ := pln_pys n ds fun e he => h e (by simp [he])
    exact ⟨p :: ps, by simp only [pys, h1, g1], by simp only [PyData.canLayAll0, h2, g2, Bool.and_self], by simp only [PyData.depthAll]; omega, by simp only [PyData.eqvAll, h4, g4, Bool.and_self]⟩
end
theorem shp {p : PyData} {n : Nat} (h : PyData.canLay0 p = true) (h2 : PyData.depth p ≤ n) (hn : n ≤ 60) : SeqAt.shaped p = true := by
  unfold SeqAt.shaped
  rw [h, decide_eq_true (show PyData.depth p ≤ 64 by omega)]; rfl
end Gn
namespace Gn
open Mi PySem
def softN : Nat → D → D
  | n + 1, .tup ds => .lst (ds.map (softN n))
  | n + 1, .lst ds => .lst (ds.map (softN n))
  | _, d => d
theorem lists_lc {F : Fn} {x : Option W} {g : D → D} : ∀ ds : List D, (∀ d ∈ ds, ∃ w, F [.fz d] = .ok (w, [.fz d]) ∧ frz w = g d) →
    ∃ ws, lcL [1] (gSet 1) cYes (E_law_lists_1 F) ds [x, none] = .ok (ws, [x, none]) ∧ frzs ws = ds.map g
  | [], _ => ⟨[], rfl, rfl⟩
  | d :: ds, h => by
    obtain ⟨ws, ih, e⟩ := lists_lc (x := x) (g := g) ds fun e he => h e (by simp [he])
    obtain ⟨w, h0, h1⟩ := h d (by simp)
    refine ⟨w :: ws, ?_, ?_⟩
    · simp only [E_law_lists_1, v_bin6, v_bin5, v_bin4, v_bin3, v_bin2, v_bin1, v_bin, v_un3, v_un2, v_un1, v_un, v_test2, v_test1, v_test, v_cons3, v_cons2, v_cons1, v_cons, v_star4, v_star3, v_star2, v_star1, v_star, v_tup2, v_tup1, v_tup, v_lst2, v_lst1, v_lst, v_callB3, v_callB2, v_callB1, v_callB, v_andT1, v_andT, v_orT1, v_orT, v_notT1, v_notT, v_and2, v_and1, v_and, v_or2, v_or1, v_or, v_not2, v_not1, v_not, v_if1, v_if, v_orL1, v_orL, v_seq1, v_seq, v_ifS1, v_ifS, v_ret2, v_ret1, v_ret, v_drop1, v_drop, v_asg3, v_asg2, v_asg1, v_asg, v_gset1, v_gset, v_gsub5, v_gsub4, v_gsub3, v_gsub2, v_gsub1, v_gsub, v_gsc1, v_gsc, v_gsn1, v_gsn, v_for1, v_for, v_forc2, v_forc1, v_forc, v_lcc2, v_lcc1, v_lcc, v_lcT3, v_lcT2, v_lcT1, v_lcT, v_lc4, v_lc1, v_lc, v_def4, v_def3, v_def2, v_def1, v_def, v_callV4, v_callV3, v_callV2, v_callV1, v_callV, v_callP4, v_callP3, v_callP2, v_callP1, v_callP, v_callKV5, v_callKV4, v_callKV3, v_callKV2, v_callKV1, v_callKV, v_callKP5, v_callKP4, v_callKP3, v_callKP2, v_callKP1, v_callKP, v_callIO5, v_callIO4, v_callIO3, v_callIO2, v_callIO1, v_callIO, v_app7, v_app6, v_app5, v_app4, v_app3, v_app2, v_app1, v_app, v_sl6, v_sl5, v_sl4, v_sl3, v_sl2, v_sl1, v_sl, v_oS2, v_oS1, v_oS, v_iseq3, v_iseq2, v_iseq1, v_iseq, v_ienum3, v_ienum2, v_ienum1, v_ienum, v_irg1, v_irg, v_rgTup3, v_rgTup2, v_rgTup1, v_rgTup, v_argsc2, v_argsc1, v_argsc, v_putc1, v_putc, v_takesc2, v_takesc1, v_takesc, v_contsc2, v_contsc1, v_contsc, v_backsI2, v_backsI1, v_backsI, v_binF7, v_binF6, v_binF5, v_binF4, v_binF3, v_binF2, v_binF1, v_binF, v_par22, v_par21, v_par2, v_par32, v_par31, v_par3, v_ext8, v_ext7, v_ext6, v_ext5, v_ext4, v_ext3, v_ext2, v_ext1, v_ext, v_zip2, v_zip1, v_zip, v_irgB3, v_irgB2, v_irgB1, v_irgB, v_rgLst3, v_rgLst2, v_rgLst1, v_rgLst, v_rgTupB5, v_rgTupB4, v_rgTupB3, v_rgTupB2, v_rgTupB1, v_rgTupB, v_rgLstB5, v_rgLstB4, v_rgLstB3, v_rgLstB2, v_rgLstB1, v_rgLstB, v_ok, v_c, v_nil, v_next, v_yes, v_oN, v_gtup, v_var, v_for0, v_lc0, v_args0, v_put0, v_takes0, v_conts0, v_backs0, w_add, w_sub, w_neg, w_lt, w_le, w_gt, w_ge, w_intI, w_intB, w_ix0, w_ix1, w_ix2, w_i0, w_i1, w_i2, pend, cont, take, frz, frzs, getP, setP, Res.of, boolOf, isPl, mutS, mutP, intOf, move, retOf, backs1, put1, fzT, ioOf, chk, early, shut, isTmp, flatB, scal, List.map_cons, List.map_nil, List.cons_append, List.nil_append, List.append_nil, List.replicate_succ, List.replicate_zero, List.replicate, List.length_cons, List.length_nil, List.getElem?_cons_zero, List.getElem?_cons_succ, List.set_cons_zero, List.set_cons_succ, List.all_cons, List.all_nil, List.contains_cons, List.contains_nil, List.elem_cons, List.elem_nil, List.isEmpty_nil, List.isEmpty_cons, Nat.reduceAdd, Nat.reduceSub, Nat.reduceBEq, Nat.reduceLT, Nat.reduceLeDiff, Nat.reduceEqDiff, decide_true, decide_false, Bool.and_true, Bool.true_and, Bool.or_true, Bool.true_or, Bool.or_false, Bool.false_or, Bool.and_false, Bool.false_and, Bool.not_true, Bool.not_false, Bool.false_eq_true, reduceIte, ite_true, ite_false, beq_self_eq_true, Nat.zero_add, reduceCtorEq, and_self, true_and, and_true, ge_iff_le, gt_iff_lt, Nat.succ_eq_add_one, Nat.add_one_sub_one, Nat.zero_lt_succ, Nat.lt_add_left_iff_pos, wipeE, restE, pick, List.filterMap_cons, List.filterMap_nil, u_irg, u_irgB, Int.reduceLE, Int.reduceLT, Int.reduceNeg, u_unT, u_unL, u_unW, u_max, u_min, u_abs, u_tup, u_lst, u_lc, u_app0, u_app, u_ext0, u_ext, u_par2, u_par3, u_zip, u_aug0, u_aug, u_aug2, u_ch, u_ch1, u_ch2, u_ch3, e_int, ne_int, e_bl, ne_bl, q_aa, q_af, q_ac, q_fa, q_ff, q_fc, q_ca, q_cf, q_cc, is_non, is_int, isn_non, isn_int, ix_t0, ix_t1, ix_t2, ix_l0, ix_l1, x_asc, x_kco, x_ite, decide_eq_true_eq, Bool.not_eq_true', decide_eq_false_iff_not, u_srT, u_srL, u_srW, isT, seqV, tupV, lstV, u_join, Option.getD, h0, ih]
    · rw [List.map_cons, ← h1, ← e]; rfl
theorem lists_ok : ∀ (n : Nat) (d : D), pln n d → ∃ w, F_law_lists n [.fz d] = .ok (w, [.fz d]) ∧ frz w = softN n d
  | 0, _, h => h.elim
  | n + 1, .tup ds, h => by
    obtain ⟨ws, e, e2⟩ := lists_lc (F := F_law_lists n) (x := some (.fz (.tup ds))) (g := softN n) ds fun d hd => lists_ok n d (h.2 d hd)
    have hl := h.1
    refine ⟨.lst ws, ?_, by rw [softN, ← e2]; rfl⟩
    simp only [F_law_lists, m_law_lists, v_bin6, v_bin5, v_bin4, v_bin3, v_bin2, v_bin1, v_bin, v_un3, v_un2, v_un1, v_un, v_test2, v_test1, v_test, v_cons3, v_cons2, v_cons1, v_cons, v_star4, v_star3, v_star2, v_star1, v_star, v_tup2, v_tup1, v_tup, v_lst2, v_lst1, v_lst, v_callB3, v_callB2, v_callB1, v_callB, v_andT1, v_andT, v_orT1, v_orT, v_notT1, v_notT, v_and2, v_and1, v_and, v_or2, v_or1, v_or, v_not2, v_not1, v_not, v_if1, v_if, v_orL1, v_orL, v_seq1, v_seq, v_ifS1, v_ifS, v_ret2, v_ret1, v_ret, v_drop1, v_drop, v_asg3, v_asg2, v_asg1, v_asg, v_gset1, v_gset, v_gsub5, v_gsub4, v_gsub3, v_gsub2, v_gsub1, v_gsub, v_gsc1, v_gsc, v_gsn1, v_gsn, v_for1, v_for, v_forc2, v_forc1, v_forc, v_lcc2, v_lcc1, v_lcc, v_lcT3, v_lcT2, v_lcT1, v_lcT, v_lc4, v_lc1, v_lc, v_def4, v_def3, v_def2, v_def1, v_def, v_callV4, v_callV3, v_callV2, v_callV1, v_callV, v_callP4, v_callP3, v_callP2, v_callP1, v_callP, v_callKV5, v_callKV4, v_callKV3, v_callKV2, v_callKV1, v_callKV, v_callKP5, v_callKP4, v_callKP3, v_callKP2, v_callKP1, v_callKP, v_callIO5, v_callIO4, v_callIO3, v_callIO2, v_callIO1, v_callIO, v_app7, v_app6, v_app5, v_app4, v_app3, v_app2, v_app1, v_app, v_sl6, v_sl5, v_sl4, v_sl3, v_sl2, v_sl1, v_sl, v_oS2, v_oS1, v_oS, v_iseq3, v_iseq2, v_iseq1, v_iseq, v_ienum3, v_ienum2, v_ienum1, v_ienum, v_irg1, v_irg, v_rgTup3, v_rgTup2, v_rgTup1, v_rgTup, v_argsc2, v_argsc1, v_argsc, v_putc1, v_putc, v_takesc2, v_takesc1, v_takesc, v_contsc2, v_contsc1, v_contsc, v_backsI2, v_backsI1, v_backsI, v_binF7, v_binF6, v_binF5, v_binF4, v_binF3, v_binF2, v_binF1, v_binF, v_par22, v_par21, v_par2, v_par32, v_par31, v_par3, v_ext8, v_ext7, v_ext6, v_ext5, v_ext4, v_ext3, v_ext2, v_ext1, v_ext, v_zip2, v_zip1, v_zip, v_irgB3, v_irgB2, v_irgB1, v_irgB, v_rgLst3, v_rgLst2, v_rgLst1, v_rgLst, v_rgTupB5, v_rgTupB4, v_rgTupB3, v_rgTupB2, v_rgTupB1, v_rgTupB, v_rgLstB5, v_rgLstB4, v_rgLstB3, v_rgLstB2, v_rgLstB1, v_rgLstB, v_ok, v_c, v_nil, v_next, v_yes, v_oN, v_gtup, v_var, v_for0, v_lc0, v_args0, v_put0, v_takes0, v_conts0, v_backs0, w_add, w_sub, w_neg, w_lt, w_le, w_gt, w_ge, w_intI, w_intB, w_ix0, w_ix1, w_ix2, w_i0, w_i1, w_i2, pend, cont, take, frz, frzs, getP, setP, Res.of, boolOf, isPl, mutS, mutP, intOf, move, retOf, backs1, put1, fzT, ioOf, chk, early, shut, isTmp, flatB, scal, List.map_cons, List.map_nil, List.cons_append, List.nil_append, List.append_nil, List.replicate_succ, List.replicate_zero, List.replicate, List.length_cons, List.length_nil, List.getElem?_cons_zero, List.getElem?_cons_succ, List.set_cons_zero, List.set_cons_succ, List.all_cons, List.all_nil, List.contains_cons, List.contains_nil, List.elem_cons, List.elem_nil, List.isEmpty_nil, List.isEmpty_cons, Nat.reduceAdd, Nat.reduceSub, Nat.reduceBEq, Nat.reduceLT, Nat.reduceLeDiff, Nat.reduceEqDiff, decide_true, decide_false, Bool.and_true, Bool.true_and, Bool.or_true, Bool.true_or, Bool.or_false, Bool.false_or, Bool.and_false, Bool.false_and, Bool.not_true, Bool.not_false, Bool.false_eq_true, reduceIte, ite_true, ite_false, beq_self_eq_true, Nat.zero_add, reduceCtorEq, and_self, true_and, and_true, ge_iff_le, gt_iff_lt, Nat.succ_eq_add_one, Nat.add_one_sub_one, Nat.zero_lt_succ, Nat.lt_add_left_iff_pos, wipeE, restE, pick, List.filterMap_cons, List.filterMap_nil, u_irg, u_irgB, Int.reduceLE, Int.reduceLT, Int.reduceNeg, u_unT, u_unL, u_unW, u_max, u_min, u_abs, u_tup, u_lst, u_lc, u_app0, u_app, u_ext0, u_ext, u_par2, u_par3, u_zip, u_aug0, u_aug, u_aug2, u_ch, u_ch1, u_ch2, u_ch3, e_int, ne_int, e_bl, ne_bl, q_aa, q_af, q_ac, q_fa, q_ff, q_fc, q_ca, q_cf, q_cc, is_non, is_int, isn_non, isn_int, ix_t0, ix_t1, ix_t2, ix_l0, ix_l1, x_asc, x_kco, x_ite, decide_eq_true_eq, Bool.not_eq_true', decide_eq_false_iff_not, u_srT, u_srL, u_srW, isT, seqV, tupV, lstV, u_join, Option.getD, i_lt_t, hl, e]
  | n + 1, .lst ds, h => by
    obtain ⟨ws, e, e2⟩ := lists_lc (F := F_law_lists n) (x := some (.fz (.lst ds))) (g := softN n) ds fun d hd => lists_ok n d (h.2 d hd)
    have hl := h.1
    refine ⟨.lst ws, ?_, by rw [softN, ← e2]; rfl⟩
    simp only [F_law_lists, m_law_lists, v_bin6, v_bin5, v_bin4, v_bin3, v_bin2, v_bin1, v_bin, v_un3, v_un2, v_un1, v_un, v_test2, v_test1, v_test, v_cons3, v_cons2, v_cons1, v_cons, v_star4, v_star3, v_star2, v_star1, v_star, v_tup2, v_tup1, v_tup, v_lst2, v_lst1, v_lst, v_callB3, v_callB2, v_callB1, v_callB, v_andT1, v_andT, v_orT1, v_orT, v_notT1, v_notT, v_and2, v_and1, v_and, v_or2, v_or1, v_or, v_not2, v_not1, v_not, v_if1, v_if, v_orL1, v_orL, v_seq1, v_seq, v_ifS1, v_ifS, v_ret2, v_ret1, v_ret, v_drop1, v_drop, v_asg3, v_asg2, v_asg1, v_asg, v_gset1, v_gset, v_gsub5, v_gsub4, v_gsub3, v_gsub2, v_gsub1, v_gsub, v_gsc1, v_gsc, v_gsn1, v_gsn, v_for1, v_for, v_forc2, v_forc1, v_forc, v_lcc2, v_lcc1, v_lcc, v_lcT3, v_lcT2, v_lcT1, v_lcT, v_lc4, v_lc1, v_lc, v_def4, v_def3, v_def2, v_def1, v_def, v_callV4, v_callV3, v_callV2, v_callV1, v_callV, v_callP4, v_callP3, v_callP2, v_callP1, v_callP, v_callKV5, v_callKV4, v_callKV3, v_callKV2, v_callKV1, v_callKV, v_callKP5, v_callKP4, v_callKP3, v_callKP2, v_callKP1, v_callKP, v_callIO5, v_callIO4, v_callIO3, v_callIO2, v_callIO1, v_callIO, v_app7, v_app6, v_app5, v_app4, v_app3, v_app2, v_app1, v_app, v_sl6, v_sl5, v_sl4, v_sl3, v_sl2, v_sl1, v_sl, v_oS2, v_oS1, v_oS, v_iseq3, v_iseq2, v_iseq1, v_iseq, v_ienum3, v_ienum2, v_ienum1, v_ienum, v_irg1, v_irg, v_rgTup3, v_rgTup2, v_rgTup1, v_rgTup, v_argsc2, v_argsc1, v_argsc, v_putc1, v_putc, v_takesc2, v_takesc1, v_takesc, v_contsc2, v_contsc1, v_contsc, v_backsI2, v_backsI1, v_backsI, v_binF7, v_binF6, v_binF5, v_binF4, v_binF3, v_binF2, v_binF1, v_binF, v_par22, v_par21, v_par2, v_par32, v_par31, v_par3, v_ext8, v_ext7, v_ext6, v_ext5, v_ext4, v_ext3, v_ext2, v_ext1, v_ext, v_zip2, v_zip1, v_zip, v_irgB3, v_irgB2, v_irgB1, v_irgB, v_rgLst3, v_rgLst2, v_rgLst1, v_rgLst, v_rgTupB5, v_rgTupB4, v_rgTupB3, v_rgTupB2, v_rgTupB1, v_rgTupB, v_rgLstB5, v_rgLstB4, v_rgLstB3, v_rgLstB2, v_rgLstB1, v_rgLstB, v_ok, v_c, v_nil, v_next, v_yes, v_oN, v_gtup, v_var, v_for0, v_lc0, v_args0, v_put0, v_takes0, v_conts0, v_backs0, w_add, w_sub, w_neg, w_lt, w_le, w_gt, w_ge, w_intI, w_intB, w_ix0, w_ix1, w_ix2, w_i0, w_i1, w_i2, pend, cont, take, frz, frzs, getP, setP, Res.of, boolOf, isPl, mutS, mutP, intOf, move, retOf, backs1, put1, fzT, ioOf, chk, early, shut, isTmp, flatB, scal, List.map_cons, List.map_nil, List.cons_append, List.nil_append, List.append_nil, List.replicate_succ, List.replicate_zero, List.replicate, List.length_cons, List.length_nil, List.getElem?_cons_zero, List.getElem?_cons_succ, List.set_cons_zero, List.set_cons_succ, List.all_cons, List.all_nil, List.contains_cons, List.contains_nil, List.elem_cons, List.elem_nil, List.isEmpty_nil, List.isEmpty_cons, Nat.reduceAdd, Nat.reduceSub, Nat.reduceBEq, Nat.reduceLT, Nat.reduceLeDiff, Nat.reduceEqDiff, decide_true, decide_false, Bool.and_true, Bool.true_and, Bool.or_true, Bool.true_or, Bool.or_false, Bool.false_or, Bool.and_false, Bool.false_and, Bool.not_true, Bool.not_false, Bool.false_eq_true, reduceIte, ite_true, ite_false, beq_self_eq_true, Nat.zero_add, reduceCtorEq, and_self, true_and, and_true, ge_iff_le, gt_iff_lt, Nat.succ_eq_add_one, Nat.add_one_sub_one, Nat.zero_lt_succ, Nat.lt_add_left_iff_pos, wipeE, restE, pick, List.filterMap_cons, List.filterMap_nil, u_irg, u_irgB, Int.reduceLE, Int.reduceLT, Int.reduceNeg, u_unT, u_unL, u_unW, u_max, u_min, u_abs, u_tup, u_lst, u_lc, u_app0, u_app, u_ext0, u_ext, u_par2, u_par3, u_zip, u_aug0, u_aug, u_aug2, u_ch, u_ch1, u_ch2, u_ch3, e_int, ne_int, e_bl, ne_bl, q_aa, q_af, q_ac, q_fa, q_ff, q_fc, q_ca, q_cf, q_cc, is_non, is_int, isn_non, isn_int, ix_t0, ix_t1, ix_t2, ix_l0, ix_l1, x_asc, x_kco, x_ite, decide_eq_true_eq, Bool.not_eq_true', decide_eq_false_iff_not, u_srT, u_srL, u_srW, isT, seqV, tupV, lstV, u_join, Option.getD, i_lt_l, hl, e]
  | n + 1, .non, _ => ⟨.fz .non, by simp only [F_law_lists, m_law_lists, v_bin6, v_bin5, v_bin4, v_bin3, v_bin2, v_bin1, v_bin, v_un3, v_un2, v_un1, v_un, v_test2, v_test1, v_test, v_cons3, v_cons2, v_cons1, v_cons, v_star4, v_star3, v_star2, v_star1, v_star, v_tup2, v_tup1, v_tup, v_lst2, v_lst1, v_lst, v_callB3, v_callB2, v_callB1, v_callB, v_andT1, v_andT, v_orT1, v_orT, v_notT1, v_notT, v_and2, v_and1, v_and, v_or2, v_or1, v_or, v_not2, v_not1, v_not, v_if1, v_if, v_orL1, v_orL, v_seq1, v_seq, v_ifS1, v_ifS, v_ret2, v_ret1, v_ret, v_drop1, v_drop, v_asg3, v_asg2, v_asg1, v_asg, v_gset1, v_gset, v_gsub5, v_gsub4, v_gsub3, v_gsub2, v_gsub1, v_gsub, v_gsc1, v_gsc, v_gsn1, v_gsn, v_for1, v_for, v_forc2, v_forc1, v_forc, v_lcc2, v_lcc1, v_lcc, v_lcT3, v_lcT2, v_lcT1, v_lcT, v_lc4, v_lc1, v_lc, v_def4, v_def3, v_def2, v_def1, v_def, v_callV4, v_callV3, v_callV2, v_callV1, v_callV, v_callP4, v_callP3, v_callP2, v_callP1, v_callP, v_callKV5, v_callKV4, v_callKV3, v_callKV2, v_callKV1, v_callKV, v_callKP5, v_callKP4, v_callKP3, v_callKP2, v_callKP1, v_callKP, v_callIO5, v_callIO4, v_callIO3, v_callIO2, v_callIO1, v_callIO, v_app7, v_app6, v_app5, v_app4, v_app3, v_app2, v_app1, v_app, v_sl6, v_sl5, v_sl4, v_sl3, v_sl2, v_sl1, v_sl, v_oS2, v_oS1, v_oS, v_iseq3, v_iseq2, v_iseq1, v_iseq, v_ienum3, v_ienum2, v_ienum1, v_ienum, v_irg1, v_irg, v_rgTup3, v_rgTup2, v_rgTup1, v_rgTup, v_argsc2, v_argsc1, v_argsc, v_putc1, v_putc, v_takesc2, v_takesc1, v_takesc, v_contsc2, v_contsc1, v_contsc, v_backsI2, v_backsI1, v_backsI, v_binF7, v_binF6, v_binF5, v_binF4, v_binF3, v_binF2, v_binF1, v_binF, v_par22, v_par21, v_par2, v_par32, v_par31, v_par3, v_ext8, v_ext7, v_ext6, v_ext5, v_ext4, v_ext3, v_ext2, v_ext1, v_ext, v_zip2, v_zip1, v_zip, v_irgB3, v_irgB2, v_irgB1, v_irgB, v_rgLst3, v_rgLst2, v_rgLst1, v_rgLst, v_rgTupB5, v_rgTupB4, v_rgTupB3, v_rgTupB2, v_rgTupB1, v_rgTupB, v_rgLstB5, v_rgLstB4, v_rgLstB3, v_rgLstB2, v_rgLstB1, v_rgLstB, v_ok, v_c, v_nil, v_next, v_yes, v_oN, v_gtup, v_var, v_for0, v_lc0, v_args0, v_put0, v_takes0, v_conts0, v_backs0, w_add, w_sub, w_neg, w_lt, w_le, w_gt, w_ge, w_intI, w_intB, w_ix0, w_ix1, w_ix2, w_i0, w_i1, w_i2, pend, cont, take, frz, frzs, getP, setP, Res.of, boolOf, isPl, mutS, mutP, intOf, move, retOf, backs1, put1, fzT, ioOf, chk, early, shut, isTmp, flatB, scal, List.map_cons, List.map_nil, List.cons_append, List.nil_append, List.append_nil, List.replicate_succ, List.replicate_zero, List.replicate, List.length_cons, List.length_nil, List.getElem?_cons_zero, List.getElem?_cons_succ, List.set_cons_zero, List.set_cons_succ, List.all_cons, List.all_nil, List.contains_cons, List.contains_nil, List.elem_cons, List.elem_nil, List.isEmpty_nil, List.isEmpty_cons, Nat.reduceAdd, Nat.reduceSub, Nat.reduceBEq, Nat.reduceLT, Nat.reduceLeDiff, Nat.reduceEqDiff, decide_true, decide_false, Bool.and_true, Bool.true_and, Bool.or_true, Bool.true_or, Bool.or_false, Bool.false_or, Bool.and_false, Bool.false_and, Bool.not_true, Bool.not_false, Bool.false_eq_true, reduceIte, ite_true, ite_false, beq_self_eq_true, Nat.zero_add, reduceCtorEq, and_self, true_and, and_true, ge_iff_le, gt_iff_lt, Nat.succ_eq_add_one, Nat.add_one_sub_one, Nat.zero_lt_succ, Nat.lt_add_left_iff_pos, wipeE, restE, pick, List.filterMap_cons, List.filterMap_nil, u_irg, u_irgB, Int.reduceLE, Int.reduceLT, Int.reduceNeg, u_unT, u_unL, u_unW, u_max, u_min, u_abs, u_tup, u_lst, u_lc, u_app0, u_app, u_ext0, u_ext, u_par2, u_par3, u_zip, u_aug0, u_aug, u_aug2, u_ch, u_ch1, u_ch2, u_ch3, e_int, ne_int, e_bl, ne_bl, q_aa, q_af, q_ac, q_fa, q_ff, q_fc, q_ca, q_cf, q_cc, is_non, is_int, isn_non, isn_int, ix_t0, ix_t1, ix_t2, ix_l0, ix_l1, x_asc, x_kco, x_ite, decide_eq_true_eq, Bool.not_eq_true', decide_eq_false_iff_not, u_srT, u_srL, u_srW, isT, seqV, tupV, lstV, u_join, Option.getD, i_lt_n], rfl⟩
  | n + 1, .bl b, _ => ⟨.fz (.bl b), by simp only [F_law_lists, m_law_lists, v_bin6, v_bin5, v_bin4, v_bin3, v_bin2, v_bin1, v_bin, v_un3, v_un2, v_un1, v_un, v_test2, v_test1, v_test, v_cons3, v_cons2, v_cons1, v_cons, v_star4, v_star3, v_star2, v_star1, v_star, v_tup2, v_tup1, v_tup, v_lst2, v_lst1, v_lst, v_callB3, v_callB2, v_callB1, v_callB, v_andT1, v_andT, v_orT1, v_orT, v_notT1, v_notT, v_and2, v_and1, v_and, v_or2, v_or1, v_or, v_not2, v_not1, v_not, v_if1, v_if, v_orL1, v_orL, v_seq1, v_seq, v_ifS1, v_ifS, v_ret2, v_ret1, v_ret, v_drop1, v_drop, v_asg3, v_asg2, v_asg1, v_asg, v_gset1, v_gset, v_gsub5, v_gsub4, v_gsub3, v_gsub2, v_gsub1, v_gsub, v_gsc1, v_gsc, v_gsn1, v_gsn, v_for1, v_for, v_forc2, v_forc1, v_forc, v_lcc2, v_lcc1, v_lcc, v_lcT3, v_lcT2, v_lcT1, v_lcT, v_lc4, v_lc1, v_lc, v_def4, v_def3, v_def2, v_def1, v_def, v_callV4, v_callV3, v_callV2, v_callV1, v_callV, v_callP4, v_callP3, v_callP2, v_callP1, v_callP, v_callKV5, v_callKV4, v_callKV3, v_callKV2, v_callKV1, v_callKV, v_callKP5, v_callKP4, v_callKP3, v_callKP2, v_callKP1, v_callKP, v_callIO5, v_callIO4, v_callIO3, v_callIO2, v_callIO1, v_callIO, v_app7, v_app6, v_app5, v_app4, v_app3, v_app2, v_app1, v_app, v_sl6, v_sl5, v_sl4, v_sl3, v_sl2, v_sl1, v_sl, v_oS2, v_oS1, v_oS, v_iseq3, v_iseq2, v_iseq1, v_iseq, v_ienum3, v_ienum2, v_ienum1, v_ienum, v_irg1, v_irg, v_rgTup3, v_rgTup2, v_rgTup1, v_rgTup, v_argsc2, v_argsc1, v_argsc, v_putc1, v_putc, v_takesc2, v_takesc1, v_takesc, v_contsc2, v_contsc1, v_contsc, v_backsI2, v_backsI1, v_backsI, v_binF7, v_binF6, v_binF5, v_binF4, v_binF3, v_binF2, v_binF1, v_binF, v_par22, v_par21, v_par2, v_par32, v_par31, v_par3, v_ext8, v_ext7, v_ext6, v_ext5, v_ext4, v_ext3, v_ext2, v_ext1, v_ext, v_zip2, v_zip1, v_zip, v_irgB3, v_irgB2, v_irgB1, v_irgB, v_rgLst3, v_rgLst2, v_rgLst1, v_rgLst, v_rgTupB5, v_rgTupB4, v_rgTupB3, v_rgTupB2, v_rgTupB1, v_rgTupB, v_rgLstB5, v_rgLstB4, v_rgLstB3, v_rgLstB2, v_rgLstB1, v_rgLstB, v_ok, v_c, v_nil, v_next, v_yes, v_oN, v_gtup, v_var, v_for0, v_lc0, v_args0, v_put0, v_takes0, v_conts0, v_backs0, w_add, w_sub, w_neg, w_lt, w_le, w_gt, w_ge, w_intI, w_intB, w_ix0, w_ix1, w_ix2, w_i0, w_i1, w_i2, pend, cont, take, frz, frzs, getP, setP, Res.of, boolOf, isPl, mutS, mutP, intOf, move, retOf, backs1, put1, fzT, ioOf, chk, early, shut, isTmp, flatB, scal, List.map_cons, List.map_nil, List.cons_append, List.nil_append, List.append_nil, List.replicate_succ, List.replicate_zero, List.replicate, List.length_cons, List.length_nil, List.getElem?_cons_zero, List.getElem?_cons_succ, List.set_cons_zero, List.set_cons_succ, List.all_cons, List.all_nil, List.contains_cons, List.contains_nil, List.elem_cons, List.elem_nil, List.isEmpty_nil, List.isEmpty_cons, Nat.reduceAdd, Nat.reduceSub, Nat.reduceBEq, Nat.reduceLT, Nat.reduceLeDiff, Nat.reduceEqDiff, decide_true, decide_false, Bool.and_true, Bool.true_and, Bool.or_true, Bool.true_or, Bool.or_false, Bool.false_or, Bool.and_false, Bool.false_and, Bool.not_true, Bool.not_false, Bool.false_eq_true, reduceIte, ite_true, ite_false, beq_self_eq_true, Nat.zero_add, reduceCtorEq, and_self, true_and, and_true, ge_iff_le, gt_iff_lt, Nat.succ_eq_add_one, Nat.add_one_sub_one, Nat.zero_lt_succ, Nat.lt_add_left_iff_pos, wipeE, restE, pick, List.filterMap_cons, List.filterMap_nil, u_irg, u_irgB, Int.reduceLE, Int.reduceLT, Int.reduceNeg, u_unT, u_unL, u_unW, u_max, u_min, u_abs, u_tup, u_lst, u_lc, u_app0, u_app, u_ext0, u_ext, u_par2, u_par3, u_zip, u_aug0, u_aug, u_aug2, u_ch, u_ch1, u_ch2, u_ch3, e_int, ne_int, e_bl, ne_bl, q_aa, q_af, q_ac, q_fa, q_ff, q_fc, q_ca, q_cf, q_cc, is_non, is_int, isn_non, isn_int, ix_t0, ix_t1, ix_t2, ix_l0, ix_l1, x_asc, x_kco, x_ite, decide_eq_true_eq, Bool.not_eq_true', decide_eq_false_iff_not, u_srT, u_srL, u_srW, isT, seqV, tupV, lstV, u_join, Option.getD, i_lt_b], rfl⟩
  | n + 1, .int i, _ => ⟨.fz (.int i), by simp only [F_law_lists, m_law_lists, v_bin6, v_bin5, v_bin4, v_bin3, v_bin2, v_bin1, v_bin, v_un3, v_un2, v_un1, v_un, v_test2, v_test1, v_test, v_cons3, v_cons2, v_cons1, v_cons, v_star4, v_star3, v_star2, v_star1, v_star, v_tup2, v_tup1, v_tup, v_lst2, v_lst1, v_lst, v_callB3, v_callB2, v_callB1, v_callB, v_andT1, v_andT, v_orT1, v_orT, v_notT1, v_notT, v_and2, v_and1, v_and, v_or2, v_or1, v_or, v_not2, v_not1, v_not, v_if1, v_if, v_orL1, v_orL, v_seq1, v_seq, v_ifS1, v_ifS, v_ret2, v_ret1, v_ret, v_drop1, v_drop, v_asg3, v_asg2, v_asg1, v_asg, v_gset1, v_gset, v_gsub5, v_gsub4, v_gsub3, v_gsub2, v_gsub1, v_gsub, v_gsc1, v_gsc, v_gsn1, v_gsn, v_for1, v_for, v_forc2, v_forc1, v_forc, v_lcc2, v_lcc1, v_lcc, v_lcT3, v_lcT2, v_lcT1, v_lcT, v_lc4, v_lc1, v_lc, v_def4, v_def3, v_def2, v_def1, v_def, v_callV4, v_callV3, v_callV2, v_callV1, v_callV, v_callP4, v_callP3, v_callP2, v_callP1, v_callP, v_callKV5, v_callKV4, v_callKV3, v_callKV2, v_callKV1, v_callKV, v_callKP5, v_callKP4, v_callKP3, v_callKP2, v_callKP1, v_callKP, v_callIO5, v_callIO4, v_callIO3, v_callIO2, v_callIO1, v_callIO, v_app7, v_app6, v_app5, v_app4, v_app3, v_app2, v_app1, v_app, v_sl6, v_sl5, v_sl4, v_sl3, v_sl2, v_sl1, v_sl, v_oS2, v_oS1, v_oS, v_iseq3, v_iseq2, v_iseq1, v_iseq, v_ienum3, v_ienum2, v_ienum1, v_ienum, v_irg1, v_irg, v_rgTup3, v_rgTup2, v_rgTup1, v_rgTup, v_argsc2, v_argsc1, v_argsc, v_putc1, v_putc, v_takesc2, v_takesc1, v_takesc, v_contsc2, v_contsc1, v_contsc, v_backsI2, v_backsI1, v_backsI, v_binF7, v_binF6, v_binF5, v_binF4, v_binF3, v_binF2, v_binF1, v_binF, v_par22, v_par21, v_par2, v_par32, v_par31, v_par3, v_ext8, v_ext7, v_ext6, v_ext5, v_ext4, v_ext3, v_ext2, v_ext1, v_ext, v_zip2, v_zip1, v_zip, v_irgB3, v_irgB2, v_irgB1, v_irgB, v_rgLst3, v_rgLst2, v_rgLst1, v_rgLst, v_rgTupB5, v_rgTupB4, v_rgTupB3, v_rgTupB2, v_rgTupB1, v_rgTupB, v_rgLstB5, v_rgLstB4, v_rgLstB3, v_rgLstB2, v_rgLstB1, v_rgLstB, v_ok, v_c, v_nil, v_next, v_yes, v_oN, v_gtup, v_var, v_for0, v_lc0, v_args0, v_put0, v_takes0, v_conts0, v_backs0, w_add, w_sub, w_neg, w_lt, w_le, w_gt, w_ge, w_intI, w_intB, w_ix0, w_ix1, w_ix2, w_i0, w_i1, w_i2, pend, cont, take, frz, frzs, getP, setP, Res.of, boolOf, isPl, mutS, mutP, intOf, move, retOf, backs1, put1, fzT, ioOf, chk, early, shut, isTmp, flatB, scal, List.map_cons, List.map_nil, List.cons_append, List.nil_append, List.append_nil, List.replicate_succ, List.replicate_zero, List.replicate, List.length_cons, List.length_nil, List.getElem?_cons_zero, List.getElem?_cons_succ, List.set_cons_zero, List.set_cons_succ, List.all_cons, List.all_nil, List.contains_cons, List.contains_nil, List.elem_cons, List.elem_nil, List.isEmpty_nil, List.isEmpty_cons, Nat.reduceAdd, Nat.reduceSub, Nat.reduceBEq, Nat.reduceLT, Nat.reduceLeDiff, Nat.reduceEqDiff, decide_true, decide_false, Bool.and_true, Bool.true_and, Bool.or_true, Bool.true_or, Bool.or_false, Bool.false_or, Bool.and_false, Bool.false_and, Bool.not_true, Bool.not_false, Bool.false_eq_true, reduceIte, ite_true, ite_false, beq_self_eq_true, Nat.zero_add, reduceCtorEq, and_self, true_and, and_true, ge_iff_le, gt_iff_lt, Nat.succ_eq_add_one, Nat.add_one_sub_one, Nat.zero_lt_succ, Nat.lt_add_left_iff_pos, wipeE, restE, pick, List.filterMap_cons, List.filterMap_nil, u_irg, u_irgB, Int.reduceLE, Int.reduceLT, Int.reduceNeg, u_unT, u_unL, u_unW, u_max, u_min, u_abs, u_tup, u_lst, u_lc, u_app0, u_app, u_ext0, u_ext, u_par2, u_par3, u_zip, u_aug0, u_aug, u_aug2, u_ch, u_ch1, u_ch2, u_ch3, e_int, ne_int, e_bl, ne_bl, q_aa, q_af, q_ac, q_fa, q_ff, q_fc, q_ca, q_cf, q_cc, is_non, is_int, isn_non, isn_int, ix_t0, ix_t1, ix_t2, ix_l0, ix_l1, x_asc, x_kco, x_ite, decide_eq_true_eq, Bool.not_eq_true', decide_eq_false_iff_not, u_srT, u_srL, u_srW, isT, seqV, tupV, lstV, u_join, Option.getD, i_lt_i], rfl⟩
  | n + 1, .str s, _ => ⟨.fz (.str s), by simp only [F_law_lists, m_law_lists, v_bin6, v_bin5, v_bin4, v_bin3, v_bin2, v_bin1, v_bin, v_un3, v_un2, v_un1, v_un, v_test2, v_test1, v_test, v_cons3, v_cons2, v_cons1, v_cons, v_star4, v_star3, v_star2, v_star1, v_star, v_tup2, v_tup1, v_tup, v_lst2, v_lst1, v_lst, v_callB3, v_callB2, v_callB1, v_callB, v_andT1, v_andT, v_orT1, v_orT, v_notT1, v_notT, v_and2, v_and1, v_and, v_or2, v_or1, v_or, v_not2, v_not1, v_not, v_if1, v_if, v_orL1, v_orL, v_seq1, v_seq, v_ifS1, v_ifS, v_ret2, v_ret1, v_ret, v_drop1, v_drop, v_asg3, v_asg2, v_asg1, v_asg, v_gset1, v_gset, v_gsub5, v_gsub4, v_gsub3, v_gsub2, v_gsub1, v_gsub, v_gsc1, v_gsc, v_gsn1, v_gsn, v_for1, v_for, v_forc2, v_forc1, v_forc, v_lcc2, v_lcc1, v_lcc, v_lcT3, v_lcT2, v_lcT1, v_lcT, v_lc4, v_lc1, v_lc, v_def4, v_def3, v_def2, v_def1, v_def, v_callV4, v_callV3, v_callV2, v_callV1, v_callV, v_callP4, v_callP3, v_callP2, v_callP1, v_callP, v_callKV5, v_callKV4, v_callKV3, v_callKV2, v_callKV1, v_callKV, v_callKP5, v_callKP4, v_callKP3, v_callKP2, v_callKP1, v_callKP, v_callIO5, v_callIO4, v_callIO3, v_callIO2, v_callIO1, v_callIO, v_app7, v_app6, v_app5, v_app4, v_app3, v_app2, v_app1, v_app, v_sl6, v_sl5, v_sl4, v_sl3, v_sl2, v_sl1, v_sl, v_oS2, v_oS1, v_oS, v_iseq3, v_iseq2, v_iseq1, v_iseq, v_ienum3, v_ienum2, v_ienum1, v_ienum, v_irg1, v_irg, v_rgTup3, v_rgTup2, v_rgTup1, v_rgTup, v_argsc2, v_argsc1, v_argsc, v_putc1, v_putc, v_takesc2, v_takesc1, v_takesc, v_contsc2, v_contsc1, v_contsc, v_backsI2, v_backsI1, v_backsI, v_binF7, v_binF6, v_binF5, v_binF4, v_binF3, v_binF2, v_binF1, v_binF, v_par22, v_par21, v_par2, v_par32, v_par31, v_par3, v_ext8, v_ext7, v_ext6, v_ext5, v_ext4, v_ext3, v_ext2, v_ext1, v_ext, v_zip2, v_zip1, v_zip, v_irgB3, v_irgB2, v_irgB1, v_irgB, v_rgLst3, v_rgLst2, v_rgLst1, v_rgLst, v_rgTupB5, v_rgTupB4, v_rgTupB3, v_rgTupB2, v_rgTupB1, v_rgTupB, v_rgLstB5, v_rgLstB4, v_rgLstB3, v_rgLstB2, v_rgLstB1, v_rgLstB, v_ok, v_c, v_nil, v_next, v_yes, v_oN, v_gtup, v_var, v_for0, v_lc0, v_args0, v_put0, v_takes0, v_conts0, v_backs0, w_add, w_sub, w_neg, w_lt, w_le, w_gt, w_ge, w_intI, w_intB, w_ix0, w_ix1, w_ix2, w_i0, w_i1, w_i2, pend, cont, take, frz, frzs, getP, setP, Res.of, boolOf, isPl, mutS, mutP, intOf, move, retOf, backs1, put1, fzT, ioOf, chk, early, shut, isTmp, flatB, scal, List.map_cons, List.map_nil, List.cons_append, List.nil_append, List.append_nil, List.replicate_succ, List.replicate_zero, List.replicate, List.length_cons, List.length_nil, List.getElem?_cons_zero, List.getElem?_cons_succ, List.set_cons_zero, List.set_cons_succ, List.all_cons, List.all_nil, List.contains_cons, List.contains_nil, List.elem_cons, List.elem_nil, List.isEmpty_nil, List.isEmpty_cons, Nat.reduceAdd, Nat.reduceSub, Nat.reduceBEq, Nat.reduceLT, Nat.reduceLeDiff, Nat.reduceEqDiff, decide_true, decide_false, Bool.and_true, Bool.true_and, Bool.or_true, Bool.true_or, Bool.or_false, Bool.false_or, Bool.and_false, Bool.false_and, Bool.not_true, Bool.not_false, Bool.false_eq_true, reduceIte, ite_true, ite_false, beq_self_eq_true, Nat.zero_add, reduceCtorEq, and_self, true_and, and_true, ge_iff_le, gt_iff_lt, Nat.succ_eq_add_one, Nat.add_one_sub_one, Nat.zero_lt_succ, Nat.lt_add_left_iff_pos, wipeE, restE, pick, List.filterMap_cons, List.filterMap_nil, u_irg, u_irgB, Int.reduceLE, Int.reduceLT, Int.reduceNeg, u_unT, u_unL, u_unW, u_max, u_min, u_abs, u_tup, u_lst, u_lc, u_app0, u_app, u_ext0, u_ext, u_par2, u_par3, u_zip, u_aug0, u_aug, u_aug2, u_ch, u_ch1, u_ch2, u_ch3, e_int, ne_int, e_bl, ne_bl, q_aa, q_af, q_ac, q_fa, q_ff, q_fc, q_ca, q_cf, q_cc, is_non, is_int, isn_non, isn_int, ix_t0, ix_t1, ix_t2, ix_l0, ix_l1, x_asc, x_kco, x_ite, decide_eq_true_eq, Bool.not_eq_true', decide_eq_false_iff_not, u_srT, u_srL, u_srW, isT, seqV, tupV, lstV, u_join, Option.getD, i_lt_s], rfl⟩
  | n + 1, .scr _, h => h.elim
  | n + 1, .obj _ _, h => h.elim
theorem lists_seq {n : Nat} {ds : List D} (h : pln (n + 1) (.tup ds)) : ∃ ws, F_law_lists (n + 1) [.fz (.tup ds)] = .ok (.lst ws, [.fz (.tup ds)]) ∧ frzs ws = ds.map (softN n) := by
  obtain ⟨ws, e, e2⟩ := lists_lc (F := F_law_lists n) (x := some (.fz (.tup ds))) (g := softN n) ds fun d hd => lists_ok n d (h.2 d hd)
  have hl := h.1
  refine ⟨ws, ?_, e2⟩
  simp only [F_law_lists, m_law_lists, v_bin6, v_bin5, v_bin4, v_bin3, v_bin2, v_bin1, v_bin, v_un3, v_un2, v_un1, v_un, v_test2, v_test1, v_test, v_cons3, v_cons2, v_cons1, v_cons, v_star4, v_star3, v_star2, v_star1, v_star, v_tup2, v_tup1, v_tup, v_lst2, v_lst1, v_lst, v_callB3, v_callB2, v_callB1, v_callB, v_andT1, v_andT, v_orT1, v_orT, v_notT1, v_notT, v_and2, v_and1, v_and, v_or2, v_or1, v_or, v_not2, v_not1, v_not, v_if1, v_if, v_orL1, v_orL, v_seq1, v_seq, v_ifS1, v_ifS, v_ret2, v_ret1, v_ret, v_drop1, v_drop, v_asg3, v_asg2, v_asg1, v_asg, v_gset1, v_gset, v_gsub5, v_gsub4, v_gsub3, v_gsub2, v_gsub1, v_gsub, v_gsc1, v_gsc, v_gsn1, v_gsn, v_for1, v_for, v_forc2, v_forc1, v_forc, v_lcc2, v_lcc1, v_lcc, v_lcT3, v_lcT2, v_lcT1, v_lcT, v_lc4, v_lc1, v_lc, v_def4, v_def3, v_def2, v_def1, v_def, v_callV4, v_callV3, v_callV2, v_callV1, v_callV, v_callP4, v_callP3, v_callP2, v_callP1, v_callP, v_callKV5, v_callKV4, v_callKV3, v_callKV2, v_callKV1, v_callKV, v_callKP5, v_callKP4, v_callKP3, v_callKP2, v_callKP1, v_callKP, v_callIO5, v_callIO4, v_callIO3, v_callIO2, v_callIO1, v_callIO, v_app7, v_app6, v_app5, v_app4, v_app3, v_app2, v_app1, v_app, v_sl6, v_sl5, v_sl4, v_sl3, v_sl2, v_sl1, v_sl, v_oS2, v_oS1, v_oS, v_iseq3, v_iseq2, v_iseq1, v_iseq, v_ienum3, v_ienum2, v_ienum1, v_ienum, v_irg1, v_irg, v_rgTup3, v_rgTup2, v_rgTup1, v_rgTup, v_argsc2, v_argsc1, v_argsc, v_putc1, v_putc, v_takesc2, v_takesc1, v_takesc, v_contsc2, v_contsc1, v_contsc, v_backsI2, v_backsI1, v_backsI, v_binF7, v_binF6, v_binF5, v_binF4, v_binF3, v_binF2, v_binF1, v_binF, v_par22, v_par21, v_par2, v_par32, v_par31, v_par3, v_ext8, v_ext7, v_ext6, v_ext5, v_ext4, v_ext3, v_ext2, v_ext1, v_ext, v_zip2, v_zip1, v_zip, v_irgB3, v_irgB2, v_irgB1, v_irgB, v_rgLst3, v_rgLst2, v_rgLst1, v_rgLst, v_rgTupB5, v_rgTupB4, v_rgTupB3, v_rgTupB2, v_rgTupB1, v_rgTupB, v_rgLstB5, v_rgLstB4, v_rgLstB3, v_rgLstB2, v_rgLstB1, v_rgLstB, v_ok, v_c, v_nil, v_next, v_yes, v_oN, v_gtup, v_var, v_for0, v_lc0, v_args0, v_put0, v_takes0, v_conts0, v_backs0, w_add, w_sub, w_neg, w_lt, w_le, w_gt, w_ge, w_intI, w_intB, w_ix0, w_ix1, w_ix2, w_i0, w_i1, w_i2, pend, cont, take, frz, frzs, getP, setP, Res.of, boolOf, isPl, mutS, mutP, intOf, move, retOf, backs1, put1, fzT, ioOf, chk, early, shut, isTmp, flatB, scal, List.map_cons, List.map_nil, List.cons_append, List.nil_append, List.append_nil, List.replicate_succ, List.replicate_zero, List.replicate, List.length_cons, List.length_nil, List.getElem?_cons_zero, List.getElem?_cons_succ, List.set_cons_zero, List.set_cons_succ, List.all_cons, List.all_nil, List.contains_cons, List.contains_nil, List.elem_cons, List.elem_nil, List.isEmpty_nil, List.isEmpty_cons, Nat.reduceAdd, Nat.reduceSub, Nat.reduceBEq, Nat.reduceLT, Nat.reduceLeDiff, Nat.reduceEqDiff, decide_true, decide_false, Bool.and_true, Bool.true_and, Bool.or_true, Bool.true_or, Bool.or_false, Bool.false_or, Bool.and_false, Bool.false_and, Bool.not_true, Bool.not_false, Bool.false_eq_true, reduceIte, ite_true, ite_false, beq_self_eq_true, Nat.zero_add, reduceCtorEq, and_self, true_and, and_true, ge_iff_le, gt_iff_lt, Nat.succ_eq_add_one, Nat.add_one_sub_one, Nat.zero_lt_succ, Nat.lt_add_left_iff_pos, wipeE, restE, pick, List.filterMap_cons, List.filterMap_nil, u_irg, u_irgB, Int.reduceLE, Int.reduceLT, Int.reduceNeg, u_unT, u_unL, u_unW, u_max, u_min, u_abs, u_tup, u_lst, u_lc, u_app0, u_app, u_ext0, u_ext, u_par2, u_par3, u_zip, u_aug0, u_aug, u_aug2, u_ch, u_ch1, u_ch2, u_ch3, e_int, ne_int, e_bl, ne_bl, q_aa, q_af, q_ac, q_fa, q_ff, q_fc, q_ca, q_cf, q_cc, is_non, is_int, isn_non, isn_int, ix_t0, ix_t1, ix_t2, ix_l0, ix_l1, x_asc, x_kco, x_ite, decide_eq_true_eq, Bool.not_eq_true', decide_eq_false_iff_not, u_srT, u_srL, u_srW, isT, seqV, tupV, lstV, u_join, Option.getD, i_lt_t, hl, e]
end Gn
namespace Gn
open Mi PySem
inductive Wd where
  | add | flo | cap
deriving DecidableEq
def wd : Wd → Str
  | .add => "add" | .flo => "floor" | .cap => "cap"
def sq (k : Bool) (ds : List D) : D := match k with
  | true => .lst ds
  | false => .tup ds
def eE (k : Bool) (e : Wd × Int) : D := sq k [.str (wd e.1), .int e.2]
def eR (k : Bool) (r : List (Wd × Int)) : D := sq k (r.map (eE k))
def stp (l : Int) (e : Wd × Int) : Int := match e.1 with
  | .add => l + e.2
  | .flo => max l e.2
  | .cap => min l e.2
theorem ix_e0 {k : Bool} {e : Wd × Int} : fIdx (.fz (eE k e)) (.fz (.int 0)) = .ok (.fz (.str (wd e.1))) := by
  cases k
  · exact ix_t0
  · exact ix_l0
theorem ix_e1 {k : Bool} {e : Wd × Int} : fIdx (.fz (eE k e)) (.fz (.int 1)) = .ok (.fz (.int e.2)) := by
  cases k
  · exact ix_t1
  · exact ix_l1
theorem src_R {k : Bool} {r : List (Wd × Int)} : srcV (.fz (eR k r)) = some (r.map (eE k)) := by cases k <;> rfl
theorem q_wd {a b : Wd} : fEq (.fz (.str (wd a))) (.fz (.str (wd b))) = .ok (.fz (.bl (decide (a = b)))) := by
  cases a <;> cases b <;> simp only [wd, q_aa, q_af, q_ac, q_fa, q_ff, q_fc, q_ca, q_cf, q_cc] <;> rfl
theorem q_wa {a : Wd} : fEq (.fz (.str (wd a))) (.fz (.str "add")) = .ok (.fz (.bl (decide (a = .add)))) := q_wd (b := .add)
theorem q_wf {a : Wd} : fEq (.fz (.str (wd a))) (.fz (.str "floor")) = .ok (.fz (.bl (decide (a = .flo)))) := q_wd (b := .flo)
theorem ok_wd {w : Wd} : PyData.strOk (wd w) = true := by cases w <;> kernel_rfl
theorem pln_e {k : Bool} {e : Wd × Int} : pln 2 (eE k e) := by
  have h : ([D.str (wd e.1), D.int e.2] : List D).length ≤ 1000000 ∧ ∀ d ∈ [D.str (wd e.1), D.int e.2], pln 1 d := by
    refine ⟨by simp, fun d hd => ?_⟩
    simp only [List.mem_cons, List.mem_singleton, List.not_mem_nil, or_false] at hd
    rcases hd with rfl | rfl
    · exact ok_wd
    · trivial
  cases k <;> exact h
theorem pln_R {k : Bool} {r : List (Wd × Int)} (h : r.length ≤ 1000) : pln 3 (eR k r) := by
  have h : (r.map (eE k)).length ≤ 1000000 ∧ ∀ d ∈ r.map (eE k), pln 2 d := by
    refine ⟨by rw [List.length_map]; omega, fun d hd => ?_⟩
    obtain ⟨e, _, rfl⟩ := List.mem_map.mp hd
    exact pln_e
  cases k <;> exact h
theorem soft_e {n : Nat} {e : Wd × Int} : softN (n + 2) (eE false e) = eE true e := by
  simp only [eE, sq, softN, List.map_cons, List.map_nil]
theorem soft_ok {r : List (Wd × Int)} (h : r.length ≤ 1000) : ∃ ws, F_law_lists 40 [.fz (eR false r)] = .ok (.lst ws, [.fz (eR false r)]) ∧ frzs ws = r.map (eE true) := by
  obtain ⟨ws, h1, h2⟩ := lists_seq (n := 39) (ds := r.map (eE false)) (pln_le (pln_R (k := false) h) (by decide))
  refine ⟨ws, h1, ?_⟩
  rw [h2, List.map_map]
  apply List.map_congr_left
  intro e _
  exact soft_e (n := 37)
end Gn
namespace Gn
open Mi PySem
theorem run1' {n : Nat} {c : CS} {x : D} {w : W} {ρ : En} {y : Option W} (h : c (some (.fz x) :: List.replicate n none) = .ok (.ret w, y :: ρ)) : runDef 1 (n + 1) (ioOf []) c [.fz x] = .ok (w, [.fz x]) := by
  have h2 : c ([.fz x].map some ++ List.replicate (n + 1 - 1) none) = .ok (.ret w, y :: ρ) := h
  rw [v_def, show chk (([W.fz x] : List W).length == 1) = .ok () from rfl, v_ok, v_def1, h2, v_ok, v_def2]
  rfl
theorem seqN {A B : CS} {ρ ρ1 : En} {r : Res (Fl × En)} (h : A ρ = .ok (.nx, ρ1)) (h2 : B ρ1 = r) : cSeq A B ρ = r := by
  simp only [v_bin6, v_bin5, v_bin4, v_bin3, v_bin2, v_bin1, v_bin, v_un3, v_un2, v_un1, v_un, v_test2, v_test1, v_test, v_cons3, v_cons2, v_cons1, v_cons, v_star4, v_star3, v_star2, v_star1, v_star, v_tup2, v_tup1, v_tup, v_lst2, v_lst1, v_lst, v_callB3, v_callB2, v_callB1, v_callB, v_andT1, v_andT, v_orT1, v_orT, v_notT1, v_notT, v_and2, v_and1, v_and, v_or2, v_or1, v_or, v_not2, v_not1, v_not, v_if1, v_if, v_orL1, v_orL, v_seq1, v_seq, v_ifS1, v_ifS, v_ret2, v_ret1, v_ret, v_drop1, v_drop, v_asg3, v_asg2, v_asg1, v_asg, v_gset1, v_gset, v_gsub5, v_gsub4, v_gsub3, v_gsub2, v_gsub1, v_gsub, v_gsc1, v_gsc, v_gsn1, v_gsn, v_for1, v_for, v_forc2, v_forc1, v_forc, v_lcc2, v_lcc1, v_lcc, v_lcT3, v_lcT2, v_lcT1, v_lcT, v_lc4, v_lc1, v_lc, v_def4, v_def3, v_def2, v_def1, v_def, v_callV4, v_callV3, v_callV2, v_callV1, v_callV, v_callP4, v_callP3, v_callP2, v_callP1, v_callP, v_callKV5, v_callKV4, v_callKV3, v_callKV2, v_callKV1, v_callKV, v_callKP5, v_callKP4, v_callKP3, v_callKP2, v_callKP1, v_callKP, v_callIO5, v_callIO4, v_callIO3, v_callIO2, v_callIO1, v_callIO, v_app7, v_app6, v_app5, v_app4, v_app3, v_app2, v_app1, v_app, v_sl6, v_sl5, v_sl4, v_sl3, v_sl2, v_sl1, v_sl, v_oS2, v_oS1, v_oS, v_iseq3, v_iseq2, v_iseq1, v_iseq, v_ienum3, v_ienum2, v_ienum1, v_ienum, v_irg1, v_irg, v_rgTup3, v_rgTup2, v_rgTup1, v_rgTup, v_argsc2, v_argsc1, v_argsc, v_putc1, v_putc, v_takesc2, v_takesc1, v_takesc, v_contsc2, v_contsc1, v_contsc, v_backsI2, v_backsI1, v_backsI, v_binF7, v_binF6, v_binF5, v_binF4, v_binF3, v_binF2, v_binF1, v_binF, v_par22, v_par21, v_par2, v_par32, v_par31, v_par3, v_ext8, v_ext7, v_ext6, v_ext5, v_ext4, v_ext3, v_ext2, v_ext1, v_ext, v_zip2, v_zip1, v_zip, v_irgB3, v_irgB2, v_irgB1, v_irgB, v_rgLst3, v_rgLst2, v_rgLst1, v_rgLst, v_rgTupB5, v_rgTupB4, v_rgTupB3, v_rgTupB2, v_rgTupB1, v_rgTupB, v_rgLstB5, v_rgLstB4, v_rgLstB3, v_rgLstB2, v_rgLstB1, v_rgLstB, v_ok, v_c, v_nil, v_next, v_yes, v_oN, v_gtup, v_var, v_for0, v_lc0, v_args0, v_put0, v_takes0, v_conts0, v_backs0, w_add, w_sub, w_neg, w_lt, w_le, w_gt, w_ge, w_intI, w_intB, w_ix0, w_ix1, w_ix2, w_i0, w_i1, w_i2, pend, cont, take, frz, frzs, getP, setP, Res.of, boolOf, isPl, mutS, mutP, intOf, move, retOf, backs1, put1, fzT, ioOf, chk, early, shut, isTmp, flatB, scal, List.map_cons, List.map_nil, List.cons_append, List.nil_append, List.append_nil, List.replicate_succ, List.replicate_zero, List.replicate, List.length_cons, List.length_nil, List.getElem?_cons_zero, List.getElem?_cons_succ, List.set_cons_zero, List.set_cons_succ, List.all_cons, List.all_nil, List.contains_cons, List.contains_nil, List.elem_cons, List.elem_nil, List.isEmpty_nil, List.isEmpty_cons, Nat.reduceAdd, Nat.reduceSub, Nat.reduceBEq, Nat.reduceLT, Nat.reduceLeDiff, Nat.reduceEqDiff, decide_true, decide_false, Bool.and_true, Bool.true_and, Bool.or_true, Bool.true_or, Bool.or_false, Bool.false_or, Bool.and_false, Bool.false_and, Bool.not_true, Bool.not_false, Bool.false_eq_true, reduceIte, ite_true, ite_false, beq_self_eq_true, Nat.zero_add, reduceCtorEq, and_self, true_and, and_true, ge_iff_le, gt_iff_lt, Nat.succ_eq_add_one, Nat.add_one_sub_one, Nat.zero_lt_succ, Nat.lt_add_left_iff_pos, wipeE, restE, pick, List.filterMap_cons, List.filterMap_nil, u_irg, u_irgB, Int.reduceLE, Int.reduceLT, Int.reduceNeg, u_unT, u_unL, u_unW, u_max, u_min, u_abs, u_tup, u_lst, u_lc, u_app0, u_app, u_ext0, u_ext, u_par2, u_par3, u_zip, u_aug0, u_aug, u_aug2, u_ch, u_ch1, u_ch2, u_ch3, e_int, ne_int, e_bl, ne_bl, q_aa, q_af, q_ac, q_fa, q_ff, q_fc, q_ca, q_cf, q_cc, is_non, is_int, isn_non, isn_int, ix_t0, ix_t1, ix_t2, ix_l0, ix_l1, x_asc, x_kco, x_ite, decide_eq_true_eq, Bool.not_eq_true', decide_eq_false_iff_not, u_srT, u_srL, u_srW, isT, seqV, tupV, lstV, u_join, Option.getD, h, h2]
theorem seqR {A B : CS} {ρ ρ1 : En} {w : W} (h : A ρ = .ok (.ret w, ρ1)) : cSeq A B ρ = .ok (.ret w, ρ1) := by
  simp only [v_bin6, v_bin5, v_bin4, v_bin3, v_bin2, v_bin1, v_bin, v_un3, v_un2, v_un1, v_un, v_test2, v_test1, v_test, v_cons3, v_cons2, v_cons1, v_cons, v_star4, v_star3, v_star2, v_star1, v_star, v_tup2, v_tup1, v_tup, v_lst2, v_lst1, v_lst, v_callB3, v_callB2, v_callB1, v_callB, v_andT1, v_andT, v_orT1, v_orT, v_notT1, v_notT, v_and2, v_and1, v_and, v_or2, v_or1, v_or, v_not2, v_not1, v_not, v_if1, v_if, v_orL1, v_orL, v_seq1, v_seq, v_ifS1, v_ifS, v_ret2, v_ret1, v_ret, v_drop1, v_drop, v_asg3, v_asg2, v_asg1, v_asg, v_gset1, v_gset, v_gsub5, v_gsub4, v_gsub3, v_gsub2, v_gsub1, v_gsub, v_gsc1, v_gsc, v_gsn1, v_gsn, v_for1, v_for, v_forc2, v_forc1, v_forc, v_lcc2, v_lcc1, v_lcc, v_lcT3, v_lcT2, v_lcT1, v_lcT, v_lc4, v_lc1, v_lc, v_def4, v_def3, v_def2, v_def1, v_def, v_callV4, v_callV3, v_callV2, v_callV1, v_callV, v_callP4, v_callP3, v_callP2, v_callP1, v_callP, v_callKV5, v_callKV4, v_callKV3, v_callKV2, v_callKV1, v_callKV, v_callKP5, v_callKP4, v_callKP3, v_callKP2, v_callKP1, v_callKP, v_callIO5, v_callIO4, v_callIO3, v_callIO2, v_callIO1, v_callIO, v_app7, v_app6, v_app5, v_app4, v_app3, v_app2, v_app1, v_app, v_sl6, v_sl5, v_sl4, v_sl3, v_sl2, v_sl1, v_sl, v_oS2, v_oS1, v_oS, v_iseq3, v_iseq2, v_iseq1, v_iseq, v_ienum3, v_ienum2, v_ienum1, v_ienum, v_irg1, v_irg, v_rgTup3, v_rgTup2, v_rgTup1, v_rgTup, v_argsc2, v_argsc1, v_argsc, v_putc1, v_putc, v_takesc2, v_takesc1, v_takesc, v_contsc2, v_contsc1, v_contsc, v_backsI2, v_backsI1, v_backsI, v_binF7, v_binF6, v_binF5, v_binF4, v_binF3, v_binF2, v_binF1, v_binF, v_par22, v_par21, v_par2, v_par32, v_par31, v_par3, v_ext8, v_ext7, v_ext6, v_ext5, v_ext4, v_ext3, v_ext2, v_ext1, v_ext, v_zip2, v_zip1, v_zip, v_irgB3, v_irgB2, v_irgB1, v_irgB, v_rgLst3, v_rgLst2, v_rgLst1, v_rgLst, v_rgTupB5, v_rgTupB4, v_rgTupB3, v_rgTupB2, v_rgTupB1, v_rgTupB, v_rgLstB5, v_rgLstB4, v_rgLstB3, v_rgLstB2, v_rgLstB1, v_rgLstB, v_ok, v_c, v_nil, v_next, v_yes, v_oN, v_gtup, v_var, v_for0, v_lc0, v_args0, v_put0, v_takes0, v_conts0, v_backs0, w_add, w_sub, w_neg, w_lt, w_le, w_gt, w_ge, w_intI, w_intB, w_ix0, w_ix1, w_ix2, w_i0, w_i1, w_i2, pend, cont, take, frz, frzs, getP, setP, Res.of, boolOf, isPl, mutS, mutP, intOf, move, retOf, backs1, put1, fzT, ioOf, chk, early, shut, isTmp, flatB, scal, List.map_cons, List.map_nil, List.cons_append, List.nil_append, List.append_nil, List.replicate_succ, List.replicate_zero, List.replicate, List.length_cons, List.length_nil, List.getElem?_cons_zero, List.getElem?_cons_succ, List.set_cons_zero, List.set_cons_succ, List.all_cons, List.all_nil, List.contains_cons, List.contains_nil, List.elem_cons, List.elem_nil, List.isEmpty_nil, List.isEmpty_cons, Nat.reduceAdd, Nat.reduceSub, Nat.reduceBEq, Nat.reduceLT, Nat.reduceLeDiff, Nat.reduceEqDiff, decide_true, decide_false, Bool.and_true, Bool.true_and, Bool.or_true, Bool.true_or, Bool.or_false, Bool.false_or, Bool.and_false, Bool.false_and, Bool.not_true, Bool.not_false, Bool.false_eq_true, reduceIte, ite_true, ite_false, beq_self_eq_true, Nat.zero_add, reduceCtorEq, and_self, true_and, and_true, ge_iff_le, gt_iff_lt, Nat.succ_eq_add_one, Nat.add_one_sub_one, Nat.zero_lt_succ, Nat.lt_add_left_iff_pos, wipeE, restE, pick, List.filterMap_cons, List.filterMap_nil, u_irg, u_irgB, Int.reduceLE, Int.reduceLT, Int.reduceNeg, u_unT, u_unL, u_unW, u_max, u_min, u_abs, u_tup, u_lst, u_lc, u_app0, u_app, u_ext0, u_ext, u_par2, u_par3, u_zip, u_aug0, u_aug, u_aug2, u_ch, u_ch1, u_ch2, u_ch3, e_int, ne_int, e_bl, ne_bl, q_aa, q_af, q_ac, q_fa, q_ff, q_fc, q_ca, q_cf, q_cc, is_non, is_int, isn_non, isn_int, ix_t0, ix_t1, ix_t2, ix_l0, ix_l1, x_asc, x_kco, x_ite, decide_eq_true_eq, Bool.not_eq_true', decide_eq_false_iff_not, u_srT, u_srL, u_srW, isT, seqV, tupV, lstV, u_join, Option.getD, h]
theorem lc_gen {α : Type} {vs : List Nat} {g : CG} {ct : CT} {ce : CE} {ρ : En} {f : α → D} {P : α → Bool} {w : α → W} : ∀ l : List α, (∀ a ∈ l, ∃ ρa, g (.fz (f a)) ρ = .ok ρa ∧ wipeE ρa vs = ρ ∧ ct ρa = .ok (P a, ρa) ∧ (P a = true → ce ρa = .ok (.tmp (w a), ρa))) → lcL vs g ct ce (l.map f) ρ = .ok ((l.filter P).map w, ρ)
  | [], _ => rfl
  | a :: l, h => by
    have ih := lc_gen (P := P) (w := w) l fun b hb => h b (by simp [hb])
    obtain ⟨ρa, h1, h2, h3, h4⟩ := h a (by simp)
    rw [List.map_cons, v_lcc, h1, v_ok, v_lcc1, h3, v_ok, v_lcc2]
    cases hp : P a with
    | true =>
      rw [if_pos rfl, v_lcT, h4 hp, v_ok, v_lcT1, show take (.tmp (w a)) ρa = .ok (w a, ρa) from rfl, v_ok, v_lcT2, h2, ih, v_ok, v_lcT3, List.filter_cons, if_pos hp]
      rfl
    | false =>
      rw [if_neg (by decide), h2, ih, List.filter_cons, if_neg (by rw [hp]; decide)]
theorem lc_gen2 {α : Type} {vs : List Nat} {g : CG} {ce : CE} {ρ : En} {f : α → D} {w : α → W} (l : List α) (h : ∀ a ∈ l, ∃ ρa, g (.fz (f a)) ρ = .ok ρa ∧ wipeE ρa vs = ρ ∧ ce ρa = .ok (.tmp (w a), ρa)) : lcL vs g cYes ce (l.map f) ρ = .ok (l.map w, ρ) := by
  have := lc_gen (vs := vs) (g := g) (ct := cYes) (ce := ce) (ρ := ρ) (f := f) (P := fun _ => true) (w := w) l fun a ha => by
    obtain ⟨ρa, h1, h2, h3⟩ := h a ha
    exact ⟨ρa, h1, h2, rfl, fun _ => h3⟩
  rw [List.filter_eq_self.mpr fun _ _ => rfl] at this
  exact this
theorem for_nx {g : CG} {L : CS} {d : D} {ds : List D} {ρ ρ1 ρ2 : En} {r : Res (Fl × En)} (h1 : g (.fz d) ρ = .ok ρ1) (h2 : L ρ1 = .ok (.nx, ρ2)) (h3 : forL g L ds ρ2 = r) : forL g L (d :: ds) ρ = r := by
  simp only [v_bin6, v_bin5, v_bin4, v_bin3, v_bin2, v_bin1, v_bin, v_un3, v_un2, v_un1, v_un, v_test2, v_test1, v_test, v_cons3, v_cons2, v_cons1, v_cons, v_star4, v_star3, v_star2, v_star1, v_star, v_tup2, v_tup1, v_tup, v_lst2, v_lst1, v_lst, v_callB3, v_callB2, v_callB1, v_callB, v_andT1, v_andT, v_orT1, v_orT, v_notT1, v_notT, v_and2, v_and1, v_and, v_or2, v_or1, v_or, v_not2, v_not1, v_not, v_if1, v_if, v_orL1, v_orL, v_seq1, v_seq, v_ifS1, v_ifS, v_ret2, v_ret1, v_ret, v_drop1, v_drop, v_asg3, v_asg2, v_asg1, v_asg, v_gset1, v_gset, v_gsub5, v_gsub4, v_gsub3, v_gsub2, v_gsub1, v_gsub, v_gsc1, v_gsc, v_gsn1, v_gsn, v_for1, v_for, v_forc2, v_forc1, v_forc, v_lcc2, v_lcc1, v_lcc, v_lcT3, v_lcT2, v_lcT1, v_lcT, v_lc4, v_lc1, v_lc, v_def4, v_def3, v_def2, v_def1, v_def, v_callV4, v_callV3, v_callV2, v_callV1, v_callV, v_callP4, v_callP3, v_callP2, v_callP1, v_callP, v_callKV5, v_callKV4, v_callKV3, v_callKV2, v_callKV1, v_callKV, v_callKP5, v_callKP4, v_callKP3, v_callKP2, v_callKP1, v_callKP, v_callIO5, v_callIO4, v_callIO3, v_callIO2, v_callIO1, v_callIO, v_app7, v_app6, v_app5, v_app4, v_app3, v_app2, v_app1, v_app, v_sl6, v_sl5, v_sl4, v_sl3, v_sl2, v_sl1, v_sl, v_oS2, v_oS1, v_oS, v_iseq3, v_iseq2, v_iseq1, v_iseq, v_ienum3, v_ienum2, v_ienum1, v_ienum, v_irg1, v_irg, v_rgTup3, v_rgTup2, v_rgTup1, v_rgTup, v_argsc2, v_argsc1, v_argsc, v_putc1, v_putc, v_takesc2, v_takesc1, v_takesc, v_contsc2, v_contsc1, v_contsc, v_backsI2, v_backsI1, v_backsI, v_binF7, v_binF6, v_binF5, v_binF4, v_binF3, v_binF2, v_binF1, v_binF, v_par22, v_par21, v_par2, v_par32, v_par31, v_par3, v_ext8, v_ext7, v_ext6, v_ext5, v_ext4, v_ext3, v_ext2, v_ext1, v_ext, v_zip2, v_zip1, v_zip, v_irgB3, v_irgB2, v_irgB1, v_irgB, v_rgLst3, v_rgLst2, v_rgLst1, v_rgLst, v_rgTupB5, v_rgTupB4, v_rgTupB3, v_rgTupB2, v_rgTupB1, v_rgTupB, v_rgLstB5, v_rgLstB4, v_rgLstB3, v_rgLstB2, v_rgLstB1, v_rgLstB, v_ok, v_c, v_nil, v_next, v_yes, v_oN, v_gtup, v_var, v_for0, v_lc0, v_args0, v_put0, v_takes0, v_conts0, v_backs0, w_add, w_sub, w_neg, w_lt, w_le, w_gt, w_ge, w_intI, w_intB, w_ix0, w_ix1, w_ix2, w_i0, w_i1, w_i2, pend, cont, take, frz, frzs, getP, setP, Res.of, boolOf, isPl, mutS, mutP, intOf, move, retOf, backs1, put1, fzT, ioOf, chk, early, shut, isTmp, flatB, scal, List.map_cons, List.map_nil, List.cons_append, List.nil_append, List.append_nil, List.replicate_succ, List.replicate_zero, List.replicate, List.length_cons, List.length_nil, List.getElem?_cons_zero, List.getElem?_cons_succ, List.set_cons_zero, List.set_cons_succ, List.all_cons, List.all_nil, List.contains_cons, List.contains_nil, List.elem_cons, List.elem_nil, List.isEmpty_nil, List.isEmpty_cons, Nat.reduceAdd, Nat.reduceSub, Nat.reduceBEq, Nat.reduceLT, Nat.reduceLeDiff, Nat.reduceEqDiff, decide_true, decide_false, Bool.and_true, Bool.true_and, Bool.or_true, Bool.true_or, Bool.or_false, Bool.false_or, Bool.and_false, Bool.false_and, Bool.not_true, Bool.not_false, Bool.false_eq_true, reduceIte, ite_true, ite_false, beq_self_eq_true, Nat.zero_add, reduceCtorEq, and_self, true_and, and_true, ge_iff_le, gt_iff_lt, Nat.succ_eq_add_one, Nat.add_one_sub_one, Nat.zero_lt_succ, Nat.lt_add_left_iff_pos, wipeE, restE, pick, List.filterMap_cons, List.filterMap_nil, u_irg, u_irgB, Int.reduceLE, Int.reduceLT, Int.reduceNeg, u_unT, u_unL, u_unW, u_max, u_min, u_abs, u_tup, u_lst, u_lc, u_app0, u_app, u_ext0, u_ext, u_par2, u_par3, u_zip, u_aug0, u_aug, u_aug2, u_ch, u_ch1, u_ch2, u_ch3, e_int, ne_int, e_bl, ne_bl, q_aa, q_af, q_ac, q_fa, q_ff, q_fc, q_ca, q_cf, q_cc, is_non, is_int, isn_non, isn_int, ix_t0, ix_t1, ix_t2, ix_l0, ix_l1, x_asc, x_kco, x_ite, decide_eq_true_eq, Bool.not_eq_true', decide_eq_false_iff_not, u_srT, u_srL, u_srW, isT, seqV, tupV, lstV, u_join, Option.getD, h1, h2, h3]
theorem frz_map (l : List D) : frzs (l.map W.fz) = l := by
  have := frzs_fz (fun x : D => x) l
  rw [List.map_id'] at this
  exact this
end Gn
namespace Gn
open Mi PySem
def PL (k : Nat) : Nat → D → Prop
  | 0, _ => False
  | n + 1, .tup ds => ds.length ≤ k ∧ ∀ d ∈ ds, PL k n d
  | n + 1, .lst ds => ds.length ≤ k ∧ ∀ d ∈ ds, PL k n d
  | _ + 1, .non => True
  | _ + 1, .bl _ => True
  | _ + 1, .int _ => True
  | _ + 1, .str s => PyData.strOk s = true
  | _ + 1, _ => False
theorem PL.up {k l : Nat} (hk : k ≤ l) : ∀ {n : Nat} {d : D} (m : Nat), PL k n d → n ≤ m → PL l m d
  | 0, _, _, h, _ => h.elim
  | n + 1, d, 0, _, hm => absurd hm (by omega)
  | n + 1, .tup ds, m + 1, h, hm => ⟨Nat.le_trans h.1 hk, fun d hd => PL.up hk m (h.2 d hd) (by omega)⟩
  | n + 1, .lst ds, m + 1, h, hm => ⟨Nat.le_trans h.1 hk, fun d hd => PL.up hk m (h.2 d hd) (by omega)⟩
  | n + 1, .non, m + 1, _, _ => trivial
  | n + 1, .bl _, m + 1, _, _ => trivial
  | n + 1, .int _, m + 1, _, _ => trivial
  | n + 1, .str _, m + 1, h, _ => h
  | n + 1, .scr _, m + 1, h, _ => h.elim
  | n + 1, .obj _ _, m + 1, h, _ => h.elim
  | n + 1, .exc _ _, m + 1, h, _ => h.elim
  | n + 1, .dct _ _, m + 1, h, _ => h.elim
theorem PL.pln {k : Nat} (hk : k ≤ 1000000) : ∀ {n : Nat} {d : D}, PL k n d → pln n d
  | 0, _, h => h.elim
  | n + 1, .tup ds, h => ⟨Nat.le_trans h.1 hk, fun d hd => PL.pln hk (h.2 d hd)⟩
  | n + 1, .lst ds, h => ⟨Nat.le_trans h.1 hk, fun d hd => PL.pln hk (h.2 d hd)⟩
  | n + 1, .non, _ => trivial
  | n + 1, .bl _, _ => trivial
  | n + 1, .int _, _ => trivial
  | n + 1, .str _, h => h
  | n + 1, .scr _, h => h.elim
  | n + 1, .obj _ _, h => h.elim
  | n + 1, .exc _ _, h => h.elim
  | n + 1, .dct _ _, h => h.elim
def isTu : D → Bool
  | .tup _ => true
  | _ => false
def isSt : D → Bool
  | .str _ => true
  | _ => false
def isNu : D → Bool
  | .int _ => true
  | _ => false
section
variable {k n : Nat} {d : D}
theorem ty_tu (h : PL k n d) : fIsi ["tuple"] (.fz d) = .ok (.fz (.bl (isTu d))) := by
  cases n with
  | zero => exact h.elim
  | succ n => cases d <;> first | exact h.elim | kernel_rfl
theorem ty_st (h : PL k n d) : fIsi ["str"] (.fz d) = .ok (.fz (.bl (isSt d))) := by
  cases n with
  | zero => exact h.elim
  | succ n => cases d <;> first | exact h.elim | kernel_rfl
theorem ty_in (h : PL k n d) : fIsi ["int"] (.fz d) = .ok (.fz (.bl (match d with | .int _ => true | .bl _ => true | _ => false))) := by
  cases n with
  | zero => exact h.elim
  | succ n => cases d <;> first | exact h.elim | kernel_rfl
theorem ty_bo (h : PL k n d) : fIsi ["bool"] (.fz d) = .ok (.fz (.bl (match d with | .bl _ => true | _ => false))) := by
  cases n with
  | zero => exact h.elim
  | succ n => cases d <;> first | exact h.elim | kernel_rfl
theorem num_ok (h : PL k n d) : Fis_number [.fz d] = .ok (.fz (.bl (isNu d)), [.fz d]) := by
  have a := ty_in h
  have b := ty_bo h
  cases n with
  | zero => exact h.elim
  | succ n => cases d <;> first | exact h.elim | (simp only at a b; simp only [Fis_number, mis_number, v_bin6, v_bin5, v_bin4, v_bin3, v_bin2, v_bin1, v_bin, v_un3, v_un2, v_un1, v_un, v_test2, v_test1, v_test, v_cons3, v_cons2, v_cons1, v_cons, v_star4, v_star3, v_star2, v_star1, v_star, v_tup2, v_tup1, v_tup, v_lst2, v_lst1, v_lst, v_callB3, v_callB2, v_callB1, v_callB, v_andT1, v_andT, v_orT1, v_orT, v_notT1, v_notT, v_and2, v_and1, v_and, v_or2, v_or1, v_or, v_not2, v_not1, v_not, v_if1, v_if, v_orL1, v_orL, v_seq1, v_seq, v_ifS1, v_ifS, v_ret2, v_ret1, v_ret, v_drop1, v_drop, v_asg3, v_asg2, v_asg1, v_asg, v_gset1, v_gset, v_gsub5, v_gsub4, v_gsub3, v_gsub2, v_gsub1, v_gsub, v_gsc1, v_gsc, v_gsn1, v_gsn, v_for1, v_for, v_forc2, v_forc1, v_forc, v_lcc2, v_lcc1, v_lcc, v_lcT3, v_lcT2, v_lcT1, v_lcT, v_lc4, v_lc1, v_lc, v_def4, v_def3, v_def2, v_def1, v_def, v_callV4, v_callV3, v_callV2, v_callV1, v_callV, v_callP4, v_callP3, v_callP2, v_callP1, v_callP, v_callKV5, v_callKV4, v_callKV3, v_callKV2, v_callKV1, v_callKV, v_callKP5, v_callKP4, v_callKP3, v_callKP2, v_callKP1, v_callKP, v_callIO5, v_callIO4, v_callIO3, v_callIO2, v_callIO1, v_callIO, v_app7, v_app6, v_app5, v_app4, v_app3, v_app2, v_app1, v_app, v_sl6, v_sl5, v_sl4, v_sl3, v_sl2, v_sl1, v_sl, v_oS2, v_oS1, v_oS, v_iseq3, v_iseq2, v_iseq1, v_iseq, v_ienum3, v_ienum2, v_ienum1, v_ienum, v_irg1, v_irg, v_rgTup3, v_rgTup2, v_rgTup1, v_rgTup, v_argsc2, v_argsc1, v_argsc, v_putc1, v_putc, v_takesc2, v_takesc1, v_takesc, v_contsc2, v_contsc1, v_contsc, v_backsI2, v_backsI1, v_backsI, v_binF7, v_binF6, v_binF5, v_binF4, v_binF3, v_binF2, v_binF1, v_binF, v_par22, v_par21, v_par2, v_par32, v_par31, v_par3, v_ext8, v_ext7, v_ext6, v_ext5, v_ext4, v_ext3, v_ext2, v_ext1, v_ext, v_zip2, v_zip1, v_zip, v_irgB3, v_irgB2, v_irgB1, v_irgB, v_rgLst3, v_rgLst2, v_rgLst1, v_rgLst, v_rgTupB5, v_rgTupB4, v_rgTupB3, v_rgTupB2, v_rgTupB1, v_rgTupB, v_rgLstB5, v_rgLstB4, v_rgLstB3, v_rgLstB2, v_rgLstB1, v_rgLstB, v_ok, v_c, v_nil, v_next, v_yes, v_oN, v_gtup, v_var, v_for0, v_lc0, v_args0, v_put0, v_takes0, v_conts0, v_backs0, w_add, w_sub, w_neg, w_lt, w_le, w_gt, w_ge, w_intI, w_intB, w_ix0, w_ix1, w_ix2, w_i0, w_i1, w_i2, pend, cont, take, frz, frzs, getP, setP, Res.of, boolOf, isPl, mutS, mutP, intOf, move, retOf, backs1, put1, fzT, ioOf, chk, early, shut, isTmp, flatB, scal, List.map_cons, List.map_nil, List.cons_append, List.nil_append, List.append_nil, List.replicate_succ, List.replicate_zero, List.replicate, List.length_cons, List.length_nil, List.getElem?_cons_zero, List.getElem?_cons_succ, List.set_cons_zero, List.set_cons_succ, List.all_cons, List.all_nil, List.contains_cons, List.contains_nil, List.elem_cons, List.elem_nil, List.isEmpty_nil, List.isEmpty_cons, Nat.reduceAdd, Nat.reduceSub, Nat.reduceBEq, Nat.reduceLT, Nat.reduceLeDiff, Nat.reduceEqDiff, decide_true, decide_false, Bool.and_true, Bool.true_and, Bool.or_true, Bool.true_or, Bool.or_false, Bool.false_or, Bool.and_false, Bool.false_and, Bool.not_true, Bool.not_false, Bool.false_eq_true, reduceIte, ite_true, ite_false, beq_self_eq_true, Nat.zero_add, reduceCtorEq, and_self, true_and, and_true, ge_iff_le, gt_iff_lt, Nat.succ_eq_add_one, Nat.add_one_sub_one, Nat.zero_lt_succ, Nat.lt_add_left_iff_pos, wipeE, restE, pick, List.filterMap_cons, List.filterMap_nil, u_irg, u_irgB, Int.reduceLE, Int.reduceLT, Int.reduceNeg, u_unT, u_unL, u_unW, u_max, u_min, u_abs, u_tup, u_lst, u_lc, u_app0, u_app, u_ext0, u_ext, u_par2, u_par3, u_zip, u_aug0, u_aug, u_aug2, u_ch, u_ch1, u_ch2, u_ch3, e_int, ne_int, e_bl, ne_bl, q_aa, q_af, q_ac, q_fa, q_ff, q_fc, q_ca, q_cf, q_cc, is_non, is_int, isn_non, isn_int, ix_t0, ix_t1, ix_t2, ix_l0, ix_l1, x_asc, x_kco, x_ite, decide_eq_true_eq, Bool.not_eq_true', decide_eq_false_iff_not, u_srT, u_srL, u_srW, isT, seqV, tupV, lstV, u_join, Option.getD, a, b, isNu])
end
def wdB (s : Str) : Bool := s == "add" || (s == "floor" || s == "cap")
def isE : D → Bool
  | .tup [.str s, .int _] => wdB s
  | _ => false
def isV : D → Bool
  | .tup ds => ds.all isE
  | _ => false
theorem str_eq {s t : Str} (hs : PyData.strOk s = true) (ht : PyData.strOk t = true) : fEq (.fz (.str s)) (.fz (.str t)) = .ok (.fz (.bl (s == t))) := by
  have h1 : SeqAt.shaped (.str s) = true := shp (n := 1) (by simp only [PyData.canLay0]; exact hs) (by simp only [PyData.depth]; omega) (by decide)
  have h2 : SeqAt.shaped (.str t) = true := shp (n := 1) (by simp only [PyData.canLay0]; exact ht) (by simp only [PyData.depth]; omega) (by decide)
  show Res.bind (if (SeqAt.shaped (.str s) && SeqAt.shaped (.str t)) = true then Res.ok (PyData.eqv (.str s) (.str t)) else .err) _ = _
  rw [h1, h2]
  simp only [Bool.and_self, if_true, v_ok, PyData.eqv]
theorem in_w {s : Str} (hs : PyData.strOk s = true) : fInT false (.fz (.str s)) (.fz (.tup [.str "add", .str "floor", .str "cap"])) = .ok (.fz (.bl (wdB s))) := by
  have h1 : SeqAt.shaped (.str s) = true := shp (n := 1) (by simp only [PyData.canLay0]; exact hs) (by simp only [PyData.depth]; omega) (by decide)
  have h2 : SeqAt.shaped (.tuple [.str "add", .str "floor", .str "cap"]) = true := by kernel_rfl
  have hp : py (.tup [.str "add", .str "floor", .str "cap"]) = some (.tuple [.str "add", .str "floor", .str "cap"]) := rfl
  have hq : py (.str s) = some (.str s) := rfl
  have b : ∀ a : Str, (a == s) = (s == a) := fun a => by
    by_cases c : a = s
    · subst c; rfl
    · rw [beq_eq_false_iff_ne.mpr c, beq_eq_false_iff_ne.mpr (Ne.symm c)]
  unfold fInT
  simp only [frz, hp, hq, h1, h2, Bool.and_self, if_true, Bool.false_eq_true, if_false, List.any_cons, List.any_nil, PyData.eqv, Bool.or_false, b, wdB]
section
variable {T A B : D} {n : Int} {a b a1 a2 a3 : Bool}
theorem ev_1 (i : fIsi ["tuple"] (.fz T) = .ok (.fz (.bl false))) : Fis_event [.fz T] = .ok (.fz (.bl false), [.fz T]) := by
  simp only [Fis_event, mis_event, v_bin6, v_bin5, v_bin4, v_bin3, v_bin2, v_bin1, v_bin, v_un3, v_un2, v_un1, v_un, v_test2, v_test1, v_test, v_cons3, v_cons2, v_cons1, v_cons, v_star4, v_star3, v_star2, v_star1, v_star, v_tup2, v_tup1, v_tup, v_lst2, v_lst1, v_lst, v_callB3, v_callB2, v_callB1, v_callB, v_andT1, v_andT, v_orT1, v_orT, v_notT1, v_notT, v_and2, v_and1, v_and, v_or2, v_or1, v_or, v_not2, v_not1, v_not, v_if1, v_if, v_orL1, v_orL, v_seq1, v_seq, v_ifS1, v_ifS, v_ret2, v_ret1, v_ret, v_drop1, v_drop, v_asg3, v_asg2, v_asg1, v_asg, v_gset1, v_gset, v_gsub5, v_gsub4, v_gsub3, v_gsub2, v_gsub1, v_gsub, v_gsc1, v_gsc, v_gsn1, v_gsn, v_for1, v_for, v_forc2, v_forc1, v_forc, v_lcc2, v_lcc1, v_lcc, v_lcT3, v_lcT2, v_lcT1, v_lcT, v_lc4, v_lc1, v_lc, v_def4, v_def3, v_def2, v_def1, v_def, v_callV4, v_callV3, v_callV2, v_callV1, v_callV, v_callP4, v_callP3, v_callP2, v_callP1, v_callP, v_callKV5, v_callKV4, v_callKV3, v_callKV2, v_callKV1, v_callKV, v_callKP5, v_callKP4, v_callKP3, v_callKP2, v_callKP1, v_callKP, v_callIO5, v_callIO4, v_callIO3, v_callIO2, v_callIO1, v_callIO, v_app7, v_app6, v_app5, v_app4, v_app3, v_app2, v_app1, v_app, v_sl6, v_sl5, v_sl4, v_sl3, v_sl2, v_sl1, v_sl, v_oS2, v_oS1, v_oS, v_iseq3, v_iseq2, v_iseq1, v_iseq, v_ienum3, v_ienum2, v_ienum1, v_ienum, v_irg1, v_irg, v_rgTup3, v_rgTup2, v_rgTup1, v_rgTup, v_argsc2, v_argsc1, v_argsc, v_putc1, v_putc, v_takesc2, v_takesc1, v_takesc, v_contsc2, v_contsc1, v_contsc, v_backsI2, v_backsI1, v_backsI, v_binF7, v_binF6, v_binF5, v_binF4, v_binF3, v_binF2, v_binF1, v_binF, v_par22, v_par21, v_par2, v_par32, v_par31, v_par3, v_ext8, v_ext7, v_ext6, v_ext5, v_ext4, v_ext3, v_ext2, v_ext1, v_ext, v_zip2, v_zip1, v_zip, v_irgB3, v_irgB2, v_irgB1, v_irgB, v_rgLst3, v_rgLst2, v_rgLst1, v_rgLst, v_rgTupB5, v_rgTupB4, v_rgTupB3, v_rgTupB2, v_rgTupB1, v_rgTupB, v_rgLstB5, v_rgLstB4, v_rgLstB3, v_rgLstB2, v_rgLstB1, v_rgLstB, v_ok, v_c, v_nil, v_next, v_yes, v_oN, v_gtup, v_var, v_for0, v_lc0, v_args0, v_put0, v_takes0, v_conts0, v_backs0, w_add, w_sub, w_neg, w_lt, w_le, w_gt, w_ge, w_intI, w_intB, w_ix0, w_ix1, w_ix2, w_i0, w_i1, w_i2, pend, cont, take, frz, frzs, getP, setP, Res.of, boolOf, isPl, mutS, mutP, intOf, move, retOf, backs1, put1, fzT, ioOf, chk, early, shut, isTmp, flatB, scal, List.map_cons, List.map_nil, List.cons_append, List.nil_append, List.append_nil, List.replicate_succ, List.replicate_zero, List.replicate, List.length_cons, List.length_nil, List.getElem?_cons_zero, List.getElem?_cons_succ, List.set_cons_zero, List.set_cons_succ, List.all_cons, List.all_nil, List.contains_cons, List.contains_nil, List.elem_cons, List.elem_nil, List.isEmpty_nil, List.isEmpty_cons, Nat.reduceAdd, Nat.reduceSub, Nat.reduceBEq, Nat.reduceLT, Nat.reduceLeDiff, Nat.reduceEqDiff, decide_true, decide_false, Bool.and_true, Bool.true_and, Bool.or_true, Bool.true_or, Bool.or_false, Bool.false_or, Bool.and_false, Bool.false_and, Bool.not_true, Bool.not_false, Bool.false_eq_true, reduceIte, ite_true, ite_false, beq_self_eq_true, Nat.zero_add, reduceCtorEq, and_self, true_and, and_true, ge_iff_le, gt_iff_lt, Nat.succ_eq_add_one, Nat.add_one_sub_one, Nat.zero_lt_succ, Nat.lt_add_left_iff_pos, wipeE, restE, pick, List.filterMap_cons, List.filterMap_nil, u_irg, u_irgB, Int.reduceLE, Int.reduceLT, Int.reduceNeg, u_unT, u_unL, u_unW, u_max, u_min, u_abs, u_tup, u_lst, u_lc, u_app0, u_app, u_ext0, u_ext, u_par2, u_par3, u_zip, u_aug0, u_aug, u_aug2, u_ch, u_ch1, u_ch2, u_ch3, e_int, ne_int, e_bl, ne_bl, q_aa, q_af, q_ac, q_fa, q_ff, q_fc, q_ca, q_cf, q_cc, is_non, is_int, isn_non, isn_int, ix_t0, ix_t1, ix_t2, ix_l0, ix_l1, x_asc, x_kco, x_ite, decide_eq_true_eq, Bool.not_eq_true', decide_eq_false_iff_not, u_srT, u_srL, u_srW, isT, seqV, tupV, lstV, u_join, Option.getD, i]
theorem ev_2 (i : fIsi ["tuple"] (.fz T) = .ok (.fz (.bl true))) (l : fLen [.fz T] = .ok (.fz (.int n))) (hn : (n = 2) = False) : Fis_event [.fz T] = .ok (.fz (.bl false), [.fz T]) := by
  simp only [Fis_event, mis_event, v_bin6, v_bin5, v_bin4, v_bin3, v_bin2, v_bin1, v_bin, v_un3, v_un2, v_un1, v_un, v_test2, v_test1, v_test, v_cons3, v_cons2, v_cons1, v_cons, v_star4, v_star3, v_star2, v_star1, v_star, v_tup2, v_tup1, v_tup, v_lst2, v_lst1, v_lst, v_callB3, v_callB2, v_callB1, v_callB, v_andT1, v_andT, v_orT1, v_orT, v_notT1, v_notT, v_and2, v_and1, v_and, v_or2, v_or1, v_or, v_not2, v_not1, v_not, v_if1, v_if, v_orL1, v_orL, v_seq1, v_seq, v_ifS1, v_ifS, v_ret2, v_ret1, v_ret, v_drop1, v_drop, v_asg3, v_asg2, v_asg1, v_asg, v_gset1, v_gset, v_gsub5, v_gsub4, v_gsub3, v_gsub2, v_gsub1, v_gsub, v_gsc1, v_gsc, v_gsn1, v_gsn, v_for1, v_for, v_forc2, v_forc1, v_forc, v_lcc2, v_lcc1, v_lcc, v_lcT3, v_lcT2, v_lcT1, v_lcT, v_lc4, v_lc1, v_lc, v_def4, v_def3, v_def2, v_def1, v_def, v_callV4, v_callV3, v_callV2, v_callV1, v_callV, v_callP4, v_callP3, v_callP2, v_callP1, v_callP, v_callKV5, v_callKV4, v_callKV3, v_callKV2, v_callKV1, v_callKV, v_callKP5, v_callKP4, v_callKP3, v_callKP2, v_callKP1, v_callKP, v_callIO5, v_callIO4, v_callIO3, v_callIO2, v_callIO1, v_callIO, v_app7, v_app6, v_app5, v_app4, v_app3, v_app2, v_app1, v_app, v_sl6, v_sl5, v_sl4, v_sl3, v_sl2, v_sl1, v_sl, v_oS2, v_oS1, v_oS, v_iseq3, v_iseq2, v_iseq1, v_iseq, v_ienum3, v_ienum2, v_ienum1, v_ienum, v_irg1, v_irg, v_rgTup3, v_rgTup2, v_rgTup1, v_rgTup, v_argsc2, v_argsc1, v_argsc, v_putc1, v_putc, v_takesc2, v_takesc1, v_takesc, v_contsc2, v_contsc1, v_contsc, v_backsI2, v_backsI1, v_backsI, v_binF7, v_binF6, v_binF5, v_binF4, v_binF3, v_binF2, v_binF1, v_binF, v_par22, v_par21, v_par2, v_par32, v_par31, v_par3, v_ext8, v_ext7, v_ext6, v_ext5, v_ext4, v_ext3, v_ext2, v_ext1, v_ext, v_zip2, v_zip1, v_zip, v_irgB3, v_irgB2, v_irgB1, v_irgB, v_rgLst3, v_rgLst2, v_rgLst1, v_rgLst, v_rgTupB5, v_rgTupB4, v_rgTupB3, v_rgTupB2, v_rgTupB1, v_rgTupB, v_rgLstB5, v_rgLstB4, v_rgLstB3, v_rgLstB2, v_rgLstB1, v_rgLstB, v_ok, v_c, v_nil, v_next, v_yes, v_oN, v_gtup, v_var, v_for0, v_lc0, v_args0, v_put0, v_takes0, v_conts0, v_backs0, w_add, w_sub, w_neg, w_lt, w_le, w_gt, w_ge, w_intI, w_intB, w_ix0, w_ix1, w_ix2, w_i0, w_i1, w_i2, pend, cont, take, frz, frzs, getP, setP, Res.of, boolOf, isPl, mutS, mutP, intOf, move, retOf, backs1, put1, fzT, ioOf, chk, early, shut, isTmp, flatB, scal, List.map_cons, List.map_nil, List.cons_append, List.nil_append, List.append_nil, List.replicate_succ, List.replicate_zero, List.replicate, List.length_cons, List.length_nil, List.getElem?_cons_zero, List.getElem?_cons_succ, List.set_cons_zero, List.set_cons_succ, List.all_cons, List.all_nil, List.contains_cons, List.contains_nil, List.elem_cons, List.elem_nil, List.isEmpty_nil, List.isEmpty_cons, Nat.reduceAdd, Nat.reduceSub, Nat.reduceBEq, Nat.reduceLT, Nat.reduceLeDiff, Nat.reduceEqDiff, decide_true, decide_false, Bool.and_true, Bool.true_and, Bool.or_true, Bool.true_or, Bool.or_false, Bool.false_or, Bool.and_false, Bool.false_and, Bool.not_true, Bool.not_false, Bool.false_eq_true, reduceIte, ite_true, ite_false, beq_self_eq_true, Nat.zero_add, reduceCtorEq, and_self, true_and, and_true, ge_iff_le, gt_iff_lt, Nat.succ_eq_add_one, Nat.add_one_sub_one, Nat.zero_lt_succ, Nat.lt_add_left_iff_pos, wipeE, restE, pick, List.filterMap_cons, List.filterMap_nil, u_irg, u_irgB, Int.reduceLE, Int.reduceLT, Int.reduceNeg, u_unT, u_unL, u_unW, u_max, u_min, u_abs, u_tup, u_lst, u_lc, u_app0, u_app, u_ext0, u_ext, u_par2, u_par3, u_zip, u_aug0, u_aug, u_aug2, u_ch, u_ch1, u_ch2, u_ch3, e_int, ne_int, e_bl, ne_bl, q_aa, q_af, q_ac, q_fa, q_ff, q_fc, q_ca, q_cf, q_cc, is_non, is_int, isn_non, isn_int, ix_t0, ix_t1, ix_t2, ix_l0, ix_l1, x_asc, x_kco, x_ite, decide_eq_true_eq, Bool.not_eq_true', decide_eq_false_iff_not, u_srT, u_srL, u_srW, isT, seqV, tupV, lstV, u_join, Option.getD, i, l, hn]
theorem ev_3 (i : fIsi ["tuple"] (.fz T) = .ok (.fz (.bl true))) (l : fLen [.fz T] = .ok (.fz (.int 2))) (x : fIdx (.fz T) (.fz (.int 0)) = .ok (.fz A)) (s : fIsi ["str"] (.fz A) = .ok (.fz (.bl false))) : Fis_event [.fz T] = .ok (.fz (.bl false), [.fz T]) := by
  simp only [Fis_event, mis_event, v_bin6, v_bin5, v_bin4, v_bin3, v_bin2, v_bin1, v_bin, v_un3, v_un2, v_un1, v_un, v_test2, v_test1, v_test, v_cons3, v_cons2, v_cons1, v_cons, v_star4, v_star3, v_star2, v_star1, v_star, v_tup2, v_tup1, v_tup, v_lst2, v_lst1, v_lst, v_callB3, v_callB2, v_callB1, v_callB, v_andT1, v_andT, v_orT1, v_orT, v_notT1, v_notT, v_and2, v_and1, v_and, v_or2, v_or1, v_or, v_not2, v_not1, v_not, v_if1, v_if, v_orL1, v_orL, v_seq1, v_seq, v_ifS1, v_ifS, v_ret2, v_ret1, v_ret, v_drop1, v_drop, v_asg3, v_asg2, v_asg1, v_asg, v_gset1, v_gset, v_gsub5, v_gsub4, v_gsub3, v_gsub2, v_gsub1, v_gsub, v_gsc1, v_gsc, v_gsn1, v_gsn, v_for1, v_for, v_forc2, v_forc1, v_forc, v_lcc2, v_lcc1, v_lcc, v_lcT3, v_lcT2, v_lcT1, v_lcT, v_lc4, v_lc1, v_lc, v_def4, v_def3, v_def2, v_def1, v_def, v_callV4, v_callV3, v_callV2, v_callV1, v_callV, v_callP4, v_callP3, v_callP2, v_callP1, v_callP, v_callKV5, v_callKV4, v_callKV3, v_callKV2, v_callKV1, v_callKV, v_callKP5, v_callKP4, v_callKP3, v_callKP2, v_callKP1, v_callKP, v_callIO5, v_callIO4, v_callIO3, v_callIO2, v_callIO1, v_callIO, v_app7, v_app6, v_app5, v_app4, v_app3, v_app2, v_app1, v_app, v_sl6, v_sl5, v_sl4, v_sl3, v_sl2, v_sl1, v_sl, v_oS2, v_oS1, v_oS, v_iseq3, v_iseq2, v_iseq1, v_iseq, v_ienum3, v_ienum2, v_ienum1, v_ienum, v_irg1, v_irg, v_rgTup3, v_rgTup2, v_rgTup1, v_rgTup, v_argsc2, v_argsc1, v_argsc, v_putc1, v_putc, v_takesc2, v_takesc1, v_takesc, v_contsc2, v_contsc1, v_contsc, v_backsI2, v_backsI1, v_backsI, v_binF7, v_binF6, v_binF5, v_binF4, v_binF3, v_binF2, v_binF1, v_binF, v_par22, v_par21, v_par2, v_par32, v_par31, v_par3, v_ext8, v_ext7, v_ext6, v_ext5, v_ext4, v_ext3, v_ext2, v_ext1, v_ext, v_zip2, v_zip1, v_zip, v_irgB3, v_irgB2, v_irgB1, v_irgB, v_rgLst3, v_rgLst2, v_rgLst1, v_rgLst, v_rgTupB5, v_rgTupB4, v_rgTupB3, v_rgTupB2, v_rgTupB1, v_rgTupB, v_rgLstB5, v_rgLstB4, v_rgLstB3, v_rgLstB2, v_rgLstB1, v_rgLstB, v_ok, v_c, v_nil, v_next, v_yes, v_oN, v_gtup, v_var, v_for0, v_lc0, v_args0, v_put0, v_takes0, v_conts0, v_backs0, w_add, w_sub, w_neg, w_lt, w_le, w_gt, w_ge, w_intI, w_intB, w_ix0, w_ix1, w_ix2, w_i0, w_i1, w_i2, pend, cont, take, frz, frzs, getP, setP, Res.of, boolOf, isPl, mutS, mutP, intOf, move, retOf, backs1, put1, fzT, ioOf, chk, early, shut, isTmp, flatB, scal, List.map_cons, List.map_nil, List.cons_append, List.nil_append, List.append_nil, List.replicate_succ, List.replicate_zero, List.replicate, List.length_cons, List.length_nil, List.getElem?_cons_zero, List.getElem?_cons_succ, List.set_cons_zero, List.set_cons_succ, List.all_cons, List.all_nil, List.contains_cons, List.contains_nil, List.elem_cons, List.elem_nil, List.isEmpty_nil, List.isEmpty_cons, Nat.reduceAdd, Nat.reduceSub, Nat.reduceBEq, Nat.reduceLT, Nat.reduceLeDiff, Nat.reduceEqDiff, decide_true, decide_false, Bool.and_true, Bool.true_and, Bool.or_true, Bool.true_or, Bool.or_false, Bool.false_or, Bool.and_false, Bool.false_and, Bool.not_true, Bool.not_false, Bool.false_eq_true, reduceIte, ite_true, ite_false, beq_self_eq_true, Nat.zero_add, reduceCtorEq, and_self, true_and, and_true, ge_iff_le, gt_iff_lt, Nat.succ_eq_add_one, Nat.add_one_sub_one, Nat.zero_lt_succ, Nat.lt_add_left_iff_pos, wipeE, restE, pick, List.filterMap_cons, List.filterMap_nil, u_irg, u_irgB, Int.reduceLE, Int.reduceLT, Int.reduceNeg, u_unT, u_unL, u_unW, u_max, u_min, u_abs, u_tup, u_lst, u_lc, u_app0, u_app, u_ext0, u_ext, u_par2, u_par3, u_zip, u_aug0, u_aug, u_aug2, u_ch, u_ch1, u_ch2, u_ch3, e_int, ne_int, e_bl, ne_bl, q_aa, q_af, q_ac, q_fa, q_ff, q_fc, q_ca, q_cf, q_cc, is_non, is_int, isn_non, isn_int, ix_t0, ix_t1, ix_t2, ix_l0, ix_l1, x_asc, x_kco, x_ite, decide_eq_true_eq, Bool.not_eq_true', decide_eq_false_iff_not, u_srT, u_srL, u_srW, isT, seqV, tupV, lstV, u_join, Option.getD, i, l, x, s]
theorem ev_4 (i : fIsi ["tuple"] (.fz T) = .ok (.fz (.bl true))) (l : fLen [.fz T] = .ok (.fz (.int 2))) (x : fIdx (.fz T) (.fz (.int 0)) = .ok (.fz A)) (s : fIsi ["str"] (.fz A) = .ok (.fz (.bl true))) (x1 : fIdx (.fz T) (.fz (.int 1)) = .ok (.fz B)) (w : fInT false (.fz A) (.fz (.tup [.str "add", .str "floor", .str "cap"])) = .ok (.fz (.bl a))) (nb : Fis_number [.fz B] = .ok (.fz (.bl b), [.fz B])) : Fis_event [.fz T] = .ok (.fz (.bl (a && b)), [.fz T]) := by
  cases a <;> simp only [Fis_event, mis_event, v_bin6, v_bin5, v_bin4, v_bin3, v_bin2, v_bin1, v_bin, v_un3, v_un2, v_un1, v_un, v_test2, v_test1, v_test, v_cons3, v_cons2, v_cons1, v_cons, v_star4, v_star3, v_star2, v_star1, v_star, v_tup2, v_tup1, v_tup, v_lst2, v_lst1, v_lst, v_callB3, v_callB2, v_callB1, v_callB, v_andT1, v_andT, v_orT1, v_orT, v_notT1, v_notT, v_and2, v_and1, v_and, v_or2, v_or1, v_or, v_not2, v_not1, v_not, v_if1, v_if, v_orL1, v_orL, v_seq1, v_seq, v_ifS1, v_ifS, v_ret2, v_ret1, v_ret, v_drop1, v_drop, v_asg3, v_asg2, v_asg1, v_asg, v_gset1, v_gset, v_gsub5, v_gsub4, v_gsub3, v_gsub2, v_gsub1, v_gsub, v_gsc1, v_gsc, v_gsn1, v_gsn, v_for1, v_for, v_forc2, v_forc1, v_forc, v_lcc2, v_lcc1, v_lcc, v_lcT3, v_lcT2, v_lcT1, v_lcT, v_lc4, v_lc1, v_lc, v_def4, v_def3, v_def2, v_def1, v_def, v_callV4, v_callV3, v_callV2, v_callV1, v_callV, v_callP4, v_callP3, v_callP2, v_callP1, v_callP, v_callKV5, v_callKV4, v_callKV3, v_callKV2, v_callKV1, v_callKV, v_callKP5, v_callKP4, v_callKP3, v_callKP2, v_callKP1, v_callKP, v_callIO5, v_callIO4, v_callIO3, v_callIO2, v_callIO1, v_callIO, v_app7, v_app6, v_app5, v_app4, v_app3, v_app2, v_app1, v_app, v_sl6, v_sl5, v_sl4, v_sl3, v_sl2, v_sl1, v_sl, v_oS2, v_oS1, v_oS, v_iseq3, v_iseq2, v_iseq1, v_iseq, v_ienum3, v_ienum2, v_ienum1, v_ienum, v_irg1, v_irg, v_rgTup3, v_rgTup2, v_rgTup1, v_rgTup, v_argsc2, v_argsc1, v_argsc, v_putc1, v_putc, v_takesc2, v_takesc1, v_takesc, v_contsc2, v_contsc1, v_contsc, v_backsI2, v_backsI1, v_backsI, v_binF7, v_binF6, v_binF5, v_binF4, v_binF3, v_binF2, v_binF1, v_binF, v_par22, v_par21, v_par2, v_par32, v_par31, v_par3, v_ext8, v_ext7, v_ext6, v_ext5, v_ext4, v_ext3, v_ext2, v_ext1, v_ext, v_zip2, v_zip1, v_zip, v_irgB3, v_irgB2, v_irgB1, v_irgB, v_rgLst3, v_rgLst2, v_rgLst1, v_rgLst, v_rgTupB5, v_rgTupB4, v_rgTupB3, v_rgTupB2, v_rgTupB1, v_rgTupB, v_rgLstB5, v_rgLstB4, v_rgLstB3, v_rgLstB2, v_rgLstB1, v_rgLstB, v_ok, v_c, v_nil, v_next, v_yes, v_oN, v_gtup, v_var, v_for0, v_lc0, v_args0, v_put0, v_takes0, v_conts0, v_backs0, w_add, w_sub, w_neg, w_lt, w_le, w_gt, w_ge, w_intI, w_intB, w_ix0, w_ix1, w_ix2, w_i0, w_i1, w_i2, pend, cont, take, frz, frzs, getP, setP, Res.of, boolOf, isPl, mutS, mutP, intOf, move, retOf, backs1, put1, fzT, ioOf, chk, early, shut, isTmp, flatB, scal, List.map_cons, List.map_nil, List.cons_append, List.nil_append, List.append_nil, List.replicate_succ, List.replicate_zero, List.replicate, List.length_cons, List.length_nil, List.getElem?_cons_zero, List.getElem?_cons_succ, List.set_cons_zero, List.set_cons_succ, List.all_cons, List.all_nil, List.contains_cons, List.contains_nil, List.elem_cons, List.elem_nil, List.isEmpty_nil, List.isEmpty_cons, Nat.reduceAdd, Nat.reduceSub, Nat.reduceBEq, Nat.reduceLT, Nat.reduceLeDiff, Nat.reduceEqDiff, decide_true, decide_false, Bool.and_true, Bool.true_and, Bool.or_true, Bool.true_or, Bool.or_false, Bool.false_or, Bool.and_false, Bool.false_and, Bool.not_true, Bool.not_false, Bool.false_eq_true, reduceIte, ite_true, ite_false, beq_self_eq_true, Nat.zero_add, reduceCtorEq, and_self, true_and, and_true, ge_iff_le, gt_iff_lt, Nat.succ_eq_add_one, Nat.add_one_sub_one, Nat.zero_lt_succ, Nat.lt_add_left_iff_pos, wipeE, restE, pick, List.filterMap_cons, List.filterMap_nil, u_irg, u_irgB, Int.reduceLE, Int.reduceLT, Int.reduceNeg, u_unT, u_unL, u_unW, u_max, u_min, u_abs, u_tup, u_lst, u_lc, u_app0, u_app, u_ext0, u_ext, u_par2, u_par3, u_zip, u_aug0, u_aug, u_aug2, u_ch, u_ch1, u_ch2, u_ch3, e_int, ne_int, e_bl, ne_bl, q_aa, q_af, q_ac, q_fa, q_ff, q_fc, q_ca, q_cf, q_cc, is_non, is_int, isn_non, isn_int, ix_t0, ix_t1, ix_t2, ix_l0, ix_l1, x_asc, x_kco, x_ite, decide_eq_true_eq, Bool.not_eq_true', decide_eq_false_iff_not, u_srT, u_srL, u_srW, isT, seqV, tupV, lstV, u_join, Option.getD, i, l, x, s, x1, w, nb]
theorem en_1 (i : fIsi ["tuple"] (.fz T) = .ok (.fz (.bl false))) : F_law_is_entry [.fz T] = .ok (.fz (.bl false), [.fz T]) := by
  simp only [F_law_is_entry, m_law_is_entry, v_bin6, v_bin5, v_bin4, v_bin3, v_bin2, v_bin1, v_bin, v_un3, v_un2, v_un1, v_un, v_test2, v_test1, v_test, v_cons3, v_cons2, v_cons1, v_cons, v_star4, v_star3, v_star2, v_star1, v_star, v_tup2, v_tup1, v_tup, v_lst2, v_lst1, v_lst, v_callB3, v_callB2, v_callB1, v_callB, v_andT1, v_andT, v_orT1, v_orT, v_notT1, v_notT, v_and2, v_and1, v_and, v_or2, v_or1, v_or, v_not2, v_not1, v_not, v_if1, v_if, v_orL1, v_orL, v_seq1, v_seq, v_ifS1, v_ifS, v_ret2, v_ret1, v_ret, v_drop1, v_drop, v_asg3, v_asg2, v_asg1, v_asg, v_gset1, v_gset, v_gsub5, v_gsub4, v_gsub3, v_gsub2, v_gsub1, v_gsub, v_gsc1, v_gsc, v_gsn1, v_gsn, v_for1, v_for, v_forc2, v_forc1, v_forc, v_lcc2, v_lcc1, v_lcc, v_lcT3, v_lcT2, v_lcT1, v_lcT, v_lc4, v_lc1, v_lc, v_def4, v_def3, v_def2, v_def1, v_def, v_callV4, v_callV3, v_callV2, v_callV1, v_callV, v_callP4, v_callP3, v_callP2, v_callP1, v_callP, v_callKV5, v_callKV4, v_callKV3, v_callKV2, v_callKV1, v_callKV, v_callKP5, v_callKP4, v_callKP3, v_callKP2, v_callKP1, v_callKP, v_callIO5, v_callIO4, v_callIO3, v_callIO2, v_callIO1, v_callIO, v_app7, v_app6, v_app5, v_app4, v_app3, v_app2, v_app1, v_app, v_sl6, v_sl5, v_sl4, v_sl3, v_sl2, v_sl1, v_sl, v_oS2, v_oS1, v_oS, v_iseq3, v_iseq2, v_iseq1, v_iseq, v_ienum3, v_ienum2, v_ienum1, v_ienum, v_irg1, v_irg, v_rgTup3, v_rgTup2, v_rgTup1, v_rgTup, v_argsc2, v_argsc1, v_argsc, v_putc1, v_putc, v_takesc2, v_takesc1, v_takesc, v_contsc2, v_contsc1, v_contsc, v_backsI2, v_backsI1, v_backsI, v_binF7, v_binF6, v_binF5, v_binF4, v_binF3, v_binF2, v_binF1, v_binF, v_par22, v_par21, v_par2, v_par32, v_par31, v_par3, v_ext8, v_ext7, v_ext6, v_ext5, v_ext4, v_ext3, v_ext2, v_ext1, v_ext, v_zip2, v_zip1, v_zip, v_irgB3, v_irgB2, v_irgB1, v_irgB, v_rgLst3, v_rgLst2, v_rgLst1, v_rgLst, v_rgTupB5, v_rgTupB4, v_rgTupB3, v_rgTupB2, v_rgTupB1, v_rgTupB, v_rgLstB5, v_rgLstB4, v_rgLstB3, v_rgLstB2, v_rgLstB1, v_rgLstB, v_ok, v_c, v_nil, v_next, v_yes, v_oN, v_gtup, v_var, v_for0, v_lc0, v_args0, v_put0, v_takes0, v_conts0, v_backs0, w_add, w_sub, w_neg, w_lt, w_le, w_gt, w_ge, w_intI, w_intB, w_ix0, w_ix1, w_ix2, w_i0, w_i1, w_i2, pend, cont, take, frz, frzs, getP, setP, Res.of, boolOf, isPl, mutS, mutP, intOf, move, retOf, backs1, put1, fzT, ioOf, chk, early, shut, isTmp, flatB, scal, List.map_cons, List.map_nil, List.cons_append, List.nil_append, List.append_nil, List.replicate_succ, List.replicate_zero, List.replicate, List.length_cons, List.length_nil, List.getElem?_cons_zero, List.getElem?_cons_succ, List.set_cons_zero, List.set_cons_succ, List.all_cons, List.all_nil, List.contains_cons, List.contains_nil, List.elem_cons, List.elem_nil, List.isEmpty_nil, List.isEmpty_cons, Nat.reduceAdd, Nat.reduceSub, Nat.reduceBEq, Nat.reduceLT, Nat.reduceLeDiff, Nat.reduceEqDiff, decide_true, decide_false, Bool.and_true, Bool.true_and, Bool.or_true, Bool.true_or, Bool.or_false, Bool.false_or, Bool.and_false, Bool.false_and, Bool.not_true, Bool.not_false, Bool.false_eq_true, reduceIte, ite_true, ite_false, beq_self_eq_true, Nat.zero_add, reduceCtorEq, and_self, true_and, and_true, ge_iff_le, gt_iff_lt, Nat.succ_eq_add_one, Nat.add_one_sub_one, Nat.zero_lt_succ, Nat.lt_add_left_iff_pos, wipeE, restE, pick, List.filterMap_cons, List.filterMap_nil, u_irg, u_irgB, Int.reduceLE, Int.reduceLT, Int.reduceNeg, u_unT, u_unL, u_unW, u_max, u_min, u_abs, u_tup, u_lst, u_lc, u_app0, u_app, u_ext0, u_ext, u_par2, u_par3, u_zip, u_aug0, u_aug, u_aug2, u_ch, u_ch1, u_ch2, u_ch3, e_int, ne_int, e_bl, ne_bl, q_aa, q_af, q_ac, q_fa, q_ff, q_fc, q_ca, q_cf, q_cc, is_non, is_int, isn_non, isn_int, ix_t0, ix_t1, ix_t2, ix_l0, ix_l1, x_asc, x_kco, x_ite, decide_eq_true_eq, Bool.not_eq_true', decide_eq_false_iff_not, u_srT, u_srL, u_srW, isT, seqV, tupV, lstV, u_join, Option.getD, i]
theorem en_2 (i : fIsi ["tuple"] (.fz T) = .ok (.fz (.bl true))) (l : fLen [.fz T] = .ok (.fz (.int n))) (hn : (n = 2) = False) : F_law_is_entry [.fz T] = .ok (.fz (.bl false), [.fz T]) := by
  simp only [F_law_is_entry, m_law_is_entry, v_bin6, v_bin5, v_bin4, v_bin3, v_bin2, v_bin1, v_bin, v_un3, v_un2, v_un1, v_un, v_test2, v_test1, v_test, v_cons3, v_cons2, v_cons1, v_cons, v_star4, v_star3, v_star2, v_star1, v_star, v_tup2, v_tup1, v_tup, v_lst2, v_lst1, v_lst, v_callB3, v_callB2, v_callB1, v_callB, v_andT1, v_andT, v_orT1, v_orT, v_notT1, v_notT, v_and2, v_and1, v_and, v_or2, v_or1, v_or, v_not2, v_not1, v_not, v_if1, v_if, v_orL1, v_orL, v_seq1, v_seq, v_ifS1, v_ifS, v_ret2, v_ret1, v_ret, v_drop1, v_drop, v_asg3, v_asg2, v_asg1, v_asg, v_gset1, v_gset, v_gsub5, v_gsub4, v_gsub3, v_gsub2, v_gsub1, v_gsub, v_gsc1, v_gsc, v_gsn1, v_gsn, v_for1, v_for, v_forc2, v_forc1, v_forc, v_lcc2, v_lcc1, v_lcc, v_lcT3, v_lcT2, v_lcT1, v_lcT, v_lc4, v_lc1, v_lc, v_def4, v_def3, v_def2, v_def1, v_def, v_callV4, v_callV3, v_callV2, v_callV1, v_callV, v_callP4, v_callP3, v_callP2, v_callP1, v_callP, v_callKV5, v_callKV4, v_callKV3, v_callKV2, v_callKV1, v_callKV, v_callKP5, v_callKP4, v_callKP3, v_callKP2, v_callKP1, v_callKP, v_callIO5, v_callIO4, v_callIO3, v_callIO2, v_callIO1, v_callIO, v_app7, v_app6, v_app5, v_app4, v_app3, v_app2, v_app1, v_app, v_sl6, v_sl5, v_sl4, v_sl3, v_sl2, v_sl1, v_sl, v_oS2, v_oS1, v_oS, v_iseq3, v_iseq2, v_iseq1, v_iseq, v_ienum3, v_ienum2, v_ienum1, v_ienum, v_irg1, v_irg, v_rgTup3, v_rgTup2, v_rgTup1, v_rgTup, v_argsc2, v_argsc1, v_argsc, v_putc1, v_putc, v_takesc2, v_takesc1, v_takesc, v_contsc2, v_contsc1, v_contsc, v_backsI2, v_backsI1, v_backsI, v_binF7, v_binF6, v_binF5, v_binF4, v_binF3, v_binF2, v_binF1, v_binF, v_par22, v_par21, v_par2, v_par32, v_par31, v_par3, v_ext8, v_ext7, v_ext6, v_ext5, v_ext4, v_ext3, v_ext2, v_ext1, v_ext, v_zip2, v_zip1, v_zip, v_irgB3, v_irgB2, v_irgB1, v_irgB, v_rgLst3, v_rgLst2, v_rgLst1, v_rgLst, v_rgTupB5, v_rgTupB4, v_rgTupB3, v_rgTupB2, v_rgTupB1, v_rgTupB, v_rgLstB5, v_rgLstB4, v_rgLstB3, v_rgLstB2, v_rgLstB1, v_rgLstB, v_ok, v_c, v_nil, v_next, v_yes, v_oN, v_gtup, v_var, v_for0, v_lc0, v_args0, v_put0, v_takes0, v_conts0, v_backs0, w_add, w_sub, w_neg, w_lt, w_le, w_gt, w_ge, w_intI, w_intB, w_ix0, w_ix1, w_ix2, w_i0, w_i1, w_i2, pend, cont, take, frz, frzs, getP, setP, Res.of, boolOf, isPl, mutS, mutP, intOf, move, retOf, backs1, put1, fzT, ioOf, chk, early, shut, isTmp, flatB, scal, List.map_cons, List.map_nil, List.cons_append, List.nil_append, List.append_nil, List.replicate_succ, List.replicate_zero, List.replicate, List.length_cons, List.length_nil, List.getElem?_cons_zero, List.getElem?_cons_succ, List.set_cons_zero, List.set_cons_succ, List.all_cons, List.all_nil, List.contains_cons, List.contains_nil, List.elem_cons, List.elem_nil, List.isEmpty_nil, List.isEmpty_cons, Nat.reduceAdd, Nat.reduceSub, Nat.reduceBEq, Nat.reduceLT, Nat.reduceLeDiff, Nat.reduceEqDiff, decide_true, decide_false, Bool.and_true, Bool.true_and, Bool.or_true, Bool.true_or, Bool.or_false, Bool.false_or, Bool.and_false, Bool.false_and, Bool.not_true, Bool.not_false, Bool.false_eq_true, reduceIte, ite_true, ite_false, beq_self_eq_true, Nat.zero_add, reduceCtorEq, and_self, true_and, and_true, ge_iff_le, gt_iff_lt, Nat.succ_eq_add_one, Nat.add_one_sub_one, Nat.zero_lt_succ, Nat.lt_add_left_iff_pos, wipeE, restE, pick, List.filterMap_cons, List.filterMap_nil, u_irg, u_irgB, Int.reduceLE, Int.reduceLT, Int.reduceNeg, u_unT, u_unL, u_unW, u_max, u_min, u_abs, u_tup, u_lst, u_lc, u_app0, u_app, u_ext0, u_ext, u_par2, u_par3, u_zip, u_aug0, u_aug, u_aug2, u_ch, u_ch1, u_ch2, u_ch3, e_int, ne_int, e_bl, ne_bl, q_aa, q_af, q_ac, q_fa, q_ff, q_fc, q_ca, q_cf, q_cc, is_non, is_int, isn_non, isn_int, ix_t0, ix_t1, ix_t2, ix_l0, ix_l1, x_asc, x_kco, x_ite, decide_eq_true_eq, Bool.not_eq_true', decide_eq_false_iff_not, u_srT, u_srL, u_srW, isT, seqV, tupV, lstV, u_join, Option.getD, i, l, hn]
theorem en_3 (i : fIsi ["tuple"] (.fz T) = .ok (.fz (.bl true))) (l : fLen [.fz T] = .ok (.fz (.int 2))) (x : fIdx (.fz T) (.fz (.int 0)) = .ok (.fz A)) (s : fIsi ["str"] (.fz A) = .ok (.fz (.bl false))) : F_law_is_entry [.fz T] = .ok (.fz (.bl false), [.fz T]) := by
  simp only [F_law_is_entry, m_law_is_entry, v_bin6, v_bin5, v_bin4, v_bin3, v_bin2, v_bin1, v_bin, v_un3, v_un2, v_un1, v_un, v_test2, v_test1, v_test, v_cons3, v_cons2, v_cons1, v_cons, v_star4, v_star3, v_star2, v_star1, v_star, v_tup2, v_tup1, v_tup, v_lst2, v_lst1, v_lst, v_callB3, v_callB2, v_callB1, v_callB, v_andT1, v_andT, v_orT1, v_orT, v_notT1, v_notT, v_and2, v_and1, v_and, v_or2, v_or1, v_or, v_not2, v_not1, v_not, v_if1, v_if, v_orL1, v_orL, v_seq1, v_seq, v_ifS1, v_ifS, v_ret2, v_ret1, v_ret, v_drop1, v_drop, v_asg3, v_asg2, v_asg1, v_asg, v_gset1, v_gset, v_gsub5, v_gsub4, v_gsub3, v_gsub2, v_gsub1, v_gsub, v_gsc1, v_gsc, v_gsn1, v_gsn, v_for1, v_for, v_forc2, v_forc1, v_forc, v_lcc2, v_lcc1, v_lcc, v_lcT3, v_lcT2, v_lcT1, v_lcT, v_lc4, v_lc1, v_lc, v_def4, v_def3, v_def2, v_def1, v_def, v_callV4, v_callV3, v_callV2, v_callV1, v_callV, v_callP4, v_callP3, v_callP2, v_callP1, v_callP, v_callKV5, v_callKV4, v_callKV3, v_callKV2, v_callKV1, v_callKV, v_callKP5, v_callKP4, v_callKP3, v_callKP2, v_callKP1, v_callKP, v_callIO5, v_callIO4, v_callIO3, v_callIO2, v_callIO1, v_callIO, v_app7, v_app6, v_app5, v_app4, v_app3, v_app2, v_app1, v_app, v_sl6, v_sl5, v_sl4, v_sl3, v_sl2, v_sl1, v_sl, v_oS2, v_oS1, v_oS, v_iseq3, v_iseq2, v_iseq1, v_iseq, v_ienum3, v_ienum2, v_ienum1, v_ienum, v_irg1, v_irg, v_rgTup3, v_rgTup2, v_rgTup1, v_rgTup, v_argsc2, v_argsc1, v_argsc, v_putc1, v_putc, v_takesc2, v_takesc1, v_takesc, v_contsc2, v_contsc1, v_contsc, v_backsI2, v_backsI1, v_backsI, v_binF7, v_binF6, v_binF5, v_binF4, v_binF3, v_binF2, v_binF1, v_binF, v_par22, v_par21, v_par2, v_par32, v_par31, v_par3, v_ext8, v_ext7, v_ext6, v_ext5, v_ext4, v_ext3, v_ext2, v_ext1, v_ext, v_zip2, v_zip1, v_zip, v_irgB3, v_irgB2, v_irgB1, v_irgB, v_rgLst3, v_rgLst2, v_rgLst1, v_rgLst, v_rgTupB5, v_rgTupB4, v_rgTupB3, v_rgTupB2, v_rgTupB1, v_rgTupB, v_rgLstB5, v_rgLstB4, v_rgLstB3, v_rgLstB2, v_rgLstB1, v_rgLstB, v_ok, v_c, v_nil, v_next, v_yes, v_oN, v_gtup, v_var, v_for0, v_lc0, v_args0, v_put0, v_takes0, v_conts0, v_backs0, w_add, w_sub, w_neg, w_lt, w_le, w_gt, w_ge, w_intI, w_intB, w_ix0, w_ix1, w_ix2, w_i0, w_i1, w_i2, pend, cont, take, frz, frzs, getP, setP, Res.of, boolOf, isPl, mutS, mutP, intOf, move, retOf, backs1, put1, fzT, ioOf, chk, early, shut, isTmp, flatB, scal, List.map_cons, List.map_nil, List.cons_append, List.nil_append, List.append_nil, List.replicate_succ, List.replicate_zero, List.replicate, List.length_cons, List.length_nil, List.getElem?_cons_zero, List.getElem?_cons_succ, List.set_cons_zero, List.set_cons_succ, List.all_cons, List.all_nil, List.contains_cons, List.contains_nil, List.elem_cons, List.elem_nil, List.isEmpty_nil, List.isEmpty_cons, Nat.reduceAdd, Nat.reduceSub, Nat.reduceBEq, Nat.reduceLT, Nat.reduceLeDiff, Nat.reduceEqDiff, decide_true, decide_false, Bool.and_true, Bool.true_and, Bool.or_true, Bool.true_or, Bool.or_false, Bool.false_or, Bool.and_false, Bool.false_and, Bool.not_true, Bool.not_false, Bool.false_eq_true, reduceIte, ite_true, ite_false, beq_self_eq_true, Nat.zero_add, reduceCtorEq, and_self, true_and, and_true, ge_iff_le, gt_iff_lt, Nat.succ_eq_add_one, Nat.add_one_sub_one, Nat.zero_lt_succ, Nat.lt_add_left_iff_pos, wipeE, restE, pick, List.filterMap_cons, List.filterMap_nil, u_irg, u_irgB, Int.reduceLE, Int.reduceLT, Int.reduceNeg, u_unT, u_unL, u_unW, u_max, u_min, u_abs, u_tup, u_lst, u_lc, u_app0, u_app, u_ext0, u_ext, u_par2, u_par3, u_zip, u_aug0, u_aug, u_aug2, u_ch, u_ch1, u_ch2, u_ch3, e_int, ne_int, e_bl, ne_bl, q_aa, q_af, q_ac, q_fa, q_ff, q_fc, q_ca, q_cf, q_cc, is_non, is_int, isn_non, isn_int, ix_t0, ix_t1, ix_t2, ix_l0, ix_l1, x_asc, x_kco, x_ite, decide_eq_true_eq, Bool.not_eq_true', decide_eq_false_iff_not, u_srT, u_srL, u_srW, isT, seqV, tupV, lstV, u_join, Option.getD, i, l, x, s]
theorem en_4 (i : fIsi ["tuple"] (.fz T) = .ok (.fz (.bl true))) (l : fLen [.fz T] = .ok (.fz (.int 2))) (x : fIdx (.fz T) (.fz (.int 0)) = .ok (.fz A)) (s : fIsi ["str"] (.fz A) = .ok (.fz (.bl true))) (x1 : fIdx (.fz T) (.fz (.int 1)) = .ok (.fz B)) (t1 : fIsi ["int"] (.fz B) = .ok (.fz (.bl a))) (t2 : fIsi ["bool"] (.fz B) = .ok (.fz (.bl b))) (q1 : fEq (.fz A) (.fz (.str "add")) = .ok (.fz (.bl a1))) (q2 : fEq (.fz A) (.fz (.str "floor")) = .ok (.fz (.bl a2))) (q3 : fEq (.fz A) (.fz (.str "cap")) = .ok (.fz (.bl a3))) : F_law_is_entry [.fz T] = .ok (.fz (.bl ((a && !b) && (a1 || (a2 || a3)))), [.fz T]) := by
  cases a <;> cases b <;> cases a1 <;> cases a2 <;> simp only [F_law_is_entry, m_law_is_entry, v_bin6, v_bin5, v_bin4, v_bin3, v_bin2, v_bin1, v_bin, v_un3, v_un2, v_un1, v_un, v_test2, v_test1, v_test, v_cons3, v_cons2, v_cons1, v_cons, v_star4, v_star3, v_star2, v_star1, v_star, v_tup2, v_tup1, v_tup, v_lst2, v_lst1, v_lst, v_callB3, v_callB2, v_callB1, v_callB, v_andT1, v_andT, v_orT1, v_orT, v_notT1, v_notT, v_and2, v_and1, v_and, v_or2, v_or1, v_or, v_not2, v_not1, v_not, v_if1, v_if, v_orL1, v_orL, v_seq1, v_seq, v_ifS1, v_ifS, v_ret2, v_ret1, v_ret, v_drop1, v_drop, v_asg3, v_asg2, v_asg1, v_asg, v_gset1, v_gset, v_gsub5, v_gsub4, v_gsub3, v_gsub2, v_gsub1, v_gsub, v_gsc1, v_gsc, v_gsn1, v_gsn, v_for1, v_for, v_forc2, v_forc1, v_forc, v_lcc2, v_lcc1, v_lcc, v_lcT3, v_lcT2, v_lcT1, v_lcT, v_lc4, v_lc1, v_lc, v_def4, v_def3, v_def2, v_def1, v_def, v_callV4, v_callV3, v_callV2, v_callV1, v_callV, v_callP4, v_callP3, v_callP2, v_callP1, v_callP, v_callKV5, v_callKV4, v_callKV3, v_callKV2, v_callKV1, v_callKV, v_callKP5, v_callKP4, v_callKP3, v_callKP2, v_callKP1, v_callKP, v_callIO5, v_callIO4, v_callIO3, v_callIO2, v_callIO1, v_callIO, v_app7, v_app6, v_app5, v_app4, v_app3, v_app2, v_app1, v_app, v_sl6, v_sl5, v_sl4, v_sl3, v_sl2, v_sl1, v_sl, v_oS2, v_oS1, v_oS, v_iseq3, v_iseq2, v_iseq1, v_iseq, v_ienum3, v_ienum2, v_ienum1, v_ienum, v_irg1, v_irg, v_rgTup3, v_rgTup2, v_rgTup1, v_rgTup, v_argsc2, v_argsc1, v_argsc, v_putc1, v_putc, v_takesc2, v_takesc1, v_takesc, v_contsc2, v_contsc1, v_contsc, v_backsI2, v_backsI1, v_backsI, v_binF7, v_binF6, v_binF5, v_binF4, v_binF3, v_binF2, v_binF1, v_binF, v_par22, v_par21, v_par2, v_par32, v_par31, v_par3, v_ext8, v_ext7, v_ext6, v_ext5, v_ext4, v_ext3, v_ext2, v_ext1, v_ext, v_zip2, v_zip1, v_zip, v_irgB3, v_irgB2, v_irgB1, v_irgB, v_rgLst3, v_rgLst2, v_rgLst1, v_rgLst, v_rgTupB5, v_rgTupB4, v_rgTupB3, v_rgTupB2, v_rgTupB1, v_rgTupB, v_rgLstB5, v_rgLstB4, v_rgLstB3, v_rgLstB2, v_rgLstB1, v_rgLstB, v_ok, v_c, v_nil, v_next, v_yes, v_oN, v_gtup, v_var, v_for0, v_lc0, v_args0, v_put0, v_takes0, v_conts0, v_backs0, w_add, w_sub, w_neg, w_lt, w_le, w_gt, w_ge, w_intI, w_intB, w_ix0, w_ix1, w_ix2, w_i0, w_i1, w_i2, pend, cont, take, frz, frzs, getP, setP, Res.of, boolOf, isPl, mutS, mutP, intOf, move, retOf, backs1, put1, fzT, ioOf, chk, early, shut, isTmp, flatB, scal, List.map_cons, List.map_nil, List.cons_append, List.nil_append, List.append_nil, List.replicate_succ, List.replicate_zero, List.replicate, List.length_cons, List.length_nil, List.getElem?_cons_zero, List.getElem?_cons_succ, List.set_cons_zero, List.set_cons_succ, List.all_cons, List.all_nil, List.contains_cons, List.contains_nil, List.elem_cons, List.elem_nil, List.isEmpty_nil, List.isEmpty_cons, Nat.reduceAdd, Nat.reduceSub, Nat.reduceBEq, Nat.reduceLT, Nat.reduceLeDiff, Nat.reduceEqDiff, decide_true, decide_false, Bool.and_true, Bool.true_and, Bool.or_true, Bool.true_or, Bool.or_false, Bool.false_or, Bool.and_false, Bool.false_and, Bool.not_true, Bool.not_false, Bool.false_eq_true, reduceIte, ite_true, ite_false, beq_self_eq_true, Nat.zero_add, reduceCtorEq, and_self, true_and, and_true, ge_iff_le, gt_iff_lt, Nat.succ_eq_add_one, Nat.add_one_sub_one, Nat.zero_lt_succ, Nat.lt_add_left_iff_pos, wipeE, restE, pick, List.filterMap_cons, List.filterMap_nil, u_irg, u_irgB, Int.reduceLE, Int.reduceLT, Int.reduceNeg, u_unT, u_unL, u_unW, u_max, u_min, u_abs, u_tup, u_lst, u_lc, u_app0, u_app, u_ext0, u_ext, u_par2, u_par3, u_zip, u_aug0, u_aug, u_aug2, u_ch, u_ch1, u_ch2, u_ch3, e_int, ne_int, e_bl, ne_bl, q_aa, q_af, q_ac, q_fa, q_ff, q_fc, q_ca, q_cf, q_cc, is_non, is_int, isn_non, isn_int, ix_t0, ix_t1, ix_t2, ix_l0, ix_l1, x_asc, x_kco, x_ite, decide_eq_true_eq, Bool.not_eq_true', decide_eq_false_iff_not, u_srT, u_srL, u_srW, isT, seqV, tupV, lstV, u_join, Option.getD, i, l, x, s, x1, t1, t2, q1, q2, q3]
end
theorem event_is {k n : Nat} {d : D} (h : PL k n d) : Fis_event [.fz d] = .ok (.fz (.bl (isE d)), [.fz d]) ∧ F_law_is_entry [.fz d] = .ok (.fz (.bl (isE d)), [.fz d]) := by
  have i := ty_tu h
  by_cases c : isTu d = false
  · rw [c] at i
    have e : isE d = false := by cases d <;> first | rfl | cases c
    rw [e]
    exact ⟨ev_1 i, en_1 i⟩
  · cases n with
    | zero => exact h.elim
    | succ n => cases d with
      | tup ds =>
        rw [show isTu (.tup ds) = true from rfl] at i
        have l : fLen [.fz (.tup ds)] = .ok (.fz (.int ds.length)) := rfl
        match ds, h, i, l with
        | [], h, i, l => exact ⟨ev_2 i l (by decide), en_2 i l (by decide)⟩
        | [a], h, i, l =>
          have hn : (((([a] : List D).length : Nat) : Int) = 2) = False := by
            rw [eq_iff_iff]
            simp only [List.length_cons, List.length_nil, iff_false]
            omega
          have e : isE (.tup [a]) = false := by cases a <;> rfl
          rw [e]
          exact ⟨ev_2 i l hn, en_2 i l hn⟩
        | a :: b :: c :: r, h, i, l =>
          have hn : (((a :: b :: c :: r : List D).length : Int) = 2) = False := by
            rw [eq_iff_iff]
            simp only [List.length_cons, iff_false]
            omega
          have e : isE (.tup (a :: b :: c :: r)) = false := by cases a <;> cases b <;> rfl
          rw [e]
          exact ⟨ev_2 i l hn, en_2 i l hn⟩
        | [a, b], h, i, l =>
          have ha := h.2 a (by simp)
          have hb := h.2 b (by simp)
          have x : fIdx (.fz (.tup [a, b])) (.fz (.int 0)) = .ok (.fz a) := by kernel_rfl
          have x1 : fIdx (.fz (.tup [a, b])) (.fz (.int 1)) = .ok (.fz b) := by kernel_rfl
          have s := ty_st ha
          by_cases cs : isSt a = false
          · rw [cs] at s
            have e : isE (.tup [a, b]) = false := by cases a <;> first | rfl | cases cs
            rw [e]
            exact ⟨ev_3 i l x s, en_3 i l x s⟩
          · cases a with
            | str w =>
              have hw : PyData.strOk w = true := by
                cases n with
                | zero => exact ha.elim
                | succ n => exact ha
              have v := ev_4 i l x s x1 (in_w hw) (num_ok hb)
              have u := en_4 i l x s x1 (ty_in hb) (ty_bo hb) (str_eq hw (by kernel_rfl)) (str_eq hw (by kernel_rfl)) (str_eq hw (by kernel_rfl))
              have e1 : (wdB w && isNu b) = isE (.tup [.str w, b]) := by cases b <;> simp [isNu, isE]
              rw [e1] at v
              refine ⟨v, ?_⟩
              rw [u]
              congr 3
              cases b <;> simp [isE, wdB]
            | _ => exact absurd rfl cs
      | _ => exact absurd rfl c
theorem bls_all : ∀ (ds : List D) (f : D → Bool), fAll [.fz (.lst (ds.map fun d => D.bl (f d)))] = .ok (.fz (.bl (ds.all f))) := fun ds f => by
  have h : ∀ ds : List D, blsD (ds.map fun d => D.bl (f d)) = some (ds.map f) := by
    intro ds
    induction ds with
    | nil => rfl
    | cons a l ih => show (match blsD (l.map fun d => D.bl (f d)) with | some ns => some (f a :: ns) | none => none) = _; rw [ih]; rfl
  show (match blsD (ds.map fun d => D.bl (f d)) with | some ns => Res.ok (W.fz (.bl (ns.all id))) | none => .err) = _
  rw [h]
  show Res.ok (W.fz (.bl ((ds.map f).all id))) = _
  rw [List.all_map]; rfl
section
variable {T : D} {ds : List D} {RW : List W} {RD : List D} {b : Bool} {EB : CE}
theorem rw_1 (i : fIsi ["tuple"] (.fz T) = .ok (.fz (.bl false))) : cRet (cAnd (cUn (fIsi ["tuple"]) (cVar 0)) (cCallB fAll (cCons true (cLc [1] (iSeq (cVar 0)) (gSet 1) cYes EB) cNil))) [some (.fz T), none] = .ok (.ret (.fz (.bl false)), [some (.fz T), none]) := by
  simp only [v_bin6, v_bin5, v_bin4, v_bin3, v_bin2, v_bin1, v_bin, v_un3, v_un2, v_un1, v_un, v_test2, v_test1, v_test, v_cons3, v_cons2, v_cons1, v_cons, v_star4, v_star3, v_star2, v_star1, v_star, v_tup2, v_tup1, v_tup, v_lst2, v_lst1, v_lst, v_callB3, v_callB2, v_callB1, v_callB, v_andT1, v_andT, v_orT1, v_orT, v_notT1, v_notT, v_and2, v_and1, v_and, v_or2, v_or1, v_or, v_not2, v_not1, v_not, v_if1, v_if, v_orL1, v_orL, v_seq1, v_seq, v_ifS1, v_ifS, v_ret2, v_ret1, v_ret, v_drop1, v_drop, v_asg3, v_asg2, v_asg1, v_asg, v_gset1, v_gset, v_gsub5, v_gsub4, v_gsub3, v_gsub2, v_gsub1, v_gsub, v_gsc1, v_gsc, v_gsn1, v_gsn, v_for1, v_for, v_forc2, v_forc1, v_forc, v_lcc2, v_lcc1, v_lcc, v_lcT3, v_lcT2, v_lcT1, v_lcT, v_lc4, v_lc1, v_lc, v_def4, v_def3, v_def2, v_def1, v_def, v_callV4, v_callV3, v_callV2, v_callV1, v_callV, v_callP4, v_callP3, v_callP2, v_callP1, v_callP, v_callKV5, v_callKV4, v_callKV3, v_callKV2, v_callKV1, v_callKV, v_callKP5, v_callKP4, v_callKP3, v_callKP2, v_callKP1, v_callKP, v_callIO5, v_callIO4, v_callIO3, v_callIO2, v_callIO1, v_callIO, v_app7, v_app6, v_app5, v_app4, v_app3, v_app2, v_app1, v_app, v_sl6, v_sl5, v_sl4, v_sl3, v_sl2, v_sl1, v_sl, v_oS2, v_oS1, v_oS, v_iseq3, v_iseq2, v_iseq1, v_iseq, v_ienum3, v_ienum2, v_ienum1, v_ienum, v_irg1, v_irg, v_rgTup3, v_rgTup2, v_rgTup1, v_rgTup, v_argsc2, v_argsc1, v_argsc, v_putc1, v_putc, v_takesc2, v_takesc1, v_takesc, v_contsc2, v_contsc1, v_contsc, v_backsI2, v_backsI1, v_backsI, v_binF7, v_binF6, v_binF5, v_binF4, v_binF3, v_binF2, v_binF1, v_binF, v_par22, v_par21, v_par2, v_par32, v_par31, v_par3, v_ext8, v_ext7, v_ext6, v_ext5, v_ext4, v_ext3, v_ext2, v_ext1, v_ext, v_zip2, v_zip1, v_zip, v_irgB3, v_irgB2, v_irgB1, v_irgB, v_rgLst3, v_rgLst2, v_rgLst1, v_rgLst, v_rgTupB5, v_rgTupB4, v_rgTupB3, v_rgTupB2, v_rgTupB1, v_rgTupB, v_rgLstB5, v_rgLstB4, v_rgLstB3, v_rgLstB2, v_rgLstB1, v_rgLstB, v_ok, v_c, v_nil, v_next, v_yes, v_oN, v_gtup, v_var, v_for0, v_lc0, v_args0, v_put0, v_takes0, v_conts0, v_backs0, w_add, w_sub, w_neg, w_lt, w_le, w_gt, w_ge, w_intI, w_intB, w_ix0, w_ix1, w_ix2, w_i0, w_i1, w_i2, pend, cont, take, frz, frzs, getP, setP, Res.of, boolOf, isPl, mutS, mutP, intOf, move, retOf, backs1, put1, fzT, ioOf, chk, early, shut, isTmp, flatB, scal, List.map_cons, List.map_nil, List.cons_append, List.nil_append, List.append_nil, List.replicate_succ, List.replicate_zero, List.replicate, List.length_cons, List.length_nil, List.getElem?_cons_zero, List.getElem?_cons_succ, List.set_cons_zero, List.set_cons_succ, List.all_cons, List.all_nil, List.contains_cons, List.contains_nil, List.elem_cons, List.elem_nil, List.isEmpty_nil, List.isEmpty_cons, Nat.reduceAdd, Nat.reduceSub, Nat.reduceBEq, Nat.reduceLT, Nat.reduceLeDiff, Nat.reduceEqDiff, decide_true, decide_false, Bool.and_true, Bool.true_and, Bool.or_true, Bool.true_or, Bool.or_false, Bool.false_or, Bool.and_false, Bool.false_and, Bool.not_true, Bool.not_false, Bool.false_eq_true, reduceIte, ite_true, ite_false, beq_self_eq_true, Nat.zero_add, reduceCtorEq, and_self, true_and, and_true, ge_iff_le, gt_iff_lt, Nat.succ_eq_add_one, Nat.add_one_sub_one, Nat.zero_lt_succ, Nat.lt_add_left_iff_pos, wipeE, restE, pick, List.filterMap_cons, List.filterMap_nil, u_irg, u_irgB, Int.reduceLE, Int.reduceLT, Int.reduceNeg, u_unT, u_unL, u_unW, u_max, u_min, u_abs, u_tup, u_lst, u_lc, u_app0, u_app, u_ext0, u_ext, u_par2, u_par3, u_zip, u_aug0, u_aug, u_aug2, u_ch, u_ch1, u_ch2, u_ch3, e_int, ne_int, e_bl, ne_bl, q_aa, q_af, q_ac, q_fa, q_ff, q_fc, q_ca, q_cf, q_cc, is_non, is_int, isn_non, isn_int, ix_t0, ix_t1, ix_t2, ix_l0, ix_l1, x_asc, x_kco, x_ite, decide_eq_true_eq, Bool.not_eq_true', decide_eq_false_iff_not, u_srT, u_srL, u_srW, isT, seqV, tupV, lstV, u_join, Option.getD, i]
theorem rw_2 (i : fIsi ["tuple"] (.fz T) = .ok (.fz (.bl true))) (sr : srcV (.fz T) = some ds) (hl : ds.length ≤ 1000000) (lc : lcL [1] (gSet 1) cYes EB ds [some (.fz T), none] = .ok (RW, [some (.fz T), none])) (fr : frzs RW = RD) (al : fAll [.fz (.lst RD)] = .ok (.fz (.bl b))) : cRet (cAnd (cUn (fIsi ["tuple"]) (cVar 0)) (cCallB fAll (cCons true (cLc [1] (iSeq (cVar 0)) (gSet 1) cYes EB) cNil))) [some (.fz T), none] = .ok (.ret (.fz (.bl b)), [some (.fz T), none]) := by
  simp only [v_bin6, v_bin5, v_bin4, v_bin3, v_bin2, v_bin1, v_bin, v_un3, v_un2, v_un1, v_un, v_test2, v_test1, v_test, v_cons3, v_cons2, v_cons1, v_cons, v_star4, v_star3, v_star2, v_star1, v_star, v_tup2, v_tup1, v_tup, v_lst2, v_lst1, v_lst, v_callB3, v_callB2, v_callB1, v_callB, v_andT1, v_andT, v_orT1, v_orT, v_notT1, v_notT, v_and2, v_and1, v_and, v_or2, v_or1, v_or, v_not2, v_not1, v_not, v_if1, v_if, v_orL1, v_orL, v_seq1, v_seq, v_ifS1, v_ifS, v_ret2, v_ret1, v_ret, v_drop1, v_drop, v_asg3, v_asg2, v_asg1, v_asg, v_gset1, v_gset, v_gsub5, v_gsub4, v_gsub3, v_gsub2, v_gsub1, v_gsub, v_gsc1, v_gsc, v_gsn1, v_gsn, v_for1, v_for, v_forc2, v_forc1, v_forc, v_lcT3, v_lcT2, v_lcT1, v_lcT, v_lc4, v_lc1, v_lc, v_def4, v_def3, v_def2, v_def1, v_def, v_callV4, v_callV3, v_callV2, v_callV1, v_callV, v_callP4, v_callP3, v_callP2, v_callP1, v_callP, v_callKV5, v_callKV4, v_callKV3, v_callKV2, v_callKV1, v_callKV, v_callKP5, v_callKP4, v_callKP3, v_callKP2, v_callKP1, v_callKP, v_callIO5, v_callIO4, v_callIO3, v_callIO2, v_callIO1, v_callIO, v_app7, v_app6, v_app5, v_app4, v_app3, v_app2, v_app1, v_app, v_sl6, v_sl5, v_sl4, v_sl3, v_sl2, v_sl1, v_sl, v_oS2, v_oS1, v_oS, v_iseq3, v_iseq2, v_iseq1, v_iseq, v_ienum3, v_ienum2, v_ienum1, v_ienum, v_irg1, v_irg, v_rgTup3, v_rgTup2, v_rgTup1, v_rgTup, v_argsc2, v_argsc1, v_argsc, v_putc1, v_putc, v_takesc2, v_takesc1, v_takesc, v_contsc2, v_contsc1, v_contsc, v_backsI2, v_backsI1, v_backsI, v_binF7, v_binF6, v_binF5, v_binF4, v_binF3, v_binF2, v_binF1, v_binF, v_par22, v_par21, v_par2, v_par32, v_par31, v_par3, v_ext8, v_ext7, v_ext6, v_ext5, v_ext4, v_ext3, v_ext2, v_ext1, v_ext, v_zip2, v_zip1, v_zip, v_irgB3, v_irgB2, v_irgB1, v_irgB, v_rgLst3, v_rgLst2, v_rgLst1, v_rgLst, v_rgTupB5, v_rgTupB4, v_rgTupB3, v_rgTupB2, v_rgTupB1, v_rgTupB, v_rgLstB5, v_rgLstB4, v_rgLstB3, v_rgLstB2, v_rgLstB1, v_rgLstB, v_ok, v_c, v_nil, v_next, v_yes, v_oN, v_gtup, v_var, v_for0, v_args0, v_put0, v_takes0, v_conts0, v_backs0, w_add, w_sub, w_neg, w_lt, w_le, w_gt, w_ge, w_intI, w_intB, w_ix0, w_ix1, w_ix2, w_i0, w_i1, w_i2, pend, cont, take, frz, frzs, getP, setP, Res.of, boolOf, isPl, mutS, mutP, intOf, move, retOf, backs1, put1, fzT, ioOf, chk, early, shut, isTmp, flatB, scal, List.map_cons, List.map_nil, List.cons_append, List.nil_append, List.append_nil, List.replicate_succ, List.replicate_zero, List.replicate, List.length_cons, List.length_nil, List.getElem?_cons_zero, List.getElem?_cons_succ, List.set_cons_zero, List.set_cons_succ, List.all_cons, List.all_nil, List.contains_cons, List.contains_nil, List.elem_cons, List.elem_nil, List.isEmpty_nil, List.isEmpty_cons, Nat.reduceAdd, Nat.reduceSub, Nat.reduceBEq, Nat.reduceLT, Nat.reduceLeDiff, Nat.reduceEqDiff, decide_true, decide_false, Bool.and_true, Bool.true_and, Bool.or_true, Bool.true_or, Bool.or_false, Bool.false_or, Bool.and_false, Bool.false_and, Bool.not_true, Bool.not_false, Bool.false_eq_true, reduceIte, ite_true, ite_false, beq_self_eq_true, Nat.zero_add, reduceCtorEq, and_self, true_and, and_true, ge_iff_le, gt_iff_lt, Nat.succ_eq_add_one, Nat.add_one_sub_one, Nat.zero_lt_succ, Nat.lt_add_left_iff_pos, wipeE, restE, pick, List.filterMap_cons, List.filterMap_nil, u_irg, u_irgB, Int.reduceLE, Int.reduceLT, Int.reduceNeg, u_unT, u_unL, u_unW, u_max, u_min, u_abs, u_tup, u_lst, u_lc, u_app0, u_app, u_ext0, u_ext, u_par2, u_par3, u_zip, u_aug0, u_aug, u_aug2, u_ch, u_ch1, u_ch2, u_ch3, e_int, ne_int, e_bl, ne_bl, q_aa, q_af, q_ac, q_fa, q_ff, q_fc, q_ca, q_cf, q_cc, is_non, is_int, isn_non, isn_int, ix_t0, ix_t1, ix_t2, ix_l0, ix_l1, x_asc, x_kco, x_ite, decide_eq_true_eq, Bool.not_eq_true', decide_eq_false_iff_not, u_srT, u_srL, u_srW, isT, seqV, tupV, lstV, u_join, Option.getD, i, sr, hl, lc, fr, al]
theorem e_r {d : D} {o : Option W} {b : Bool} (h : Fis_event [.fz d] = .ok (.fz (.bl b), [.fz d])) : Eis_row_1 [o, some (.fz d)] = .ok (.tmp (.fz (.bl b)), [o, some (.fz d)]) := by
  simp only [Eis_row_1, v_bin6, v_bin5, v_bin4, v_bin3, v_bin2, v_bin1, v_bin, v_un3, v_un2, v_un1, v_un, v_test2, v_test1, v_test, v_cons3, v_cons2, v_cons1, v_cons, v_star4, v_star3, v_star2, v_star1, v_star, v_tup2, v_tup1, v_tup, v_lst2, v_lst1, v_lst, v_callB3, v_callB2, v_callB1, v_callB, v_andT1, v_andT, v_orT1, v_orT, v_notT1, v_notT, v_and2, v_and1, v_and, v_or2, v_or1, v_or, v_not2, v_not1, v_not, v_if1, v_if, v_orL1, v_orL, v_seq1, v_seq, v_ifS1, v_ifS, v_ret2, v_ret1, v_ret, v_drop1, v_drop, v_asg3, v_asg2, v_asg1, v_asg, v_gset1, v_gset, v_gsub5, v_gsub4, v_gsub3, v_gsub2, v_gsub1, v_gsub, v_gsc1, v_gsc, v_gsn1, v_gsn, v_for1, v_for, v_forc2, v_forc1, v_forc, v_lcc2, v_lcc1, v_lcc, v_lcT3, v_lcT2, v_lcT1, v_lcT, v_lc4, v_lc1, v_lc, v_def4, v_def3, v_def2, v_def1, v_def, v_callV4, v_callV3, v_callV2, v_callV1, v_callV, v_callP4, v_callP3, v_callP2, v_callP1, v_callP, v_callKV5, v_callKV4, v_callKV3, v_callKV2, v_callKV1, v_callKV, v_callKP5, v_callKP4, v_callKP3, v_callKP2, v_callKP1, v_callKP, v_callIO5, v_callIO4, v_callIO3, v_callIO2, v_callIO1, v_callIO, v_app7, v_app6, v_app5, v_app4, v_app3, v_app2, v_app1, v_app, v_sl6, v_sl5, v_sl4, v_sl3, v_sl2, v_sl1, v_sl, v_oS2, v_oS1, v_oS, v_iseq3, v_iseq2, v_iseq1, v_iseq, v_ienum3, v_ienum2, v_ienum1, v_ienum, v_irg1, v_irg, v_rgTup3, v_rgTup2, v_rgTup1, v_rgTup, v_argsc2, v_argsc1, v_argsc, v_putc1, v_putc, v_takesc2, v_takesc1, v_takesc, v_contsc2, v_contsc1, v_contsc, v_backsI2, v_backsI1, v_backsI, v_binF7, v_binF6, v_binF5, v_binF4, v_binF3, v_binF2, v_binF1, v_binF, v_par22, v_par21, v_par2, v_par32, v_par31, v_par3, v_ext8, v_ext7, v_ext6, v_ext5, v_ext4, v_ext3, v_ext2, v_ext1, v_ext, v_zip2, v_zip1, v_zip, v_irgB3, v_irgB2, v_irgB1, v_irgB, v_rgLst3, v_rgLst2, v_rgLst1, v_rgLst, v_rgTupB5, v_rgTupB4, v_rgTupB3, v_rgTupB2, v_rgTupB1, v_rgTupB, v_rgLstB5, v_rgLstB4, v_rgLstB3, v_rgLstB2, v_rgLstB1, v_rgLstB, v_ok, v_c, v_nil, v_next, v_yes, v_oN, v_gtup, v_var, v_for0, v_lc0, v_args0, v_put0, v_takes0, v_conts0, v_backs0, w_add, w_sub, w_neg, w_lt, w_le, w_gt, w_ge, w_intI, w_intB, w_ix0, w_ix1, w_ix2, w_i0, w_i1, w_i2, pend, cont, take, frz, frzs, getP, setP, Res.of, boolOf, isPl, mutS, mutP, intOf, move, retOf, backs1, put1, fzT, ioOf, chk, early, shut, isTmp, flatB, scal, List.map_cons, List.map_nil, List.cons_append, List.nil_append, List.append_nil, List.replicate_succ, List.replicate_zero, List.replicate, List.length_cons, List.length_nil, List.getElem?_cons_zero, List.getElem?_cons_succ, List.set_cons_zero, List.set_cons_succ, List.all_cons, List.all_nil, List.contains_cons, List.contains_nil, List.elem_cons, List.elem_nil, List.isEmpty_nil, List.isEmpty_cons, Nat.reduceAdd, Nat.reduceSub, Nat.reduceBEq, Nat.reduceLT, Nat.reduceLeDiff, Nat.reduceEqDiff, decide_true, decide_false, Bool.and_true, Bool.true_and, Bool.or_true, Bool.true_or, Bool.or_false, Bool.false_or, Bool.and_false, Bool.false_and, Bool.not_true, Bool.not_false, Bool.false_eq_true, reduceIte, ite_true, ite_false, beq_self_eq_true, Nat.zero_add, reduceCtorEq, and_self, true_and, and_true, ge_iff_le, gt_iff_lt, Nat.succ_eq_add_one, Nat.add_one_sub_one, Nat.zero_lt_succ, Nat.lt_add_left_iff_pos, wipeE, restE, pick, List.filterMap_cons, List.filterMap_nil, u_irg, u_irgB, Int.reduceLE, Int.reduceLT, Int.reduceNeg, u_unT, u_unL, u_unW, u_max, u_min, u_abs, u_tup, u_lst, u_lc, u_app0, u_app, u_ext0, u_ext, u_par2, u_par3, u_zip, u_aug0, u_aug, u_aug2, u_ch, u_ch1, u_ch2, u_ch3, e_int, ne_int, e_bl, ne_bl, q_aa, q_af, q_ac, q_fa, q_ff, q_fc, q_ca, q_cf, q_cc, is_non, is_int, isn_non, isn_int, ix_t0, ix_t1, ix_t2, ix_l0, ix_l1, x_asc, x_kco, x_ite, decide_eq_true_eq, Bool.not_eq_true', decide_eq_false_iff_not, u_srT, u_srL, u_srW, isT, seqV, tupV, lstV, u_join, Option.getD, h]
theorem e_v {d : D} {o : Option W} {b : Bool} (h : F_law_is_entry [.fz d] = .ok (.fz (.bl b), [.fz d])) : E_law_is_verse_1 [o, some (.fz d)] = .ok (.tmp (.fz (.bl b)), [o, some (.fz d)]) := by
  simp only [E_law_is_verse_1, v_bin6, v_bin5, v_bin4, v_bin3, v_bin2, v_bin1, v_bin, v_un3, v_un2, v_un1, v_un, v_test2, v_test1, v_test, v_cons3, v_cons2, v_cons1, v_cons, v_star4, v_star3, v_star2, v_star1, v_star, v_tup2, v_tup1, v_tup, v_lst2, v_lst1, v_lst, v_callB3, v_callB2, v_callB1, v_callB, v_andT1, v_andT, v_orT1, v_orT, v_notT1, v_notT, v_and2, v_and1, v_and, v_or2, v_or1, v_or, v_not2, v_not1, v_not, v_if1, v_if, v_orL1, v_orL, v_seq1, v_seq, v_ifS1, v_ifS, v_ret2, v_ret1, v_ret, v_drop1, v_drop, v_asg3, v_asg2, v_asg1, v_asg, v_gset1, v_gset, v_gsub5, v_gsub4, v_gsub3, v_gsub2, v_gsub1, v_gsub, v_gsc1, v_gsc, v_gsn1, v_gsn, v_for1, v_for, v_forc2, v_forc1, v_forc, v_lcc2, v_lcc1, v_lcc, v_lcT3, v_lcT2, v_lcT1, v_lcT, v_lc4, v_lc1, v_lc, v_def4, v_def3, v_def2, v_def1, v_def, v_callV4, v_callV3, v_callV2, v_callV1, v_callV, v_callP4, v_callP3, v_callP2, v_callP1, v_callP, v_callKV5, v_callKV4, v_callKV3, v_callKV2, v_callKV1, v_callKV, v_callKP5, v_callKP4, v_callKP3, v_callKP2, v_callKP1, v_callKP, v_callIO5, v_callIO4, v_callIO3, v_callIO2, v_callIO1, v_callIO, v_app7, v_app6, v_app5, v_app4, v_app3, v_app2, v_app1, v_app, v_sl6, v_sl5, v_sl4, v_sl3, v_sl2, v_sl1, v_sl, v_oS2, v_oS1, v_oS, v_iseq3, v_iseq2, v_iseq1, v_iseq, v_ienum3, v_ienum2, v_ienum1, v_ienum, v_irg1, v_irg, v_rgTup3, v_rgTup2, v_rgTup1, v_rgTup, v_argsc2, v_argsc1, v_argsc, v_putc1, v_putc, v_takesc2, v_takesc1, v_takesc, v_contsc2, v_contsc1, v_contsc, v_backsI2, v_backsI1, v_backsI, v_binF7, v_binF6, v_binF5, v_binF4, v_binF3, v_binF2, v_binF1, v_binF, v_par22, v_par21, v_par2, v_par32, v_par31, v_par3, v_ext8, v_ext7, v_ext6, v_ext5, v_ext4, v_ext3, v_ext2, v_ext1, v_ext, v_zip2, v_zip1, v_zip, v_irgB3, v_irgB2, v_irgB1, v_irgB, v_rgLst3, v_rgLst2, v_rgLst1, v_rgLst, v_rgTupB5, v_rgTupB4, v_rgTupB3, v_rgTupB2, v_rgTupB1, v_rgTupB, v_rgLstB5, v_rgLstB4, v_rgLstB3, v_rgLstB2, v_rgLstB1, v_rgLstB, v_ok, v_c, v_nil, v_next, v_yes, v_oN, v_gtup, v_var, v_for0, v_lc0, v_args0, v_put0, v_takes0, v_conts0, v_backs0, w_add, w_sub, w_neg, w_lt, w_le, w_gt, w_ge, w_intI, w_intB, w_ix0, w_ix1, w_ix2, w_i0, w_i1, w_i2, pend, cont, take, frz, frzs, getP, setP, Res.of, boolOf, isPl, mutS, mutP, intOf, move, retOf, backs1, put1, fzT, ioOf, chk, early, shut, isTmp, flatB, scal, List.map_cons, List.map_nil, List.cons_append, List.nil_append, List.append_nil, List.replicate_succ, List.replicate_zero, List.replicate, List.length_cons, List.length_nil, List.getElem?_cons_zero, List.getElem?_cons_succ, List.set_cons_zero, List.set_cons_succ, List.all_cons, List.all_nil, List.contains_cons, List.contains_nil, List.elem_cons, List.elem_nil, List.isEmpty_nil, List.isEmpty_cons, Nat.reduceAdd, Nat.reduceSub, Nat.reduceBEq, Nat.reduceLT, Nat.reduceLeDiff, Nat.reduceEqDiff, decide_true, decide_false, Bool.and_true, Bool.true_and, Bool.or_true, Bool.true_or, Bool.or_false, Bool.false_or, Bool.and_false, Bool.false_and, Bool.not_true, Bool.not_false, Bool.false_eq_true, reduceIte, ite_true, ite_false, beq_self_eq_true, Nat.zero_add, reduceCtorEq, and_self, true_and, and_true, ge_iff_le, gt_iff_lt, Nat.succ_eq_add_one, Nat.add_one_sub_one, Nat.zero_lt_succ, Nat.lt_add_left_iff_pos, wipeE, restE, pick, List.filterMap_cons, List.filterMap_nil, u_irg, u_irgB, Int.reduceLE, Int.reduceLT, Int.reduceNeg, u_unT, u_unL, u_unW, u_max, u_min, u_abs, u_tup, u_lst, u_lc, u_app0, u_app, u_ext0, u_ext, u_par2, u_par3, u_zip, u_aug0, u_aug, u_aug2, u_ch, u_ch1, u_ch2, u_ch3, e_int, ne_int, e_bl, ne_bl, q_aa, q_af, q_ac, q_fa, q_ff, q_fc, q_ca, q_cf, q_cc, is_non, is_int, isn_non, isn_int, ix_t0, ix_t1, ix_t2, ix_l0, ix_l1, x_asc, x_kco, x_ite, decide_eq_true_eq, Bool.not_eq_true', decide_eq_false_iff_not, u_srT, u_srL, u_srW, isT, seqV, tupV, lstV, u_join, Option.getD, h]
end
theorem row_is {k n : Nat} {d : D} (hk : k ≤ 1000) (h : PL k n d) : Fis_row [.fz d] = .ok (.fz (.bl (isV d)), [.fz d]) ∧ F_law_is_verse [.fz d] = .ok (.fz (.bl (isV d)), [.fz d]) := by
  have i := ty_tu h
  by_cases c : isTu d = false
  · rw [c] at i
    have e : isV d = false := by cases d <;> first | rfl | cases c
    rw [e]
    exact ⟨run1' (n := 1) (rw_1 i), run1' (n := 1) (rw_1 i)⟩
  · cases n with
    | zero => exact h.elim
    | succ n => cases d with
      | tup ds =>
        rw [show isTu (.tup ds) = true from rfl] at i
        have hl := h.1
        have l1 := lc_gen2 (vs := [1]) (g := gSet 1) (ce := Eis_row_1) (ρ := [some (.fz (.tup ds)), none]) (f := fun d : D => d) (w := fun d => W.fz (.bl (isE d))) ds fun d hd => ⟨[some (.fz (.tup ds)), some (.fz d)], rfl, rfl, e_r (event_is (h.2 d hd)).1⟩
        have l2 := lc_gen2 (vs := [1]) (g := gSet 1) (ce := E_law_is_verse_1) (ρ := [some (.fz (.tup ds)), none]) (f := fun d : D => d) (w := fun d => W.fz (.bl (isE d))) ds fun d hd => ⟨[some (.fz (.tup ds)), some (.fz d)], rfl, rfl, e_v (event_is (h.2 d hd)).2⟩
        rw [List.map_id'] at l1 l2
        have fr : frzs (ds.map fun d => W.fz (.bl (isE d))) = ds.map fun d => D.bl (isE d) := frzs_fz (fun d => D.bl (isE d)) ds
        exact ⟨run1' (n := 1) (rw_2 i rfl (by omega) l1 fr (bls_all ds isE)), run1' (n := 1) (rw_2 i rfl (by omega) l2 fr (bls_all ds isE))⟩
      | _ => exact absurd rfl c
end Gn
namespace Gn
open Mi PySem
abbrev Row := List (Wd × Int)
theorem behind_ok {k : Bool} {l : Int} {e : Wd × Int} : Fbehind [.fz (.int l), .fz (eE k e)] = .ok (.fz (.int (stp l e)), [.fz (.int l), .fz (eE k e)]) := by
  obtain ⟨w, n⟩ := e
  cases w <;> simp only [Fbehind, mbehind, ix_e0, ix_e1, q_wa, q_wf, stp, v_bin6, v_bin5, v_bin4, v_bin3, v_bin2, v_bin1, v_bin, v_un3, v_un2, v_un1, v_un, v_test2, v_test1, v_test, v_cons3, v_cons2, v_cons1, v_cons, v_star4, v_star3, v_star2, v_star1, v_star, v_tup2, v_tup1, v_tup, v_lst2, v_lst1, v_lst, v_callB3, v_callB2, v_callB1, v_callB, v_andT1, v_andT, v_orT1, v_orT, v_notT1, v_notT, v_and2, v_and1, v_and, v_or2, v_or1, v_or, v_not2, v_not1, v_not, v_if1, v_if, v_orL1, v_orL, v_seq1, v_seq, v_ifS1, v_ifS, v_ret2, v_ret1, v_ret, v_drop1, v_drop, v_asg3, v_asg2, v_asg1, v_asg, v_gset1, v_gset, v_gsub5, v_gsub4, v_gsub3, v_gsub2, v_gsub1, v_gsub, v_gsc1, v_gsc, v_gsn1, v_gsn, v_for1, v_for, v_forc2, v_forc1, v_forc, v_lcc2, v_lcc1, v_lcc, v_lcT3, v_lcT2, v_lcT1, v_lcT, v_lc4, v_lc1, v_lc, v_def4, v_def3, v_def2, v_def1, v_def, v_callV4, v_callV3, v_callV2, v_callV1, v_callV, v_callP4, v_callP3, v_callP2, v_callP1, v_callP, v_callKV5, v_callKV4, v_callKV3, v_callKV2, v_callKV1, v_callKV, v_callKP5, v_callKP4, v_callKP3, v_callKP2, v_callKP1, v_callKP, v_callIO5, v_callIO4, v_callIO3, v_callIO2, v_callIO1, v_callIO, v_app7, v_app6, v_app5, v_app4, v_app3, v_app2, v_app1, v_app, v_sl6, v_sl5, v_sl4, v_sl3, v_sl2, v_sl1, v_sl, v_oS2, v_oS1, v_oS, v_iseq3, v_iseq2, v_iseq1, v_iseq, v_ienum3, v_ienum2, v_ienum1, v_ienum, v_irg1, v_irg, v_rgTup3, v_rgTup2, v_rgTup1, v_rgTup, v_argsc2, v_argsc1, v_argsc, v_putc1, v_putc, v_takesc2, v_takesc1, v_takesc, v_contsc2, v_contsc1, v_contsc, v_backsI2, v_backsI1, v_backsI, v_binF7, v_binF6, v_binF5, v_binF4, v_binF3, v_binF2, v_binF1, v_binF, v_par22, v_par21, v_par2, v_par32, v_par31, v_par3, v_ext8, v_ext7, v_ext6, v_ext5, v_ext4, v_ext3, v_ext2, v_ext1, v_ext, v_zip2, v_zip1, v_zip, v_irgB3, v_irgB2, v_irgB1, v_irgB, v_rgLst3, v_rgLst2, v_rgLst1, v_rgLst, v_rgTupB5, v_rgTupB4, v_rgTupB3, v_rgTupB2, v_rgTupB1, v_rgTupB, v_rgLstB5, v_rgLstB4, v_rgLstB3, v_rgLstB2, v_rgLstB1, v_rgLstB, v_ok, v_c, v_nil, v_next, v_yes, v_oN, v_gtup, v_var, v_for0, v_lc0, v_args0, v_put0, v_takes0, v_conts0, v_backs0, w_add, w_sub, w_neg, w_lt, w_le, w_gt, w_ge, w_intI, w_intB, w_ix0, w_ix1, w_ix2, w_i0, w_i1, w_i2, pend, cont, take, frz, frzs, getP, setP, Res.of, boolOf, isPl, mutS, mutP, intOf, move, retOf, backs1, put1, fzT, ioOf, chk, early, shut, isTmp, flatB, scal, List.map_cons, List.map_nil, List.cons_append, List.nil_append, List.append_nil, List.replicate_succ, List.replicate_zero, List.replicate, List.length_cons, List.length_nil, List.getElem?_cons_zero, List.getElem?_cons_succ, List.set_cons_zero, List.set_cons_succ, List.all_cons, List.all_nil, List.contains_cons, List.contains_nil, List.elem_cons, List.elem_nil, List.isEmpty_nil, List.isEmpty_cons, Nat.reduceAdd, Nat.reduceSub, Nat.reduceBEq, Nat.reduceLT, Nat.reduceLeDiff, Nat.reduceEqDiff, decide_true, decide_false, Bool.and_true, Bool.true_and, Bool.or_true, Bool.true_or, Bool.or_false, Bool.false_or, Bool.and_false, Bool.false_and, Bool.not_true, Bool.not_false, Bool.false_eq_true, reduceIte, ite_true, ite_false, beq_self_eq_true, Nat.zero_add, reduceCtorEq, and_self, true_and, and_true, ge_iff_le, gt_iff_lt, Nat.succ_eq_add_one, Nat.add_one_sub_one, Nat.zero_lt_succ, Nat.lt_add_left_iff_pos, wipeE, restE, pick, List.filterMap_cons, List.filterMap_nil, u_irg, u_irgB, Int.reduceLE, Int.reduceLT, Int.reduceNeg, u_unT, u_unL, u_unW, u_max, u_min, u_abs, u_tup, u_lst, u_lc, u_app0, u_app, u_ext0, u_ext, u_par2, u_par3, u_zip, u_aug0, u_aug, u_aug2, u_ch, u_ch1, u_ch2, u_ch3, e_int, ne_int, e_bl, ne_bl, q_aa, q_af, q_ac, q_fa, q_ff, q_fc, q_ca, q_cf, q_cc, is_non, is_int, isn_non, isn_int, ix_t0, ix_t1, ix_t2, ix_l0, ix_l1, x_asc, x_kco, x_ite, decide_eq_true_eq, Bool.not_eq_true', decide_eq_false_iff_not, u_srT, u_srL, u_srW, isT, seqV, tupV, lstV, u_join, Option.getD]
theorem end_loop {R S : Option W} {k : Bool} : ∀ (r : List (Wd × Int)) (x : Int) (o : Option W), ∃ o' : Option W, forL (gSet 3) Lend_of_1 (r.map (eE k)) [R, S, some (.fz (.int x)), o] = .ok (.nx, [R, S, some (.fz (.int (r.foldl stp x))), o'])
  | [], x, o => ⟨o, rfl⟩
  | e :: r, x, o => by
    have b := behind_ok (k := k) (l := x) (e := e)
    obtain ⟨o', ih⟩ := end_loop (R := R) (S := S) (k := k) r (stp x e) (some (.fz (eE k e)))
    refine ⟨o', ?_⟩
    rw [List.foldl_cons, List.map_cons]
    generalize eE k e = q at *
    generalize r.foldl stp (stp x e) = y at *
    simp only [Lend_of_1, v_bin6, v_bin5, v_bin4, v_bin3, v_bin2, v_bin1, v_bin, v_un3, v_un2, v_un1, v_un, v_test2, v_test1, v_test, v_cons3, v_cons2, v_cons1, v_cons, v_star4, v_star3, v_star2, v_star1, v_star, v_tup2, v_tup1, v_tup, v_lst2, v_lst1, v_lst, v_callB3, v_callB2, v_callB1, v_callB, v_andT1, v_andT, v_orT1, v_orT, v_notT1, v_notT, v_and2, v_and1, v_and, v_or2, v_or1, v_or, v_not2, v_not1, v_not, v_if1, v_if, v_orL1, v_orL, v_seq1, v_seq, v_ifS1, v_ifS, v_ret2, v_ret1, v_ret, v_drop1, v_drop, v_asg3, v_asg2, v_asg1, v_asg, v_gset1, v_gset, v_gsub5, v_gsub4, v_gsub3, v_gsub2, v_gsub1, v_gsub, v_gsc1, v_gsc, v_gsn1, v_gsn, v_for1, v_for, v_forc2, v_forc1, v_forc, v_lcc2, v_lcc1, v_lcc, v_lcT3, v_lcT2, v_lcT1, v_lcT, v_lc4, v_lc1, v_lc, v_def4, v_def3, v_def2, v_def1, v_def, v_callV4, v_callV3, v_callV2, v_callV1, v_callV, v_callP4, v_callP3, v_callP2, v_callP1, v_callP, v_callKV5, v_callKV4, v_callKV3, v_callKV2, v_callKV1, v_callKV, v_callKP5, v_callKP4, v_callKP3, v_callKP2, v_callKP1, v_callKP, v_callIO5, v_callIO4, v_callIO3, v_callIO2, v_callIO1, v_callIO, v_app7, v_app6, v_app5, v_app4, v_app3, v_app2, v_app1, v_app, v_sl6, v_sl5, v_sl4, v_sl3, v_sl2, v_sl1, v_sl, v_oS2, v_oS1, v_oS, v_iseq3, v_iseq2, v_iseq1, v_iseq, v_ienum3, v_ienum2, v_ienum1, v_ienum, v_irg1, v_irg, v_rgTup3, v_rgTup2, v_rgTup1, v_rgTup, v_argsc2, v_argsc1, v_argsc, v_putc1, v_putc, v_takesc2, v_takesc1, v_takesc, v_contsc2, v_contsc1, v_contsc, v_backsI2, v_backsI1, v_backsI, v_binF7, v_binF6, v_binF5, v_binF4, v_binF3, v_binF2, v_binF1, v_binF, v_par22, v_par21, v_par2, v_par32, v_par31, v_par3, v_ext8, v_ext7, v_ext6, v_ext5, v_ext4, v_ext3, v_ext2, v_ext1, v_ext, v_zip2, v_zip1, v_zip, v_irgB3, v_irgB2, v_irgB1, v_irgB, v_rgLst3, v_rgLst2, v_rgLst1, v_rgLst, v_rgTupB5, v_rgTupB4, v_rgTupB3, v_rgTupB2, v_rgTupB1, v_rgTupB, v_rgLstB5, v_rgLstB4, v_rgLstB3, v_rgLstB2, v_rgLstB1, v_rgLstB, v_ok, v_c, v_nil, v_next, v_yes, v_oN, v_gtup, v_var, v_for0, v_lc0, v_args0, v_put0, v_takes0, v_conts0, v_backs0, w_add, w_sub, w_neg, w_lt, w_le, w_gt, w_ge, w_intI, w_intB, w_ix0, w_ix1, w_ix2, w_i0, w_i1, w_i2, pend, cont, take, frz, frzs, getP, setP, Res.of, boolOf, isPl, mutS, mutP, intOf, move, retOf, backs1, put1, fzT, ioOf, chk, early, shut, isTmp, flatB, scal, List.map_cons, List.map_nil, List.cons_append, List.nil_append, List.append_nil, List.replicate_succ, List.replicate_zero, List.replicate, List.length_cons, List.length_nil, List.getElem?_cons_zero, List.getElem?_cons_succ, List.set_cons_zero, List.set_cons_succ, List.all_cons, List.all_nil, List.contains_cons, List.contains_nil, List.elem_cons, List.elem_nil, List.isEmpty_nil, List.isEmpty_cons, Nat.reduceAdd, Nat.reduceSub, Nat.reduceBEq, Nat.reduceLT, Nat.reduceLeDiff, Nat.reduceEqDiff, decide_true, decide_false, Bool.and_true, Bool.true_and, Bool.or_true, Bool.true_or, Bool.or_false, Bool.false_or, Bool.and_false, Bool.false_and, Bool.not_true, Bool.not_false, Bool.false_eq_true, reduceIte, ite_true, ite_false, beq_self_eq_true, Nat.zero_add, reduceCtorEq, and_self, true_and, and_true, ge_iff_le, gt_iff_lt, Nat.succ_eq_add_one, Nat.add_one_sub_one, Nat.zero_lt_succ, Nat.lt_add_left_iff_pos, wipeE, restE, pick, List.filterMap_cons, List.filterMap_nil, u_irg, u_irgB, Int.reduceLE, Int.reduceLT, Int.reduceNeg, u_unT, u_unL, u_unW, u_max, u_min, u_abs, u_tup, u_lst, u_lc, u_app0, u_app, u_ext0, u_ext, u_par2, u_par3, u_zip, u_aug0, u_aug, u_aug2, u_ch, u_ch1, u_ch2, u_ch3, e_int, ne_int, e_bl, ne_bl, q_aa, q_af, q_ac, q_fa, q_ff, q_fc, q_ca, q_cf, q_cc, is_non, is_int, isn_non, isn_int, ix_t0, ix_t1, ix_t2, ix_l0, ix_l1, x_asc, x_kco, x_ite, decide_eq_true_eq, Bool.not_eq_true', decide_eq_false_iff_not, u_srT, u_srL, u_srW, isT, seqV, tupV, lstV, u_join, Option.getD, b, ih]
theorem end_ok {k : Bool} {r : List (Wd × Int)} {x : Int} : Fend_of [.fz (eR k r), .fz (.int x)] = .ok (.fz (.int (r.foldl stp x)), [.fz (eR k r), .fz (.int x)]) := by
  obtain ⟨o', e⟩ := end_loop (R := some (.fz (eR k r))) (S := some (.fz (.int x))) (k := k) r x none
  have sr := src_R (k := k) (r := r)
  generalize eR k r = q at *
  generalize r.map (eE k) = L at *
  generalize r.foldl stp x = y at *
  simp only [Fend_of, mend_of, v_bin6, v_bin5, v_bin4, v_bin3, v_bin2, v_bin1, v_bin, v_un3, v_un2, v_un1, v_un, v_test2, v_test1, v_test, v_cons3, v_cons2, v_cons1, v_cons, v_star4, v_star3, v_star2, v_star1, v_star, v_tup2, v_tup1, v_tup, v_lst2, v_lst1, v_lst, v_callB3, v_callB2, v_callB1, v_callB, v_andT1, v_andT, v_orT1, v_orT, v_notT1, v_notT, v_and2, v_and1, v_and, v_or2, v_or1, v_or, v_not2, v_not1, v_not, v_if1, v_if, v_orL1, v_orL, v_seq1, v_seq, v_ifS1, v_ifS, v_ret2, v_ret1, v_ret, v_drop1, v_drop, v_asg3, v_asg2, v_asg1, v_asg, v_gset1, v_gset, v_gsub5, v_gsub4, v_gsub3, v_gsub2, v_gsub1, v_gsub, v_gsc1, v_gsc, v_gsn1, v_gsn, v_for1, v_for, v_forc2, v_forc1, v_lcc2, v_lcc1, v_lcc, v_lcT3, v_lcT2, v_lcT1, v_lcT, v_lc4, v_lc1, v_lc, v_def4, v_def3, v_def2, v_def1, v_def, v_callV4, v_callV3, v_callV2, v_callV1, v_callV, v_callP4, v_callP3, v_callP2, v_callP1, v_callP, v_callKV5, v_callKV4, v_callKV3, v_callKV2, v_callKV1, v_callKV, v_callKP5, v_callKP4, v_callKP3, v_callKP2, v_callKP1, v_callKP, v_callIO5, v_callIO4, v_callIO3, v_callIO2, v_callIO1, v_callIO, v_app7, v_app6, v_app5, v_app4, v_app3, v_app2, v_app1, v_app, v_sl6, v_sl5, v_sl4, v_sl3, v_sl2, v_sl1, v_sl, v_oS2, v_oS1, v_oS, v_iseq3, v_iseq2, v_iseq1, v_iseq, v_ienum3, v_ienum2, v_ienum1, v_ienum, v_irg1, v_irg, v_rgTup3, v_rgTup2, v_rgTup1, v_rgTup, v_argsc2, v_argsc1, v_argsc, v_putc1, v_putc, v_takesc2, v_takesc1, v_takesc, v_contsc2, v_contsc1, v_contsc, v_backsI2, v_backsI1, v_backsI, v_binF7, v_binF6, v_binF5, v_binF4, v_binF3, v_binF2, v_binF1, v_binF, v_par22, v_par21, v_par2, v_par32, v_par31, v_par3, v_ext8, v_ext7, v_ext6, v_ext5, v_ext4, v_ext3, v_ext2, v_ext1, v_ext, v_zip2, v_zip1, v_zip, v_irgB3, v_irgB2, v_irgB1, v_irgB, v_rgLst3, v_rgLst2, v_rgLst1, v_rgLst, v_rgTupB5, v_rgTupB4, v_rgTupB3, v_rgTupB2, v_rgTupB1, v_rgTupB, v_rgLstB5, v_rgLstB4, v_rgLstB3, v_rgLstB2, v_rgLstB1, v_rgLstB, v_ok, v_c, v_nil, v_next, v_yes, v_oN, v_gtup, v_var, v_for0, v_lc0, v_args0, v_put0, v_takes0, v_conts0, v_backs0, w_add, w_sub, w_neg, w_lt, w_le, w_gt, w_ge, w_intI, w_intB, w_ix0, w_ix1, w_ix2, w_i0, w_i1, w_i2, pend, cont, take, frz, frzs, getP, setP, Res.of, boolOf, isPl, mutS, mutP, intOf, move, retOf, backs1, put1, fzT, ioOf, chk, early, shut, isTmp, flatB, scal, List.map_cons, List.map_nil, List.cons_append, List.nil_append, List.append_nil, List.replicate_succ, List.replicate_zero, List.replicate, List.length_cons, List.length_nil, List.getElem?_cons_zero, List.getElem?_cons_succ, List.set_cons_zero, List.set_cons_succ, List.all_cons, List.all_nil, List.contains_cons, List.contains_nil, List.elem_cons, List.elem_nil, List.isEmpty_nil, List.isEmpty_cons, Nat.reduceAdd, Nat.reduceSub, Nat.reduceBEq, Nat.reduceLT, Nat.reduceLeDiff, Nat.reduceEqDiff, decide_true, decide_false, Bool.and_true, Bool.true_and, Bool.or_true, Bool.true_or, Bool.or_false, Bool.false_or, Bool.and_false, Bool.false_and, Bool.not_true, Bool.not_false, Bool.false_eq_true, reduceIte, ite_true, ite_false, beq_self_eq_true, Nat.zero_add, reduceCtorEq, and_self, true_and, and_true, ge_iff_le, gt_iff_lt, Nat.succ_eq_add_one, Nat.add_one_sub_one, Nat.zero_lt_succ, Nat.lt_add_left_iff_pos, wipeE, restE, pick, List.filterMap_cons, List.filterMap_nil, u_irg, u_irgB, Int.reduceLE, Int.reduceLT, Int.reduceNeg, u_unT, u_unL, u_unW, u_max, u_min, u_abs, u_tup, u_lst, u_lc, u_app0, u_app, u_ext0, u_ext, u_par2, u_par3, u_zip, u_aug0, u_aug, u_aug2, u_ch, u_ch1, u_ch2, u_ch3, e_int, ne_int, e_bl, ne_bl, q_aa, q_af, q_ac, q_fa, q_ff, q_fc, q_ca, q_cf, q_cc, is_non, is_int, isn_non, isn_int, ix_t0, ix_t1, ix_t2, ix_l0, ix_l1, x_asc, x_kco, x_ite, decide_eq_true_eq, Bool.not_eq_true', decide_eq_false_iff_not, u_srT, u_srL, u_srW, isT, seqV, tupV, lstV, u_join, Option.getD, sr, e]
theorem on_ok {k : Bool} {e : Wd × Int} {x : Int} : F_law_on [.fz (.int x), .fz (eE k e)] = .ok (.fz (.int (stp x e)), [.fz (.int x), .fz (eE k e)]) := by
  obtain ⟨w, n⟩ := e
  cases w with
  | add => simp only [F_law_on, m_law_on, ix_e0, ix_e1, q_wa, q_wf, stp, v_bin6, v_bin5, v_bin4, v_bin3, v_bin2, v_bin1, v_bin, v_un3, v_un2, v_un1, v_un, v_test2, v_test1, v_test, v_cons3, v_cons2, v_cons1, v_cons, v_star4, v_star3, v_star2, v_star1, v_star, v_tup2, v_tup1, v_tup, v_lst2, v_lst1, v_lst, v_callB3, v_callB2, v_callB1, v_callB, v_andT1, v_andT, v_orT1, v_orT, v_notT1, v_notT, v_and2, v_and1, v_and, v_or2, v_or1, v_or, v_not2, v_not1, v_not, v_if1, v_if, v_orL1, v_orL, v_seq1, v_seq, v_ifS1, v_ifS, v_ret2, v_ret1, v_ret, v_drop1, v_drop, v_asg3, v_asg2, v_asg1, v_asg, v_gset1, v_gset, v_gsub5, v_gsub4, v_gsub3, v_gsub2, v_gsub1, v_gsub, v_gsc1, v_gsc, v_gsn1, v_gsn, v_for1, v_for, v_forc2, v_forc1, v_forc, v_lcc2, v_lcc1, v_lcc, v_lcT3, v_lcT2, v_lcT1, v_lcT, v_lc4, v_lc1, v_lc, v_def4, v_def3, v_def2, v_def1, v_def, v_callV4, v_callV3, v_callV2, v_callV1, v_callV, v_callP4, v_callP3, v_callP2, v_callP1, v_callP, v_callKV5, v_callKV4, v_callKV3, v_callKV2, v_callKV1, v_callKV, v_callKP5, v_callKP4, v_callKP3, v_callKP2, v_callKP1, v_callKP, v_callIO5, v_callIO4, v_callIO3, v_callIO2, v_callIO1, v_callIO, v_app7, v_app6, v_app5, v_app4, v_app3, v_app2, v_app1, v_app, v_sl6, v_sl5, v_sl4, v_sl3, v_sl2, v_sl1, v_sl, v_oS2, v_oS1, v_oS, v_iseq3, v_iseq2, v_iseq1, v_iseq, v_ienum3, v_ienum2, v_ienum1, v_ienum, v_irg1, v_irg, v_rgTup3, v_rgTup2, v_rgTup1, v_rgTup, v_argsc2, v_argsc1, v_argsc, v_putc1, v_putc, v_takesc2, v_takesc1, v_takesc, v_contsc2, v_contsc1, v_contsc, v_backsI2, v_backsI1, v_backsI, v_binF7, v_binF6, v_binF5, v_binF4, v_binF3, v_binF2, v_binF1, v_binF, v_par22, v_par21, v_par2, v_par32, v_par31, v_par3, v_ext8, v_ext7, v_ext6, v_ext5, v_ext4, v_ext3, v_ext2, v_ext1, v_ext, v_zip2, v_zip1, v_zip, v_irgB3, v_irgB2, v_irgB1, v_irgB, v_rgLst3, v_rgLst2, v_rgLst1, v_rgLst, v_rgTupB5, v_rgTupB4, v_rgTupB3, v_rgTupB2, v_rgTupB1, v_rgTupB, v_rgLstB5, v_rgLstB4, v_rgLstB3, v_rgLstB2, v_rgLstB1, v_rgLstB, v_ok, v_c, v_nil, v_next, v_yes, v_oN, v_gtup, v_var, v_for0, v_lc0, v_args0, v_put0, v_takes0, v_conts0, v_backs0, w_add, w_sub, w_neg, w_lt, w_le, w_gt, w_ge, w_intI, w_intB, w_ix0, w_ix1, w_ix2, w_i0, w_i1, w_i2, pend, cont, take, frz, frzs, getP, setP, Res.of, boolOf, isPl, mutS, mutP, intOf, move, retOf, backs1, put1, fzT, ioOf, chk, early, shut, isTmp, flatB, scal, List.map_cons, List.map_nil, List.cons_append, List.nil_append, List.append_nil, List.replicate_succ, List.replicate_zero, List.replicate, List.length_cons, List.length_nil, List.getElem?_cons_zero, List.getElem?_cons_succ, List.set_cons_zero, List.set_cons_succ, List.all_cons, List.all_nil, List.contains_cons, List.contains_nil, List.elem_cons, List.elem_nil, List.isEmpty_nil, List.isEmpty_cons, Nat.reduceAdd, Nat.reduceSub, Nat.reduceBEq, Nat.reduceLT, Nat.reduceLeDiff, Nat.reduceEqDiff, decide_true, decide_false, Bool.and_true, Bool.true_and, Bool.or_true, Bool.true_or, Bool.or_false, Bool.false_or, Bool.and_false, Bool.false_and, Bool.not_true, Bool.not_false, Bool.false_eq_true, reduceIte, ite_true, ite_false, beq_self_eq_true, Nat.zero_add, reduceCtorEq, and_self, true_and, and_true, ge_iff_le, gt_iff_lt, Nat.succ_eq_add_one, Nat.add_one_sub_one, Nat.zero_lt_succ, Nat.lt_add_left_iff_pos, wipeE, restE, pick, List.filterMap_cons, List.filterMap_nil, u_irg, u_irgB, Int.reduceLE, Int.reduceLT, Int.reduceNeg, u_unT, u_unL, u_unW, u_max, u_min, u_abs, u_tup, u_lst, u_lc, u_app0, u_app, u_ext0, u_ext, u_par2, u_par3, u_zip, u_aug0, u_aug, u_aug2, u_ch, u_ch1, u_ch2, u_ch3, e_int, ne_int, e_bl, ne_bl, q_aa, q_af, q_ac, q_fa, q_ff, q_fc, q_ca, q_cf, q_cc, is_non, is_int, isn_non, isn_int, ix_t0, ix_t1, ix_t2, ix_l0, ix_l1, x_asc, x_kco, x_ite, decide_eq_true_eq, Bool.not_eq_true', decide_eq_false_iff_not, u_srT, u_srL, u_srW, isT, seqV, tupV, lstV, u_join, Option.getD]
  | flo =>
    by_cases c : x < n
    · have et : stp x (.flo, n) = n := by show max x n = n; omega
      rw [et]
      simp only [F_law_on, m_law_on, ix_e0, ix_e1, q_wa, q_wf, v_bin6, v_bin5, v_bin4, v_bin3, v_bin2, v_bin1, v_bin, v_un3, v_un2, v_un1, v_un, v_test2, v_test1, v_test, v_cons3, v_cons2, v_cons1, v_cons, v_star4, v_star3, v_star2, v_star1, v_star, v_tup2, v_tup1, v_tup, v_lst2, v_lst1, v_lst, v_callB3, v_callB2, v_callB1, v_callB, v_andT1, v_andT, v_orT1, v_orT, v_notT1, v_notT, v_and2, v_and1, v_and, v_or2, v_or1, v_or, v_not2, v_not1, v_not, v_if1, v_if, v_orL1, v_orL, v_seq1, v_seq, v_ifS1, v_ifS, v_ret2, v_ret1, v_ret, v_drop1, v_drop, v_asg3, v_asg2, v_asg1, v_asg, v_gset1, v_gset, v_gsub5, v_gsub4, v_gsub3, v_gsub2, v_gsub1, v_gsub, v_gsc1, v_gsc, v_gsn1, v_gsn, v_for1, v_for, v_forc2, v_forc1, v_forc, v_lcc2, v_lcc1, v_lcc, v_lcT3, v_lcT2, v_lcT1, v_lcT, v_lc4, v_lc1, v_lc, v_def4, v_def3, v_def2, v_def1, v_def, v_callV4, v_callV3, v_callV2, v_callV1, v_callV, v_callP4, v_callP3, v_callP2, v_callP1, v_callP, v_callKV5, v_callKV4, v_callKV3, v_callKV2, v_callKV1, v_callKV, v_callKP5, v_callKP4, v_callKP3, v_callKP2, v_callKP1, v_callKP, v_callIO5, v_callIO4, v_callIO3, v_callIO2, v_callIO1, v_callIO, v_app7, v_app6, v_app5, v_app4, v_app3, v_app2, v_app1, v_app, v_sl6, v_sl5, v_sl4, v_sl3, v_sl2, v_sl1, v_sl, v_oS2, v_oS1, v_oS, v_iseq3, v_iseq2, v_iseq1, v_iseq, v_ienum3, v_ienum2, v_ienum1, v_ienum, v_irg1, v_irg, v_rgTup3, v_rgTup2, v_rgTup1, v_rgTup, v_argsc2, v_argsc1, v_argsc, v_putc1, v_putc, v_takesc2, v_takesc1, v_takesc, v_contsc2, v_contsc1, v_contsc, v_backsI2, v_backsI1, v_backsI, v_binF7, v_binF6, v_binF5, v_binF4, v_binF3, v_binF2, v_binF1, v_binF, v_par22, v_par21, v_par2, v_par32, v_par31, v_par3, v_ext8, v_ext7, v_ext6, v_ext5, v_ext4, v_ext3, v_ext2, v_ext1, v_ext, v_zip2, v_zip1, v_zip, v_irgB3, v_irgB2, v_irgB1, v_irgB, v_rgLst3, v_rgLst2, v_rgLst1, v_rgLst, v_rgTupB5, v_rgTupB4, v_rgTupB3, v_rgTupB2, v_rgTupB1, v_rgTupB, v_rgLstB5, v_rgLstB4, v_rgLstB3, v_rgLstB2, v_rgLstB1, v_rgLstB, v_ok, v_c, v_nil, v_next, v_yes, v_oN, v_gtup, v_var, v_for0, v_lc0, v_args0, v_put0, v_takes0, v_conts0, v_backs0, w_add, w_sub, w_neg, w_lt, w_le, w_gt, w_ge, w_intI, w_intB, w_ix0, w_ix1, w_ix2, w_i0, w_i1, w_i2, pend, cont, take, frz, frzs, getP, setP, Res.of, boolOf, isPl, mutS, mutP, intOf, move, retOf, backs1, put1, fzT, ioOf, chk, early, shut, isTmp, flatB, scal, List.map_cons, List.map_nil, List.cons_append, List.nil_append, List.append_nil, List.replicate_succ, List.replicate_zero, List.replicate, List.length_cons, List.length_nil, List.getElem?_cons_zero, List.getElem?_cons_succ, List.set_cons_zero, List.set_cons_succ, List.all_cons, List.all_nil, List.contains_cons, List.contains_nil, List.elem_cons, List.elem_nil, List.isEmpty_nil, List.isEmpty_cons, Nat.reduceAdd, Nat.reduceSub, Nat.reduceBEq, Nat.reduceLT, Nat.reduceLeDiff, Nat.reduceEqDiff, decide_true, decide_false, Bool.and_true, Bool.true_and, Bool.or_true, Bool.true_or, Bool.or_false, Bool.false_or, Bool.and_false, Bool.false_and, Bool.not_true, Bool.not_false, Bool.false_eq_true, reduceIte, ite_true, ite_false, beq_self_eq_true, Nat.zero_add, reduceCtorEq, and_self, true_and, and_true, ge_iff_le, gt_iff_lt, Nat.succ_eq_add_one, Nat.add_one_sub_one, Nat.zero_lt_succ, Nat.lt_add_left_iff_pos, wipeE, restE, pick, List.filterMap_cons, List.filterMap_nil, u_irg, u_irgB, Int.reduceLE, Int.reduceLT, Int.reduceNeg, u_unT, u_unL, u_unW, u_max, u_min, u_abs, u_tup, u_lst, u_lc, u_app0, u_app, u_ext0, u_ext, u_par2, u_par3, u_zip, u_aug0, u_aug, u_aug2, u_ch, u_ch1, u_ch2, u_ch3, e_int, ne_int, e_bl, ne_bl, q_aa, q_af, q_ac, q_fa, q_ff, q_fc, q_ca, q_cf, q_cc, is_non, is_int, isn_non, isn_int, ix_t0, ix_t1, ix_t2, ix_l0, ix_l1, x_asc, x_kco, x_ite, decide_eq_true_eq, Bool.not_eq_true', decide_eq_false_iff_not, u_srT, u_srL, u_srW, isT, seqV, tupV, lstV, u_join, Option.getD, c]
    · have et : stp x (.flo, n) = x := by show max x n = x; omega
      rw [et]
      simp only [F_law_on, m_law_on, ix_e0, ix_e1, q_wa, q_wf, v_bin6, v_bin5, v_bin4, v_bin3, v_bin2, v_bin1, v_bin, v_un3, v_un2, v_un1, v_un, v_test2, v_test1, v_test, v_cons3, v_cons2, v_cons1, v_cons, v_star4, v_star3, v_star2, v_star1, v_star, v_tup2, v_tup1, v_tup, v_lst2, v_lst1, v_lst, v_callB3, v_callB2, v_callB1, v_callB, v_andT1, v_andT, v_orT1, v_orT, v_notT1, v_notT, v_and2, v_and1, v_and, v_or2, v_or1, v_or, v_not2, v_not1, v_not, v_if1, v_if, v_orL1, v_orL, v_seq1, v_seq, v_ifS1, v_ifS, v_ret2, v_ret1, v_ret, v_drop1, v_drop, v_asg3, v_asg2, v_asg1, v_asg, v_gset1, v_gset, v_gsub5, v_gsub4, v_gsub3, v_gsub2, v_gsub1, v_gsub, v_gsc1, v_gsc, v_gsn1, v_gsn, v_for1, v_for, v_forc2, v_forc1, v_forc, v_lcc2, v_lcc1, v_lcc, v_lcT3, v_lcT2, v_lcT1, v_lcT, v_lc4, v_lc1, v_lc, v_def4, v_def3, v_def2, v_def1, v_def, v_callV4, v_callV3, v_callV2, v_callV1, v_callV, v_callP4, v_callP3, v_callP2, v_callP1, v_callP, v_callKV5, v_callKV4, v_callKV3, v_callKV2, v_callKV1, v_callKV, v_callKP5, v_callKP4, v_callKP3, v_callKP2, v_callKP1, v_callKP, v_callIO5, v_callIO4, v_callIO3, v_callIO2, v_callIO1, v_callIO, v_app7, v_app6, v_app5, v_app4, v_app3, v_app2, v_app1, v_app, v_sl6, v_sl5, v_sl4, v_sl3, v_sl2, v_sl1, v_sl, v_oS2, v_oS1, v_oS, v_iseq3, v_iseq2, v_iseq1, v_iseq, v_ienum3, v_ienum2, v_ienum1, v_ienum, v_irg1, v_irg, v_rgTup3, v_rgTup2, v_rgTup1, v_rgTup, v_argsc2, v_argsc1, v_argsc, v_putc1, v_putc, v_takesc2, v_takesc1, v_takesc, v_contsc2, v_contsc1, v_contsc, v_backsI2, v_backsI1, v_backsI, v_binF7, v_binF6, v_binF5, v_binF4, v_binF3, v_binF2, v_binF1, v_binF, v_par22, v_par21, v_par2, v_par32, v_par31, v_par3, v_ext8, v_ext7, v_ext6, v_ext5, v_ext4, v_ext3, v_ext2, v_ext1, v_ext, v_zip2, v_zip1, v_zip, v_irgB3, v_irgB2, v_irgB1, v_irgB, v_rgLst3, v_rgLst2, v_rgLst1, v_rgLst, v_rgTupB5, v_rgTupB4, v_rgTupB3, v_rgTupB2, v_rgTupB1, v_rgTupB, v_rgLstB5, v_rgLstB4, v_rgLstB3, v_rgLstB2, v_rgLstB1, v_rgLstB, v_ok, v_c, v_nil, v_next, v_yes, v_oN, v_gtup, v_var, v_for0, v_lc0, v_args0, v_put0, v_takes0, v_conts0, v_backs0, w_add, w_sub, w_neg, w_lt, w_le, w_gt, w_ge, w_intI, w_intB, w_ix0, w_ix1, w_ix2, w_i0, w_i1, w_i2, pend, cont, take, frz, frzs, getP, setP, Res.of, boolOf, isPl, mutS, mutP, intOf, move, retOf, backs1, put1, fzT, ioOf, chk, early, shut, isTmp, flatB, scal, List.map_cons, List.map_nil, List.cons_append, List.nil_append, List.append_nil, List.replicate_succ, List.replicate_zero, List.replicate, List.length_cons, List.length_nil, List.getElem?_cons_zero, List.getElem?_cons_succ, List.set_cons_zero, List.set_cons_succ, List.all_cons, List.all_nil, List.contains_cons, List.contains_nil, List.elem_cons, List.elem_nil, List.isEmpty_nil, List.isEmpty_cons, Nat.reduceAdd, Nat.reduceSub, Nat.reduceBEq, Nat.reduceLT, Nat.reduceLeDiff, Nat.reduceEqDiff, decide_true, decide_false, Bool.and_true, Bool.true_and, Bool.or_true, Bool.true_or, Bool.or_false, Bool.false_or, Bool.and_false, Bool.false_and, Bool.not_true, Bool.not_false, Bool.false_eq_true, reduceIte, ite_true, ite_false, beq_self_eq_true, Nat.zero_add, reduceCtorEq, and_self, true_and, and_true, ge_iff_le, gt_iff_lt, Nat.succ_eq_add_one, Nat.add_one_sub_one, Nat.zero_lt_succ, Nat.lt_add_left_iff_pos, wipeE, restE, pick, List.filterMap_cons, List.filterMap_nil, u_irg, u_irgB, Int.reduceLE, Int.reduceLT, Int.reduceNeg, u_unT, u_unL, u_unW, u_max, u_min, u_abs, u_tup, u_lst, u_lc, u_app0, u_app, u_ext0, u_ext, u_par2, u_par3, u_zip, u_aug0, u_aug, u_aug2, u_ch, u_ch1, u_ch2, u_ch3, e_int, ne_int, e_bl, ne_bl, q_aa, q_af, q_ac, q_fa, q_ff, q_fc, q_ca, q_cf, q_cc, is_non, is_int, isn_non, isn_int, ix_t0, ix_t1, ix_t2, ix_l0, ix_l1, x_asc, x_kco, x_ite, decide_eq_true_eq, Bool.not_eq_true', decide_eq_false_iff_not, u_srT, u_srL, u_srW, isT, seqV, tupV, lstV, u_join, Option.getD, c]
  | cap =>
    by_cases c : n < x
    · have et : stp x (.cap, n) = n := by show min x n = n; omega
      rw [et]
      simp only [F_law_on, m_law_on, ix_e0, ix_e1, q_wa, q_wf, v_bin6, v_bin5, v_bin4, v_bin3, v_bin2, v_bin1, v_bin, v_un3, v_un2, v_un1, v_un, v_test2, v_test1, v_test, v_cons3, v_cons2, v_cons1, v_cons, v_star4, v_star3, v_star2, v_star1, v_star, v_tup2, v_tup1, v_tup, v_lst2, v_lst1, v_lst, v_callB3, v_callB2, v_callB1, v_callB, v_andT1, v_andT, v_orT1, v_orT, v_notT1, v_notT, v_and2, v_and1, v_and, v_or2, v_or1, v_or, v_not2, v_not1, v_not, v_if1, v_if, v_orL1, v_orL, v_seq1, v_seq, v_ifS1, v_ifS, v_ret2, v_ret1, v_ret, v_drop1, v_drop, v_asg3, v_asg2, v_asg1, v_asg, v_gset1, v_gset, v_gsub5, v_gsub4, v_gsub3, v_gsub2, v_gsub1, v_gsub, v_gsc1, v_gsc, v_gsn1, v_gsn, v_for1, v_for, v_forc2, v_forc1, v_forc, v_lcc2, v_lcc1, v_lcc, v_lcT3, v_lcT2, v_lcT1, v_lcT, v_lc4, v_lc1, v_lc, v_def4, v_def3, v_def2, v_def1, v_def, v_callV4, v_callV3, v_callV2, v_callV1, v_callV, v_callP4, v_callP3, v_callP2, v_callP1, v_callP, v_callKV5, v_callKV4, v_callKV3, v_callKV2, v_callKV1, v_callKV, v_callKP5, v_callKP4, v_callKP3, v_callKP2, v_callKP1, v_callKP, v_callIO5, v_callIO4, v_callIO3, v_callIO2, v_callIO1, v_callIO, v_app7, v_app6, v_app5, v_app4, v_app3, v_app2, v_app1, v_app, v_sl6, v_sl5, v_sl4, v_sl3, v_sl2, v_sl1, v_sl, v_oS2, v_oS1, v_oS, v_iseq3, v_iseq2, v_iseq1, v_iseq, v_ienum3, v_ienum2, v_ienum1, v_ienum, v_irg1, v_irg, v_rgTup3, v_rgTup2, v_rgTup1, v_rgTup, v_argsc2, v_argsc1, v_argsc, v_putc1, v_putc, v_takesc2, v_takesc1, v_takesc, v_contsc2, v_contsc1, v_contsc, v_backsI2, v_backsI1, v_backsI, v_binF7, v_binF6, v_binF5, v_binF4, v_binF3, v_binF2, v_binF1, v_binF, v_par22, v_par21, v_par2, v_par32, v_par31, v_par3, v_ext8, v_ext7, v_ext6, v_ext5, v_ext4, v_ext3, v_ext2, v_ext1, v_ext, v_zip2, v_zip1, v_zip, v_irgB3, v_irgB2, v_irgB1, v_irgB, v_rgLst3, v_rgLst2, v_rgLst1, v_rgLst, v_rgTupB5, v_rgTupB4, v_rgTupB3, v_rgTupB2, v_rgTupB1, v_rgTupB, v_rgLstB5, v_rgLstB4, v_rgLstB3, v_rgLstB2, v_rgLstB1, v_rgLstB, v_ok, v_c, v_nil, v_next, v_yes, v_oN, v_gtup, v_var, v_for0, v_lc0, v_args0, v_put0, v_takes0, v_conts0, v_backs0, w_add, w_sub, w_neg, w_lt, w_le, w_gt, w_ge, w_intI, w_intB, w_ix0, w_ix1, w_ix2, w_i0, w_i1, w_i2, pend, cont, take, frz, frzs, getP, setP, Res.of, boolOf, isPl, mutS, mutP, intOf, move, retOf, backs1, put1, fzT, ioOf, chk, early, shut, isTmp, flatB, scal, List.map_cons, List.map_nil, List.cons_append, List.nil_append, List.append_nil, List.replicate_succ, List.replicate_zero, List.replicate, List.length_cons, List.length_nil, List.getElem?_cons_zero, List.getElem?_cons_succ, List.set_cons_zero, List.set_cons_succ, List.all_cons, List.all_nil, List.contains_cons, List.contains_nil, List.elem_cons, List.elem_nil, List.isEmpty_nil, List.isEmpty_cons, Nat.reduceAdd, Nat.reduceSub, Nat.reduceBEq, Nat.reduceLT, Nat.reduceLeDiff, Nat.reduceEqDiff, decide_true, decide_false, Bool.and_true, Bool.true_and, Bool.or_true, Bool.true_or, Bool.or_false, Bool.false_or, Bool.and_false, Bool.false_and, Bool.not_true, Bool.not_false, Bool.false_eq_true, reduceIte, ite_true, ite_false, beq_self_eq_true, Nat.zero_add, reduceCtorEq, and_self, true_and, and_true, ge_iff_le, gt_iff_lt, Nat.succ_eq_add_one, Nat.add_one_sub_one, Nat.zero_lt_succ, Nat.lt_add_left_iff_pos, wipeE, restE, pick, List.filterMap_cons, List.filterMap_nil, u_irg, u_irgB, Int.reduceLE, Int.reduceLT, Int.reduceNeg, u_unT, u_unL, u_unW, u_max, u_min, u_abs, u_tup, u_lst, u_lc, u_app0, u_app, u_ext0, u_ext, u_par2, u_par3, u_zip, u_aug0, u_aug, u_aug2, u_ch, u_ch1, u_ch2, u_ch3, e_int, ne_int, e_bl, ne_bl, q_aa, q_af, q_ac, q_fa, q_ff, q_fc, q_ca, q_cf, q_cc, is_non, is_int, isn_non, isn_int, ix_t0, ix_t1, ix_t2, ix_l0, ix_l1, x_asc, x_kco, x_ite, decide_eq_true_eq, Bool.not_eq_true', decide_eq_false_iff_not, u_srT, u_srL, u_srW, isT, seqV, tupV, lstV, u_join, Option.getD, c]
    · have et : stp x (.cap, n) = x := by show min x n = x; omega
      rw [et]
      simp only [F_law_on, m_law_on, ix_e0, ix_e1, q_wa, q_wf, v_bin6, v_bin5, v_bin4, v_bin3, v_bin2, v_bin1, v_bin, v_un3, v_un2, v_un1, v_un, v_test2, v_test1, v_test, v_cons3, v_cons2, v_cons1, v_cons, v_star4, v_star3, v_star2, v_star1, v_star, v_tup2, v_tup1, v_tup, v_lst2, v_lst1, v_lst, v_callB3, v_callB2, v_callB1, v_callB, v_andT1, v_andT, v_orT1, v_orT, v_notT1, v_notT, v_and2, v_and1, v_and, v_or2, v_or1, v_or, v_not2, v_not1, v_not, v_if1, v_if, v_orL1, v_orL, v_seq1, v_seq, v_ifS1, v_ifS, v_ret2, v_ret1, v_ret, v_drop1, v_drop, v_asg3, v_asg2, v_asg1, v_asg, v_gset1, v_gset, v_gsub5, v_gsub4, v_gsub3, v_gsub2, v_gsub1, v_gsub, v_gsc1, v_gsc, v_gsn1, v_gsn, v_for1, v_for, v_forc2, v_forc1, v_forc, v_lcc2, v_lcc1, v_lcc, v_lcT3, v_lcT2, v_lcT1, v_lcT, v_lc4, v_lc1, v_lc, v_def4, v_def3, v_def2, v_def1, v_def, v_callV4, v_callV3, v_callV2, v_callV1, v_callV, v_callP4, v_callP3, v_callP2, v_callP1, v_callP, v_callKV5, v_callKV4, v_callKV3, v_callKV2, v_callKV1, v_callKV, v_callKP5, v_callKP4, v_callKP3, v_callKP2, v_callKP1, v_callKP, v_callIO5, v_callIO4, v_callIO3, v_callIO2, v_callIO1, v_callIO, v_app7, v_app6, v_app5, v_app4, v_app3, v_app2, v_app1, v_app, v_sl6, v_sl5, v_sl4, v_sl3, v_sl2, v_sl1, v_sl, v_oS2, v_oS1, v_oS, v_iseq3, v_iseq2, v_iseq1, v_iseq, v_ienum3, v_ienum2, v_ienum1, v_ienum, v_irg1, v_irg, v_rgTup3, v_rgTup2, v_rgTup1, v_rgTup, v_argsc2, v_argsc1, v_argsc, v_putc1, v_putc, v_takesc2, v_takesc1, v_takesc, v_contsc2, v_contsc1, v_contsc, v_backsI2, v_backsI1, v_backsI, v_binF7, v_binF6, v_binF5, v_binF4, v_binF3, v_binF2, v_binF1, v_binF, v_par22, v_par21, v_par2, v_par32, v_par31, v_par3, v_ext8, v_ext7, v_ext6, v_ext5, v_ext4, v_ext3, v_ext2, v_ext1, v_ext, v_zip2, v_zip1, v_zip, v_irgB3, v_irgB2, v_irgB1, v_irgB, v_rgLst3, v_rgLst2, v_rgLst1, v_rgLst, v_rgTupB5, v_rgTupB4, v_rgTupB3, v_rgTupB2, v_rgTupB1, v_rgTupB, v_rgLstB5, v_rgLstB4, v_rgLstB3, v_rgLstB2, v_rgLstB1, v_rgLstB, v_ok, v_c, v_nil, v_next, v_yes, v_oN, v_gtup, v_var, v_for0, v_lc0, v_args0, v_put0, v_takes0, v_conts0, v_backs0, w_add, w_sub, w_neg, w_lt, w_le, w_gt, w_ge, w_intI, w_intB, w_ix0, w_ix1, w_ix2, w_i0, w_i1, w_i2, pend, cont, take, frz, frzs, getP, setP, Res.of, boolOf, isPl, mutS, mutP, intOf, move, retOf, backs1, put1, fzT, ioOf, chk, early, shut, isTmp, flatB, scal, List.map_cons, List.map_nil, List.cons_append, List.nil_append, List.append_nil, List.replicate_succ, List.replicate_zero, List.replicate, List.length_cons, List.length_nil, List.getElem?_cons_zero, List.getElem?_cons_succ, List.set_cons_zero, List.set_cons_succ, List.all_cons, List.all_nil, List.contains_cons, List.contains_nil, List.elem_cons, List.elem_nil, List.isEmpty_nil, List.isEmpty_cons, Nat.reduceAdd, Nat.reduceSub, Nat.reduceBEq, Nat.reduceLT, Nat.reduceLeDiff, Nat.reduceEqDiff, decide_true, decide_false, Bool.and_true, Bool.true_and, Bool.or_true, Bool.true_or, Bool.or_false, Bool.false_or, Bool.and_false, Bool.false_and, Bool.not_true, Bool.not_false, Bool.false_eq_true, reduceIte, ite_true, ite_false, beq_self_eq_true, Nat.zero_add, reduceCtorEq, and_self, true_and, and_true, ge_iff_le, gt_iff_lt, Nat.succ_eq_add_one, Nat.add_one_sub_one, Nat.zero_lt_succ, Nat.lt_add_left_iff_pos, wipeE, restE, pick, List.filterMap_cons, List.filterMap_nil, u_irg, u_irgB, Int.reduceLE, Int.reduceLT, Int.reduceNeg, u_unT, u_unL, u_unW, u_max, u_min, u_abs, u_tup, u_lst, u_lc, u_app0, u_app, u_ext0, u_ext, u_par2, u_par3, u_zip, u_aug0, u_aug, u_aug2, u_ch, u_ch1, u_ch2, u_ch3, e_int, ne_int, e_bl, ne_bl, q_aa, q_af, q_ac, q_fa, q_ff, q_fc, q_ca, q_cf, q_cc, is_non, is_int, isn_non, isn_int, ix_t0, ix_t1, ix_t2, ix_l0, ix_l1, x_asc, x_kco, x_ite, decide_eq_true_eq, Bool.not_eq_true', decide_eq_false_iff_not, u_srT, u_srL, u_srW, isT, seqV, tupV, lstV, u_join, Option.getD, c]
theorem ix_m1 {A : List Int} {y : Int} : fIdx (cw (A ++ [y])) (.fz (.int (-1))) = .ok (.fz (.int y)) :=
  ixcw (j := A.length) (by unfold L2.ixN; rw [if_neg (by omega), if_pos (by rw [List.length_append]; simp only [List.length_cons, List.length_nil]; omega)]; rw [List.length_append]; simp only [List.length_cons, List.length_nil]; congr 1; omega) (by simp)
def trk : Row → Int → List Int
  | [], x => [x]
  | e :: r, x => x :: trk r (stp x e)
theorem trk_len : ∀ (r : Row) (x : Int), (trk r x).length = r.length + 1
  | [], x => rfl
  | e :: r, x => by rw [trk, List.length_cons, trk_len r, List.length_cons]
theorem trk_b {k : Bool} {y : Int} {e : Wd × Int} {A : List Int} {o0 o1 : Option W} (hl : A.length ≤ 1000) : L_law_trace_1 [o0, o1, some (cw (A ++ [y])), some (.fz (eE k e))] = .ok (.nx, [o0, o1, some (cw ((A ++ [y]) ++ [stp y e])), some (.fz (eE k e))]) := by
  have i := ix_m1 (A := A) (y := y)
  have d := on_ok (k := k) (x := y) (e := e)
  have z : ((A ++ [y]).map fun n => W.fz (.int n)).length ≤ 1000000 := by rw [List.length_map, List.length_append]; simp only [List.length_cons, List.length_nil]; omega
  have ea : ((A ++ [y]).map fun n => W.fz (.int n)) ++ [W.fz (.int (stp y e))] = (A ++ [y] ++ [stp y e]).map fun n => W.fz (.int n) := by rw [List.map_append (l₁ := A ++ [y])]; rfl
  unfold cw at *
  generalize eE k e = E at *
  rw [← ea]
  generalize (A ++ [y]).map (fun n => W.fz (.int n)) = WS at *
  simp only [L_law_trace_1, v_bin6, v_bin5, v_bin4, v_bin3, v_bin2, v_bin1, v_bin, v_un3, v_un2, v_un1, v_un, v_test2, v_test1, v_test, v_cons3, v_cons2, v_cons1, v_cons, v_star4, v_star3, v_star2, v_star1, v_star, v_tup2, v_tup1, v_tup, v_lst2, v_lst1, v_lst, v_callB3, v_callB2, v_callB1, v_callB, v_andT1, v_andT, v_orT1, v_orT, v_notT1, v_notT, v_and2, v_and1, v_and, v_or2, v_or1, v_or, v_not2, v_not1, v_not, v_if1, v_if, v_orL1, v_orL, v_seq1, v_seq, v_ifS1, v_ifS, v_ret2, v_ret1, v_ret, v_drop1, v_drop, v_asg3, v_asg2, v_asg1, v_asg, v_gset1, v_gset, v_gsub5, v_gsub4, v_gsub3, v_gsub2, v_gsub1, v_gsub, v_gsc1, v_gsc, v_gsn1, v_gsn, v_for1, v_for, v_forc2, v_forc1, v_forc, v_lcc2, v_lcc1, v_lcc, v_lcT3, v_lcT2, v_lcT1, v_lcT, v_lc4, v_lc1, v_lc, v_def4, v_def3, v_def2, v_def1, v_def, v_callV4, v_callV3, v_callV2, v_callV1, v_callV, v_callP4, v_callP3, v_callP2, v_callP1, v_callP, v_callKV5, v_callKV4, v_callKV3, v_callKV2, v_callKV1, v_callKV, v_callKP5, v_callKP4, v_callKP3, v_callKP2, v_callKP1, v_callKP, v_callIO5, v_callIO4, v_callIO3, v_callIO2, v_callIO1, v_callIO, v_app7, v_app6, v_app5, v_app4, v_app3, v_app2, v_app1, v_app, v_sl6, v_sl5, v_sl4, v_sl3, v_sl2, v_sl1, v_sl, v_oS2, v_oS1, v_oS, v_iseq3, v_iseq2, v_iseq1, v_iseq, v_ienum3, v_ienum2, v_ienum1, v_ienum, v_irg1, v_irg, v_rgTup3, v_rgTup2, v_rgTup1, v_rgTup, v_argsc2, v_argsc1, v_argsc, v_putc1, v_putc, v_takesc2, v_takesc1, v_takesc, v_contsc2, v_contsc1, v_contsc, v_backsI2, v_backsI1, v_backsI, v_binF7, v_binF6, v_binF5, v_binF4, v_binF3, v_binF2, v_binF1, v_binF, v_par22, v_par21, v_par2, v_par32, v_par31, v_par3, v_ext8, v_ext7, v_ext6, v_ext5, v_ext4, v_ext3, v_ext2, v_ext1, v_ext, v_zip2, v_zip1, v_zip, v_irgB3, v_irgB2, v_irgB1, v_irgB, v_rgLst3, v_rgLst2, v_rgLst1, v_rgLst, v_rgTupB5, v_rgTupB4, v_rgTupB3, v_rgTupB2, v_rgTupB1, v_rgTupB, v_rgLstB5, v_rgLstB4, v_rgLstB3, v_rgLstB2, v_rgLstB1, v_rgLstB, v_ok, v_c, v_nil, v_next, v_yes, v_oN, v_gtup, v_var, v_for0, v_lc0, v_args0, v_put0, v_takes0, v_conts0, v_backs0, w_add, w_sub, w_neg, w_lt, w_le, w_gt, w_ge, w_intI, w_intB, w_ix0, w_ix1, w_ix2, w_i0, w_i1, w_i2, pend, cont, take, frz, frzs, getP, setP, Res.of, boolOf, isPl, mutS, mutP, intOf, move, retOf, backs1, put1, fzT, ioOf, chk, early, shut, isTmp, flatB, scal, List.map_cons, List.map_nil, List.cons_append, List.nil_append, List.append_nil, List.replicate_succ, List.replicate_zero, List.replicate, List.length_cons, List.length_nil, List.getElem?_cons_zero, List.getElem?_cons_succ, List.set_cons_zero, List.set_cons_succ, List.all_cons, List.all_nil, List.contains_cons, List.contains_nil, List.elem_cons, List.elem_nil, List.isEmpty_nil, List.isEmpty_cons, Nat.reduceAdd, Nat.reduceSub, Nat.reduceBEq, Nat.reduceLT, Nat.reduceLeDiff, Nat.reduceEqDiff, decide_true, decide_false, Bool.and_true, Bool.true_and, Bool.or_true, Bool.true_or, Bool.or_false, Bool.false_or, Bool.and_false, Bool.false_and, Bool.not_true, Bool.not_false, Bool.false_eq_true, reduceIte, ite_true, ite_false, beq_self_eq_true, Nat.zero_add, reduceCtorEq, and_self, true_and, and_true, ge_iff_le, gt_iff_lt, Nat.succ_eq_add_one, Nat.add_one_sub_one, Nat.zero_lt_succ, Nat.lt_add_left_iff_pos, wipeE, restE, pick, List.filterMap_cons, List.filterMap_nil, u_irg, u_irgB, Int.reduceLE, Int.reduceLT, Int.reduceNeg, u_unT, u_unL, u_unW, u_max, u_min, u_abs, u_tup, u_lst, u_lc, u_app0, u_app, u_ext0, u_ext, u_par2, u_par3, u_zip, u_aug0, u_aug, u_aug2, u_ch, u_ch1, u_ch2, u_ch3, e_int, ne_int, e_bl, ne_bl, q_aa, q_af, q_ac, q_fa, q_ff, q_fc, q_ca, q_cf, q_cc, is_non, is_int, isn_non, isn_int, ix_t0, ix_t1, ix_t2, ix_l0, ix_l1, x_asc, x_kco, x_ite, decide_eq_true_eq, Bool.not_eq_true', decide_eq_false_iff_not, u_srT, u_srL, u_srW, isT, seqV, tupV, lstV, u_join, Option.getD, i, d, z]
theorem lev_b {k : Bool} {y : Int} {e : Wd × Int} {A : List Int} {o0 o1 : Option W} (hl : A.length ≤ 1000) : Llevels_of_1 [o0, o1, some (cw (A ++ [y])), some (.fz (eE k e))] = .ok (.nx, [o0, o1, some (cw ((A ++ [y]) ++ [stp y e])), some (.fz (eE k e))]) := by
  have i := ix_m1 (A := A) (y := y)
  have d := behind_ok (k := k) (l := y) (e := e)
  have z : ((A ++ [y]).map fun n => W.fz (.int n)).length ≤ 1000000 := by rw [List.length_map, List.length_append]; simp only [List.length_cons, List.length_nil]; omega
  have ea : ((A ++ [y]).map fun n => W.fz (.int n)) ++ [W.fz (.int (stp y e))] = (A ++ [y] ++ [stp y e]).map fun n => W.fz (.int n) := by rw [List.map_append (l₁ := A ++ [y])]; rfl
  unfold cw at *
  generalize eE k e = E at *
  rw [← ea]
  generalize (A ++ [y]).map (fun n => W.fz (.int n)) = WS at *
  simp only [Llevels_of_1, v_bin6, v_bin5, v_bin4, v_bin3, v_bin2, v_bin1, v_bin, v_un3, v_un2, v_un1, v_un, v_test2, v_test1, v_test, v_cons3, v_cons2, v_cons1, v_cons, v_star4, v_star3, v_star2, v_star1, v_star, v_tup2, v_tup1, v_tup, v_lst2, v_lst1, v_lst, v_callB3, v_callB2, v_callB1, v_callB, v_andT1, v_andT, v_orT1, v_orT, v_notT1, v_notT, v_and2, v_and1, v_and, v_or2, v_or1, v_or, v_not2, v_not1, v_not, v_if1, v_if, v_orL1, v_orL, v_seq1, v_seq, v_ifS1, v_ifS, v_ret2, v_ret1, v_ret, v_drop1, v_drop, v_asg3, v_asg2, v_asg1, v_asg, v_gset1, v_gset, v_gsub5, v_gsub4, v_gsub3, v_gsub2, v_gsub1, v_gsub, v_gsc1, v_gsc, v_gsn1, v_gsn, v_for1, v_for, v_forc2, v_forc1, v_forc, v_lcc2, v_lcc1, v_lcc, v_lcT3, v_lcT2, v_lcT1, v_lcT, v_lc4, v_lc1, v_lc, v_def4, v_def3, v_def2, v_def1, v_def, v_callV4, v_callV3, v_callV2, v_callV1, v_callV, v_callP4, v_callP3, v_callP2, v_callP1, v_callP, v_callKV5, v_callKV4, v_callKV3, v_callKV2, v_callKV1, v_callKV, v_callKP5, v_callKP4, v_callKP3, v_callKP2, v_callKP1, v_callKP, v_callIO5, v_callIO4, v_callIO3, v_callIO2, v_callIO1, v_callIO, v_app7, v_app6, v_app5, v_app4, v_app3, v_app2, v_app1, v_app, v_sl6, v_sl5, v_sl4, v_sl3, v_sl2, v_sl1, v_sl, v_oS2, v_oS1, v_oS, v_iseq3, v_iseq2, v_iseq1, v_iseq, v_ienum3, v_ienum2, v_ienum1, v_ienum, v_irg1, v_irg, v_rgTup3, v_rgTup2, v_rgTup1, v_rgTup, v_argsc2, v_argsc1, v_argsc, v_putc1, v_putc, v_takesc2, v_takesc1, v_takesc, v_contsc2, v_contsc1, v_contsc, v_backsI2, v_backsI1, v_backsI, v_binF7, v_binF6, v_binF5, v_binF4, v_binF3, v_binF2, v_binF1, v_binF, v_par22, v_par21, v_par2, v_par32, v_par31, v_par3, v_ext8, v_ext7, v_ext6, v_ext5, v_ext4, v_ext3, v_ext2, v_ext1, v_ext, v_zip2, v_zip1, v_zip, v_irgB3, v_irgB2, v_irgB1, v_irgB, v_rgLst3, v_rgLst2, v_rgLst1, v_rgLst, v_rgTupB5, v_rgTupB4, v_rgTupB3, v_rgTupB2, v_rgTupB1, v_rgTupB, v_rgLstB5, v_rgLstB4, v_rgLstB3, v_rgLstB2, v_rgLstB1, v_rgLstB, v_ok, v_c, v_nil, v_next, v_yes, v_oN, v_gtup, v_var, v_for0, v_lc0, v_args0, v_put0, v_takes0, v_conts0, v_backs0, w_add, w_sub, w_neg, w_lt, w_le, w_gt, w_ge, w_intI, w_intB, w_ix0, w_ix1, w_ix2, w_i0, w_i1, w_i2, pend, cont, take, frz, frzs, getP, setP, Res.of, boolOf, isPl, mutS, mutP, intOf, move, retOf, backs1, put1, fzT, ioOf, chk, early, shut, isTmp, flatB, scal, List.map_cons, List.map_nil, List.cons_append, List.nil_append, List.append_nil, List.replicate_succ, List.replicate_zero, List.replicate, List.length_cons, List.length_nil, List.getElem?_cons_zero, List.getElem?_cons_succ, List.set_cons_zero, List.set_cons_succ, List.all_cons, List.all_nil, List.contains_cons, List.contains_nil, List.elem_cons, List.elem_nil, List.isEmpty_nil, List.isEmpty_cons, Nat.reduceAdd, Nat.reduceSub, Nat.reduceBEq, Nat.reduceLT, Nat.reduceLeDiff, Nat.reduceEqDiff, decide_true, decide_false, Bool.and_true, Bool.true_and, Bool.or_true, Bool.true_or, Bool.or_false, Bool.false_or, Bool.and_false, Bool.false_and, Bool.not_true, Bool.not_false, Bool.false_eq_true, reduceIte, ite_true, ite_false, beq_self_eq_true, Nat.zero_add, reduceCtorEq, and_self, true_and, and_true, ge_iff_le, gt_iff_lt, Nat.succ_eq_add_one, Nat.add_one_sub_one, Nat.zero_lt_succ, Nat.lt_add_left_iff_pos, wipeE, restE, pick, List.filterMap_cons, List.filterMap_nil, u_irg, u_irgB, Int.reduceLE, Int.reduceLT, Int.reduceNeg, u_unT, u_unL, u_unW, u_max, u_min, u_abs, u_tup, u_lst, u_lc, u_app0, u_app, u_ext0, u_ext, u_par2, u_par3, u_zip, u_aug0, u_aug, u_aug2, u_ch, u_ch1, u_ch2, u_ch3, e_int, ne_int, e_bl, ne_bl, q_aa, q_af, q_ac, q_fa, q_ff, q_fc, q_ca, q_cf, q_cc, is_non, is_int, isn_non, isn_int, ix_t0, ix_t1, ix_t2, ix_l0, ix_l1, x_asc, x_kco, x_ite, decide_eq_true_eq, Bool.not_eq_true', decide_eq_false_iff_not, u_srT, u_srL, u_srW, isT, seqV, tupV, lstV, u_join, Option.getD, i, d, z]
theorem lv_loop {k : Bool} {LB : CS} (hb : ∀ (y : Int) (e : Wd × Int) (A : List Int) (o0 o1 : Option W), A.length ≤ 1000 → LB [o0, o1, some (cw (A ++ [y])), some (.fz (eE k e))] = .ok (.nx, [o0, o1, some (cw ((A ++ [y]) ++ [stp y e])), some (.fz (eE k e))])) {o0 o1 : Option W} : ∀ (r : Row) (A : List Int) (y : Int) (o : Option W), A.length + r.length ≤ 1000 → ∃ o' : Option W, forL (gSet 3) LB (r.map (eE k)) [o0, o1, some (cw (A ++ [y])), o] = .ok (.nx, [o0, o1, some (cw (A ++ trk r y)), o'])
  | [], A, y, o, _ => ⟨o, rfl⟩
  | e :: r, A, y, o, h => by
    rw [List.length_cons] at h
    obtain ⟨o', h'⟩ := lv_loop hb (o0 := o0) (o1 := o1) r (A ++ [y]) (stp y e) (some (.fz (eE k e))) (by rw [List.length_append, List.length_singleton]; omega)
    refine ⟨o', ?_⟩
    have e2 : A ++ trk (e :: r) y = (A ++ [y]) ++ trk r (stp y e) := by rw [trk]; simp
    rw [e2]
    exact for_nx rfl (hb y e A o0 o1 (by omega)) h'
theorem track_ok {k : Bool} {r : Row} {x : Int} (h : r.length ≤ 900) : F_law_trace [.fz (eR k r), .fz (.int x)] = .ok (cw (trk r x), [.fz (eR k r), .fz (.int x)]) := by
  obtain ⟨o', lp⟩ := lv_loop (k := k) (LB := L_law_trace_1) (fun y e A o0 o1 h => trk_b h) (o0 := some (.fz (eR k r))) (o1 := some (.fz (.int x))) r [] x none (by simp; omega)
  have sr := src_R (k := k) (r := r)
  simp only [List.nil_append] at lp
  have c1 : cw [x] = .lst [.fz (.int x)] := rfl
  rw [c1] at lp
  generalize r.map (eE k) = DL at *
  generalize eR k r = R at *
  unfold cw at *
  generalize (trk r x).map (fun n => W.fz (.int n)) = C at *
  simp only [F_law_trace, m_law_trace, v_bin6, v_bin5, v_bin4, v_bin3, v_bin2, v_bin1, v_bin, v_un3, v_un2, v_un1, v_un, v_test2, v_test1, v_test, v_cons3, v_cons2, v_cons1, v_cons, v_star4, v_star3, v_star2, v_star1, v_star, v_tup2, v_tup1, v_tup, v_lst2, v_lst1, v_lst, v_callB3, v_callB2, v_callB1, v_callB, v_andT1, v_andT, v_orT1, v_orT, v_notT1, v_notT, v_and2, v_and1, v_and, v_or2, v_or1, v_or, v_not2, v_not1, v_not, v_if1, v_if, v_orL1, v_orL, v_seq1, v_seq, v_ifS1, v_ifS, v_ret2, v_ret1, v_ret, v_drop1, v_drop, v_asg3, v_asg2, v_asg1, v_asg, v_gset1, v_gset, v_gsub5, v_gsub4, v_gsub3, v_gsub2, v_gsub1, v_gsub, v_gsc1, v_gsc, v_gsn1, v_gsn, v_for1, v_for, v_forc2, v_forc1, v_lcc2, v_lcc1, v_lcc, v_lcT3, v_lcT2, v_lcT1, v_lcT, v_lc4, v_lc1, v_lc, v_def4, v_def3, v_def2, v_def1, v_def, v_callV4, v_callV3, v_callV2, v_callV1, v_callV, v_callP4, v_callP3, v_callP2, v_callP1, v_callP, v_callKV5, v_callKV4, v_callKV3, v_callKV2, v_callKV1, v_callKV, v_callKP5, v_callKP4, v_callKP3, v_callKP2, v_callKP1, v_callKP, v_callIO5, v_callIO4, v_callIO3, v_callIO2, v_callIO1, v_callIO, v_app7, v_app6, v_app5, v_app4, v_app3, v_app2, v_app1, v_app, v_sl6, v_sl5, v_sl4, v_sl3, v_sl2, v_sl1, v_sl, v_oS2, v_oS1, v_oS, v_iseq3, v_iseq2, v_iseq1, v_iseq, v_ienum3, v_ienum2, v_ienum1, v_ienum, v_irg1, v_irg, v_rgTup3, v_rgTup2, v_rgTup1, v_rgTup, v_argsc2, v_argsc1, v_argsc, v_putc1, v_putc, v_takesc2, v_takesc1, v_takesc, v_contsc2, v_contsc1, v_contsc, v_backsI2, v_backsI1, v_backsI, v_binF7, v_binF6, v_binF5, v_binF4, v_binF3, v_binF2, v_binF1, v_binF, v_par22, v_par21, v_par2, v_par32, v_par31, v_par3, v_ext8, v_ext7, v_ext6, v_ext5, v_ext4, v_ext3, v_ext2, v_ext1, v_ext, v_zip2, v_zip1, v_zip, v_irgB3, v_irgB2, v_irgB1, v_irgB, v_rgLst3, v_rgLst2, v_rgLst1, v_rgLst, v_rgTupB5, v_rgTupB4, v_rgTupB3, v_rgTupB2, v_rgTupB1, v_rgTupB, v_rgLstB5, v_rgLstB4, v_rgLstB3, v_rgLstB2, v_rgLstB1, v_rgLstB, v_ok, v_c, v_nil, v_next, v_yes, v_oN, v_gtup, v_var, v_for0, v_lc0, v_args0, v_put0, v_takes0, v_conts0, v_backs0, w_add, w_sub, w_neg, w_lt, w_le, w_gt, w_ge, w_intI, w_intB, w_ix0, w_ix1, w_ix2, w_i0, w_i1, w_i2, pend, cont, take, frz, frzs, getP, setP, Res.of, boolOf, isPl, mutS, mutP, intOf, move, retOf, backs1, put1, fzT, ioOf, chk, early, shut, isTmp, flatB, scal, List.map_cons, List.map_nil, List.cons_append, List.nil_append, List.append_nil, List.replicate_succ, List.replicate_zero, List.replicate, List.length_cons, List.length_nil, List.getElem?_cons_zero, List.getElem?_cons_succ, List.set_cons_zero, List.set_cons_succ, List.all_cons, List.all_nil, List.contains_cons, List.contains_nil, List.elem_cons, List.elem_nil, List.isEmpty_nil, List.isEmpty_cons, Nat.reduceAdd, Nat.reduceSub, Nat.reduceBEq, Nat.reduceLT, Nat.reduceLeDiff, Nat.reduceEqDiff, decide_true, decide_false, Bool.and_true, Bool.true_and, Bool.or_true, Bool.true_or, Bool.or_false, Bool.false_or, Bool.and_false, Bool.false_and, Bool.not_true, Bool.not_false, Bool.false_eq_true, reduceIte, ite_true, ite_false, beq_self_eq_true, Nat.zero_add, reduceCtorEq, and_self, true_and, and_true, ge_iff_le, gt_iff_lt, Nat.succ_eq_add_one, Nat.add_one_sub_one, Nat.zero_lt_succ, Nat.lt_add_left_iff_pos, wipeE, restE, pick, List.filterMap_cons, List.filterMap_nil, u_irg, u_irgB, Int.reduceLE, Int.reduceLT, Int.reduceNeg, u_unT, u_unL, u_unW, u_max, u_min, u_abs, u_tup, u_lst, u_lc, u_app0, u_app, u_ext0, u_ext, u_par2, u_par3, u_zip, u_aug0, u_aug, u_aug2, u_ch, u_ch1, u_ch2, u_ch3, e_int, ne_int, e_bl, ne_bl, q_aa, q_af, q_ac, q_fa, q_ff, q_fc, q_ca, q_cf, q_cc, is_non, is_int, isn_non, isn_int, ix_t0, ix_t1, ix_t2, ix_l0, ix_l1, x_asc, x_kco, x_ite, decide_eq_true_eq, Bool.not_eq_true', decide_eq_false_iff_not, u_srT, u_srL, u_srW, isT, seqV, tupV, lstV, u_join, Option.getD, sr, lp]
theorem levels_ok {k : Bool} {r : Row} {x : Int} (h : r.length ≤ 900) : Flevels_of [.fz (eR k r), .fz (.int x)] = .ok (cw (trk r x), [.fz (eR k r), .fz (.int x)]) := by
  obtain ⟨o', lp⟩ := lv_loop (k := k) (LB := Llevels_of_1) (fun y e A o0 o1 h => lev_b h) (o0 := some (.fz (eR k r))) (o1 := some (.fz (.int x))) r [] x none (by simp; omega)
  have sr := src_R (k := k) (r := r)
  simp only [List.nil_append] at lp
  have c1 : cw [x] = .lst [.fz (.int x)] := rfl
  rw [c1] at lp
  generalize r.map (eE k) = DL at *
  generalize eR k r = R at *
  unfold cw at *
  generalize (trk r x).map (fun n => W.fz (.int n)) = C at *
  simp only [Flevels_of, mlevels_of, v_bin6, v_bin5, v_bin4, v_bin3, v_bin2, v_bin1, v_bin, v_un3, v_un2, v_un1, v_un, v_test2, v_test1, v_test, v_cons3, v_cons2, v_cons1, v_cons, v_star4, v_star3, v_star2, v_star1, v_star, v_tup2, v_tup1, v_tup, v_lst2, v_lst1, v_lst, v_callB3, v_callB2, v_callB1, v_callB, v_andT1, v_andT, v_orT1, v_orT, v_notT1, v_notT, v_and2, v_and1, v_and, v_or2, v_or1, v_or, v_not2, v_not1, v_not, v_if1, v_if, v_orL1, v_orL, v_seq1, v_seq, v_ifS1, v_ifS, v_ret2, v_ret1, v_ret, v_drop1, v_drop, v_asg3, v_asg2, v_asg1, v_asg, v_gset1, v_gset, v_gsub5, v_gsub4, v_gsub3, v_gsub2, v_gsub1, v_gsub, v_gsc1, v_gsc, v_gsn1, v_gsn, v_for1, v_for, v_forc2, v_forc1, v_lcc2, v_lcc1, v_lcc, v_lcT3, v_lcT2, v_lcT1, v_lcT, v_lc4, v_lc1, v_lc, v_def4, v_def3, v_def2, v_def1, v_def, v_callV4, v_callV3, v_callV2, v_callV1, v_callV, v_callP4, v_callP3, v_callP2, v_callP1, v_callP, v_callKV5, v_callKV4, v_callKV3, v_callKV2, v_callKV1, v_callKV, v_callKP5, v_callKP4, v_callKP3, v_callKP2, v_callKP1, v_callKP, v_callIO5, v_callIO4, v_callIO3, v_callIO2, v_callIO1, v_callIO, v_app7, v_app6, v_app5, v_app4, v_app3, v_app2, v_app1, v_app, v_sl6, v_sl5, v_sl4, v_sl3, v_sl2, v_sl1, v_sl, v_oS2, v_oS1, v_oS, v_iseq3, v_iseq2, v_iseq1, v_iseq, v_ienum3, v_ienum2, v_ienum1, v_ienum, v_irg1, v_irg, v_rgTup3, v_rgTup2, v_rgTup1, v_rgTup, v_argsc2, v_argsc1, v_argsc, v_putc1, v_putc, v_takesc2, v_takesc1, v_takesc, v_contsc2, v_contsc1, v_contsc, v_backsI2, v_backsI1, v_backsI, v_binF7, v_binF6, v_binF5, v_binF4, v_binF3, v_binF2, v_binF1, v_binF, v_par22, v_par21, v_par2, v_par32, v_par31, v_par3, v_ext8, v_ext7, v_ext6, v_ext5, v_ext4, v_ext3, v_ext2, v_ext1, v_ext, v_zip2, v_zip1, v_zip, v_irgB3, v_irgB2, v_irgB1, v_irgB, v_rgLst3, v_rgLst2, v_rgLst1, v_rgLst, v_rgTupB5, v_rgTupB4, v_rgTupB3, v_rgTupB2, v_rgTupB1, v_rgTupB, v_rgLstB5, v_rgLstB4, v_rgLstB3, v_rgLstB2, v_rgLstB1, v_rgLstB, v_ok, v_c, v_nil, v_next, v_yes, v_oN, v_gtup, v_var, v_for0, v_lc0, v_args0, v_put0, v_takes0, v_conts0, v_backs0, w_add, w_sub, w_neg, w_lt, w_le, w_gt, w_ge, w_intI, w_intB, w_ix0, w_ix1, w_ix2, w_i0, w_i1, w_i2, pend, cont, take, frz, frzs, getP, setP, Res.of, boolOf, isPl, mutS, mutP, intOf, move, retOf, backs1, put1, fzT, ioOf, chk, early, shut, isTmp, flatB, scal, List.map_cons, List.map_nil, List.cons_append, List.nil_append, List.append_nil, List.replicate_succ, List.replicate_zero, List.replicate, List.length_cons, List.length_nil, List.getElem?_cons_zero, List.getElem?_cons_succ, List.set_cons_zero, List.set_cons_succ, List.all_cons, List.all_nil, List.contains_cons, List.contains_nil, List.elem_cons, List.elem_nil, List.isEmpty_nil, List.isEmpty_cons, Nat.reduceAdd, Nat.reduceSub, Nat.reduceBEq, Nat.reduceLT, Nat.reduceLeDiff, Nat.reduceEqDiff, decide_true, decide_false, Bool.and_true, Bool.true_and, Bool.or_true, Bool.true_or, Bool.or_false, Bool.false_or, Bool.and_false, Bool.false_and, Bool.not_true, Bool.not_false, Bool.false_eq_true, reduceIte, ite_true, ite_false, beq_self_eq_true, Nat.zero_add, reduceCtorEq, and_self, true_and, and_true, ge_iff_le, gt_iff_lt, Nat.succ_eq_add_one, Nat.add_one_sub_one, Nat.zero_lt_succ, Nat.lt_add_left_iff_pos, wipeE, restE, pick, List.filterMap_cons, List.filterMap_nil, u_irg, u_irgB, Int.reduceLE, Int.reduceLT, Int.reduceNeg, u_unT, u_unL, u_unW, u_max, u_min, u_abs, u_tup, u_lst, u_lc, u_app0, u_app, u_ext0, u_ext, u_par2, u_par3, u_zip, u_aug0, u_aug, u_aug2, u_ch, u_ch1, u_ch2, u_ch3, e_int, ne_int, e_bl, ne_bl, q_aa, q_af, q_ac, q_fa, q_ff, q_fc, q_ca, q_cf, q_cc, is_non, is_int, isn_non, isn_int, ix_t0, ix_t1, ix_t2, ix_l0, ix_l1, x_asc, x_kco, x_ite, decide_eq_true_eq, Bool.not_eq_true', decide_eq_false_iff_not, u_srT, u_srL, u_srW, isT, seqV, tupV, lstV, u_join, Option.getD, sr, lp]
end Gn
namespace Gn
open Mi PySem
theorem of_ok {m : Nat} {β : Bx} {ds : List D} (g : Gd (m + 1) β) (h0 : 0 < ds.length) (h1 : ds.length ≤ 1000) : ∃ (d : D) (β' : Bx), d ∈ ds ∧ Gd m β' ∧ F_law_of [bx β, .fz (.lst ds)] = .ok (.fz d, [bx β', .fz (.lst ds)]) := by
  obtain ⟨r, β', r0, r1, g', e⟩ := take_ok (n := (ds.length : Int)) g (by omega) (by omega)
  have hr : r.toNat < ds.length := by omega
  have ix : fIdx (.fz (.lst ds)) (.fz (.int r)) = .ok (.fz ds[r.toNat]) := w_ix (ds := ds) (j := r.toNat) rfl (ixN_pos r0 r1) (List.getElem?_eq_getElem hr)
  refine ⟨ds[r.toNat], β', List.getElem_mem hr, g', ?_⟩
  simp only [F_law_of, m_law_of, v_bin6, v_bin5, v_bin4, v_bin3, v_bin2, v_bin1, v_bin, v_un3, v_un2, v_un1, v_un, v_test2, v_test1, v_test, v_cons3, v_cons2, v_cons1, v_cons, v_star4, v_star3, v_star2, v_star1, v_star, v_tup2, v_tup1, v_tup, v_lst2, v_lst1, v_lst, v_callB3, v_callB2, v_callB1, v_callB, v_andT1, v_andT, v_orT1, v_orT, v_notT1, v_notT, v_and2, v_and1, v_and, v_or2, v_or1, v_or, v_not2, v_not1, v_not, v_if1, v_if, v_orL1, v_orL, v_seq1, v_seq, v_ifS1, v_ifS, v_ret2, v_ret1, v_ret, v_drop1, v_drop, v_asg3, v_asg2, v_asg1, v_asg, v_gset1, v_gset, v_gsub5, v_gsub4, v_gsub3, v_gsub2, v_gsub1, v_gsub, v_gsc1, v_gsc, v_gsn1, v_gsn, v_for1, v_for, v_forc2, v_forc1, v_forc, v_lcc2, v_lcc1, v_lcc, v_lcT3, v_lcT2, v_lcT1, v_lcT, v_lc4, v_lc1, v_lc, v_def4, v_def3, v_def2, v_def1, v_def, v_callV4, v_callV3, v_callV2, v_callV1, v_callV, v_callP4, v_callP3, v_callP2, v_callP1, v_callP, v_callKV5, v_callKV4, v_callKV3, v_callKV2, v_callKV1, v_callKV, v_callKP5, v_callKP4, v_callKP3, v_callKP2, v_callKP1, v_callKP, v_callIO5, v_callIO4, v_callIO3, v_callIO2, v_callIO1, v_callIO, v_app7, v_app6, v_app5, v_app4, v_app3, v_app2, v_app1, v_app, v_sl6, v_sl5, v_sl4, v_sl3, v_sl2, v_sl1, v_sl, v_oS2, v_oS1, v_oS, v_iseq3, v_iseq2, v_iseq1, v_iseq, v_ienum3, v_ienum2, v_ienum1, v_ienum, v_irg1, v_irg, v_rgTup3, v_rgTup2, v_rgTup1, v_rgTup, v_argsc2, v_argsc1, v_argsc, v_putc1, v_putc, v_takesc2, v_takesc1, v_takesc, v_contsc2, v_contsc1, v_contsc, v_backsI2, v_backsI1, v_backsI, v_binF7, v_binF6, v_binF5, v_binF4, v_binF3, v_binF2, v_binF1, v_binF, v_par22, v_par21, v_par2, v_par32, v_par31, v_par3, v_ext8, v_ext7, v_ext6, v_ext5, v_ext4, v_ext3, v_ext2, v_ext1, v_ext, v_zip2, v_zip1, v_zip, v_irgB3, v_irgB2, v_irgB1, v_irgB, v_rgLst3, v_rgLst2, v_rgLst1, v_rgLst, v_rgTupB5, v_rgTupB4, v_rgTupB3, v_rgTupB2, v_rgTupB1, v_rgTupB, v_rgLstB5, v_rgLstB4, v_rgLstB3, v_rgLstB2, v_rgLstB1, v_rgLstB, v_ok, v_c, v_nil, v_next, v_yes, v_oN, v_gtup, v_var, v_for0, v_lc0, v_args0, v_put0, v_takes0, v_conts0, v_backs0, w_add, w_sub, w_neg, w_lt, w_le, w_gt, w_ge, w_intI, w_intB, w_ix0, w_ix1, w_ix2, w_i0, w_i1, w_i2, pend, cont, take, frz, frzs, getP, setP, Res.of, boolOf, isPl, mutS, mutP, intOf, move, retOf, backs1, put1, fzT, ioOf, chk, early, shut, isTmp, flatB, scal, List.map_cons, List.map_nil, List.cons_append, List.nil_append, List.append_nil, List.replicate_succ, List.replicate_zero, List.replicate, List.length_cons, List.length_nil, List.getElem?_cons_zero, List.getElem?_cons_succ, List.set_cons_zero, List.set_cons_succ, List.all_cons, List.all_nil, List.contains_cons, List.contains_nil, List.elem_cons, List.elem_nil, List.isEmpty_nil, List.isEmpty_cons, Nat.reduceAdd, Nat.reduceSub, Nat.reduceBEq, Nat.reduceLT, Nat.reduceLeDiff, Nat.reduceEqDiff, decide_true, decide_false, Bool.and_true, Bool.true_and, Bool.or_true, Bool.true_or, Bool.or_false, Bool.false_or, Bool.and_false, Bool.false_and, Bool.not_true, Bool.not_false, Bool.false_eq_true, reduceIte, ite_true, ite_false, beq_self_eq_true, Nat.zero_add, reduceCtorEq, and_self, true_and, and_true, ge_iff_le, gt_iff_lt, Nat.succ_eq_add_one, Nat.add_one_sub_one, Nat.zero_lt_succ, Nat.lt_add_left_iff_pos, wipeE, restE, pick, List.filterMap_cons, List.filterMap_nil, u_irg, u_irgB, Int.reduceLE, Int.reduceLT, Int.reduceNeg, u_unT, u_unL, u_unW, u_max, u_min, u_abs, u_tup, u_lst, u_lc, u_app0, u_app, u_ext0, u_ext, u_par2, u_par3, u_zip, u_aug0, u_aug, u_aug2, u_ch, u_ch1, u_ch2, u_ch3, e_int, ne_int, e_bl, ne_bl, q_aa, q_af, q_ac, q_fa, q_ff, q_fc, q_ca, q_cf, q_cc, is_non, is_int, isn_non, isn_int, ix_t0, ix_t1, ix_t2, ix_l0, ix_l1, x_asc, x_kco, x_ite, decide_eq_true_eq, Bool.not_eq_true', decide_eq_false_iff_not, u_srT, u_srL, u_srW, isT, seqV, tupV, lstV, u_join, Option.getD, len_l, e, ix]
theorem number_ok {m : Nat} {β : Bx} (g : Gd (m + 2) β) : ∃ (n : Int) (β' : Bx), Gd m β' ∧ F_law_number [bx β] = .ok (.fz (.int n), [bx β']) := by
  have p : fPow (.fz (.int 10)) (.fz (.int 29)) = .ok (.fz (.int (10 ^ 29))) := by kernel_rfl
  obtain ⟨r, β1, r0, r1, g1, e1⟩ := take_ok (m := m + 1) (n := 17) g (by omega) (by omega)
  obtain ⟨d, β', hd, g', e⟩ := of_ok (m := m) (ds := [.int 1, .int 1, .int 1, .int 1, .int 1, .int 1, .int 1, .int (10 ^ 29)]) g1 (by simp) (by simp)
  have : ∃ z : Int, d = .int z := by
    simp only [List.mem_cons, List.not_mem_nil, or_false] at hd
    rcases hd with rfl | rfl | rfl | rfl | rfl | rfl | rfl | rfl <;> exact ⟨_, rfl⟩
  obtain ⟨z, rfl⟩ := this
  have mu : fMul (.fz (.int (r - 8))) (.fz (.int z)) = .ok (.fz (.int ((r - 8) * z))) := w_mulL (by omega)
  refine ⟨(r - 8) * z, β', g', ?_⟩
  simp only [F_law_number, m_law_number, v_bin6, v_bin5, v_bin4, v_bin3, v_bin2, v_bin1, v_bin, v_un3, v_un2, v_un1, v_un, v_test2, v_test1, v_test, v_cons3, v_cons2, v_cons1, v_cons, v_star4, v_star3, v_star2, v_star1, v_star, v_tup2, v_tup1, v_tup, v_lst2, v_lst1, v_lst, v_callB3, v_callB2, v_callB1, v_callB, v_andT1, v_andT, v_orT1, v_orT, v_notT1, v_notT, v_and2, v_and1, v_and, v_or2, v_or1, v_or, v_not2, v_not1, v_not, v_if1, v_if, v_orL1, v_orL, v_seq1, v_seq, v_ifS1, v_ifS, v_ret2, v_ret1, v_ret, v_drop1, v_drop, v_asg3, v_asg2, v_asg1, v_asg, v_gset1, v_gset, v_gsub5, v_gsub4, v_gsub3, v_gsub2, v_gsub1, v_gsub, v_gsc1, v_gsc, v_gsn1, v_gsn, v_for1, v_for, v_forc2, v_forc1, v_forc, v_lcc2, v_lcc1, v_lcc, v_lcT3, v_lcT2, v_lcT1, v_lcT, v_lc4, v_lc1, v_lc, v_def4, v_def3, v_def2, v_def1, v_def, v_callV4, v_callV3, v_callV2, v_callV1, v_callV, v_callP4, v_callP3, v_callP2, v_callP1, v_callP, v_callKV5, v_callKV4, v_callKV3, v_callKV2, v_callKV1, v_callKV, v_callKP5, v_callKP4, v_callKP3, v_callKP2, v_callKP1, v_callKP, v_callIO5, v_callIO4, v_callIO3, v_callIO2, v_callIO1, v_callIO, v_app7, v_app6, v_app5, v_app4, v_app3, v_app2, v_app1, v_app, v_sl6, v_sl5, v_sl4, v_sl3, v_sl2, v_sl1, v_sl, v_oS2, v_oS1, v_oS, v_iseq3, v_iseq2, v_iseq1, v_iseq, v_ienum3, v_ienum2, v_ienum1, v_ienum, v_irg1, v_irg, v_rgTup3, v_rgTup2, v_rgTup1, v_rgTup, v_argsc2, v_argsc1, v_argsc, v_putc1, v_putc, v_takesc2, v_takesc1, v_takesc, v_contsc2, v_contsc1, v_contsc, v_backsI2, v_backsI1, v_backsI, v_binF7, v_binF6, v_binF5, v_binF4, v_binF3, v_binF2, v_binF1, v_binF, v_par22, v_par21, v_par2, v_par32, v_par31, v_par3, v_ext8, v_ext7, v_ext6, v_ext5, v_ext4, v_ext3, v_ext2, v_ext1, v_ext, v_zip2, v_zip1, v_zip, v_irgB3, v_irgB2, v_irgB1, v_irgB, v_rgLst3, v_rgLst2, v_rgLst1, v_rgLst, v_rgTupB5, v_rgTupB4, v_rgTupB3, v_rgTupB2, v_rgTupB1, v_rgTupB, v_rgLstB5, v_rgLstB4, v_rgLstB3, v_rgLstB2, v_rgLstB1, v_rgLstB, v_ok, v_c, v_nil, v_next, v_yes, v_oN, v_gtup, v_var, v_for0, v_lc0, v_args0, v_put0, v_takes0, v_conts0, v_backs0, w_add, w_sub, w_neg, w_lt, w_le, w_gt, w_ge, w_intI, w_intB, w_ix0, w_ix1, w_ix2, w_i0, w_i1, w_i2, pend, cont, take, frz, frzs, getP, setP, Res.of, boolOf, isPl, mutS, mutP, intOf, move, retOf, backs1, put1, fzT, ioOf, chk, early, shut, isTmp, flatB, scal, List.map_cons, List.map_nil, List.cons_append, List.nil_append, List.append_nil, List.replicate_succ, List.replicate_zero, List.replicate, List.length_cons, List.length_nil, List.getElem?_cons_zero, List.getElem?_cons_succ, List.set_cons_zero, List.set_cons_succ, List.all_cons, List.all_nil, List.contains_cons, List.contains_nil, List.elem_cons, List.elem_nil, List.isEmpty_nil, List.isEmpty_cons, Nat.reduceAdd, Nat.reduceSub, Nat.reduceBEq, Nat.reduceLT, Nat.reduceLeDiff, Nat.reduceEqDiff, decide_true, decide_false, Bool.and_true, Bool.true_and, Bool.or_true, Bool.true_or, Bool.or_false, Bool.false_or, Bool.and_false, Bool.false_and, Bool.not_true, Bool.not_false, Bool.false_eq_true, reduceIte, ite_true, ite_false, beq_self_eq_true, Nat.zero_add, reduceCtorEq, and_self, true_and, and_true, ge_iff_le, gt_iff_lt, Nat.succ_eq_add_one, Nat.add_one_sub_one, Nat.zero_lt_succ, Nat.lt_add_left_iff_pos, wipeE, restE, pick, List.filterMap_cons, List.filterMap_nil, u_irg, u_irgB, Int.reduceLE, Int.reduceLT, Int.reduceNeg, u_unT, u_unL, u_unW, u_max, u_min, u_abs, u_tup, u_lst, u_lc, u_app0, u_app, u_ext0, u_ext, u_par2, u_par3, u_zip, u_aug0, u_aug, u_aug2, u_ch, u_ch1, u_ch2, u_ch3, e_int, ne_int, e_bl, ne_bl, q_aa, q_af, q_ac, q_fa, q_ff, q_fc, q_ca, q_cf, q_cc, is_non, is_int, isn_non, isn_int, ix_t0, ix_t1, ix_t2, ix_l0, ix_l1, x_asc, x_kco, x_ite, decide_eq_true_eq, Bool.not_eq_true', decide_eq_false_iff_not, u_srT, u_srL, u_srW, isT, seqV, tupV, lstV, u_join, Option.getD, e1, p, e, mu]
theorem event_ok {m : Nat} {β : Bx} (g : Gd (m + 3) β) : ∃ (e : Wd × Int) (β' : Bx), Gd m β' ∧ F_law_event [bx β] = .ok (.fz (eE false e), [bx β']) := by
  obtain ⟨d1, β1, hd, g1, e1⟩ := of_ok (m := m + 2) (ds := [.str "add", .str "add", .str "floor", .str "cap"]) g (by simp) (by simp)
  have : ∃ w : Wd, d1 = .str (wd w) := by
    simp only [List.mem_cons, List.not_mem_nil, or_false] at hd
    rcases hd with rfl | rfl | rfl | rfl
    · exact ⟨.add, rfl⟩
    · exact ⟨.add, rfl⟩
    · exact ⟨.flo, rfl⟩
    · exact ⟨.cap, rfl⟩
  obtain ⟨w, rfl⟩ := this
  obtain ⟨n, β2, g2, e2⟩ := number_ok g1
  refine ⟨(w, n), β2, g2, ?_⟩
  simp only [F_law_event, m_law_event, v_bin6, v_bin5, v_bin4, v_bin3, v_bin2, v_bin1, v_bin, v_un3, v_un2, v_un1, v_un, v_test2, v_test1, v_test, v_cons3, v_cons2, v_cons1, v_cons, v_star4, v_star3, v_star2, v_star1, v_star, v_tup2, v_tup1, v_tup, v_lst2, v_lst1, v_lst, v_callB3, v_callB2, v_callB1, v_callB, v_andT1, v_andT, v_orT1, v_orT, v_notT1, v_notT, v_and2, v_and1, v_and, v_or2, v_or1, v_or, v_not2, v_not1, v_not, v_if1, v_if, v_orL1, v_orL, v_seq1, v_seq, v_ifS1, v_ifS, v_ret2, v_ret1, v_ret, v_drop1, v_drop, v_asg3, v_asg2, v_asg1, v_asg, v_gset1, v_gset, v_gsub5, v_gsub4, v_gsub3, v_gsub2, v_gsub1, v_gsub, v_gsc1, v_gsc, v_gsn1, v_gsn, v_for1, v_for, v_forc2, v_forc1, v_forc, v_lcc2, v_lcc1, v_lcc, v_lcT3, v_lcT2, v_lcT1, v_lcT, v_lc4, v_lc1, v_lc, v_def4, v_def3, v_def2, v_def1, v_def, v_callV4, v_callV3, v_callV2, v_callV1, v_callV, v_callP4, v_callP3, v_callP2, v_callP1, v_callP, v_callKV5, v_callKV4, v_callKV3, v_callKV2, v_callKV1, v_callKV, v_callKP5, v_callKP4, v_callKP3, v_callKP2, v_callKP1, v_callKP, v_callIO5, v_callIO4, v_callIO3, v_callIO2, v_callIO1, v_callIO, v_app7, v_app6, v_app5, v_app4, v_app3, v_app2, v_app1, v_app, v_sl6, v_sl5, v_sl4, v_sl3, v_sl2, v_sl1, v_sl, v_oS2, v_oS1, v_oS, v_iseq3, v_iseq2, v_iseq1, v_iseq, v_ienum3, v_ienum2, v_ienum1, v_ienum, v_irg1, v_irg, v_rgTup3, v_rgTup2, v_rgTup1, v_rgTup, v_argsc2, v_argsc1, v_argsc, v_putc1, v_putc, v_takesc2, v_takesc1, v_takesc, v_contsc2, v_contsc1, v_contsc, v_backsI2, v_backsI1, v_backsI, v_binF7, v_binF6, v_binF5, v_binF4, v_binF3, v_binF2, v_binF1, v_binF, v_par22, v_par21, v_par2, v_par32, v_par31, v_par3, v_ext8, v_ext7, v_ext6, v_ext5, v_ext4, v_ext3, v_ext2, v_ext1, v_ext, v_zip2, v_zip1, v_zip, v_irgB3, v_irgB2, v_irgB1, v_irgB, v_rgLst3, v_rgLst2, v_rgLst1, v_rgLst, v_rgTupB5, v_rgTupB4, v_rgTupB3, v_rgTupB2, v_rgTupB1, v_rgTupB, v_rgLstB5, v_rgLstB4, v_rgLstB3, v_rgLstB2, v_rgLstB1, v_rgLstB, v_ok, v_c, v_nil, v_next, v_yes, v_oN, v_gtup, v_var, v_for0, v_lc0, v_args0, v_put0, v_takes0, v_conts0, v_backs0, w_add, w_sub, w_neg, w_lt, w_le, w_gt, w_ge, w_intI, w_intB, w_ix0, w_ix1, w_ix2, w_i0, w_i1, w_i2, pend, cont, take, frz, frzs, getP, setP, Res.of, boolOf, isPl, mutS, mutP, intOf, move, retOf, backs1, put1, fzT, ioOf, chk, early, shut, isTmp, flatB, scal, List.map_cons, List.map_nil, List.cons_append, List.nil_append, List.append_nil, List.replicate_succ, List.replicate_zero, List.replicate, List.length_cons, List.length_nil, List.getElem?_cons_zero, List.getElem?_cons_succ, List.set_cons_zero, List.set_cons_succ, List.all_cons, List.all_nil, List.contains_cons, List.contains_nil, List.elem_cons, List.elem_nil, List.isEmpty_nil, List.isEmpty_cons, Nat.reduceAdd, Nat.reduceSub, Nat.reduceBEq, Nat.reduceLT, Nat.reduceLeDiff, Nat.reduceEqDiff, decide_true, decide_false, Bool.and_true, Bool.true_and, Bool.or_true, Bool.true_or, Bool.or_false, Bool.false_or, Bool.and_false, Bool.false_and, Bool.not_true, Bool.not_false, Bool.false_eq_true, reduceIte, ite_true, ite_false, beq_self_eq_true, Nat.zero_add, reduceCtorEq, and_self, true_and, and_true, ge_iff_le, gt_iff_lt, Nat.succ_eq_add_one, Nat.add_one_sub_one, Nat.zero_lt_succ, Nat.lt_add_left_iff_pos, wipeE, restE, pick, List.filterMap_cons, List.filterMap_nil, u_irg, u_irgB, Int.reduceLE, Int.reduceLT, Int.reduceNeg, u_unT, u_unL, u_unW, u_max, u_min, u_abs, u_tup, u_lst, u_lc, u_app0, u_app, u_ext0, u_ext, u_par2, u_par3, u_zip, u_aug0, u_aug, u_aug2, u_ch, u_ch1, u_ch2, u_ch3, e_int, ne_int, e_bl, ne_bl, q_aa, q_af, q_ac, q_fa, q_ff, q_fc, q_ca, q_cf, q_cc, is_non, is_int, isn_non, isn_int, ix_t0, ix_t1, ix_t2, ix_l0, ix_l1, x_asc, x_kco, x_ite, decide_eq_true_eq, Bool.not_eq_true', decide_eq_false_iff_not, u_srT, u_srL, u_srW, isT, seqV, tupV, lstV, u_join, Option.getD, e1, e2, eE, sq]
theorem ev_lc {M : Option W} : ∀ (ds : List D) (m : Nat) (β : Bx), Gd (m + 3 * ds.length) β → ∃ (r : List (Wd × Int)) (β' : Bx), Gd m β' ∧ r.length = ds.length ∧
    lcL [2] (gSet 2) cYes E_law_events_1 ds [some (bx β), M, none] = .ok (r.map fun e => W.fz (eE false e), [some (bx β'), M, none])
  | [], m, β, g => ⟨[], β, g, rfl, rfl⟩
  | d :: ds, m, β, g => by
    rw [List.length_cons] at g
    obtain ⟨e, β1, g1, e1⟩ := event_ok (m := m + 3 * ds.length) (g.le (by omega))
    obtain ⟨r, β', g', hl, e2⟩ := ev_lc (M := M) ds m β1 g1
    refine ⟨e :: r, β', g', by rw [List.length_cons, List.length_cons, hl], ?_⟩
    have hm : (e :: r).map (fun e => W.fz (eE false e)) = W.fz (eE false e) :: r.map fun e => W.fz (eE false e) := rfl
    rw [hm]
    generalize eE false e = q at *
    simp only [E_law_events_1, v_bin6, v_bin5, v_bin4, v_bin3, v_bin2, v_bin1, v_bin, v_un3, v_un2, v_un1, v_un, v_test2, v_test1, v_test, v_cons3, v_cons2, v_cons1, v_cons, v_star4, v_star3, v_star2, v_star1, v_star, v_tup2, v_tup1, v_tup, v_lst2, v_lst1, v_lst, v_callB3, v_callB2, v_callB1, v_callB, v_andT1, v_andT, v_orT1, v_orT, v_notT1, v_notT, v_and2, v_and1, v_and, v_or2, v_or1, v_or, v_not2, v_not1, v_not, v_if1, v_if, v_orL1, v_orL, v_seq1, v_seq, v_ifS1, v_ifS, v_ret2, v_ret1, v_ret, v_drop1, v_drop, v_asg3, v_asg2, v_asg1, v_asg, v_gset1, v_gset, v_gsub5, v_gsub4, v_gsub3, v_gsub2, v_gsub1, v_gsub, v_gsc1, v_gsc, v_gsn1, v_gsn, v_for1, v_for, v_forc2, v_forc1, v_forc, v_lcc2, v_lcc1, v_lcc, v_lcT3, v_lcT2, v_lcT1, v_lcT, v_lc4, v_lc1, v_lc, v_def4, v_def3, v_def2, v_def1, v_def, v_callV4, v_callV3, v_callV2, v_callV1, v_callV, v_callP4, v_callP3, v_callP2, v_callP1, v_callP, v_callKV5, v_callKV4, v_callKV3, v_callKV2, v_callKV1, v_callKV, v_callKP5, v_callKP4, v_callKP3, v_callKP2, v_callKP1, v_callKP, v_callIO5, v_callIO4, v_callIO3, v_callIO2, v_callIO1, v_callIO, v_app7, v_app6, v_app5, v_app4, v_app3, v_app2, v_app1, v_app, v_sl6, v_sl5, v_sl4, v_sl3, v_sl2, v_sl1, v_sl, v_oS2, v_oS1, v_oS, v_iseq3, v_iseq2, v_iseq1, v_iseq, v_ienum3, v_ienum2, v_ienum1, v_ienum, v_irg1, v_irg, v_rgTup3, v_rgTup2, v_rgTup1, v_rgTup, v_argsc2, v_argsc1, v_argsc, v_putc1, v_putc, v_takesc2, v_takesc1, v_takesc, v_contsc2, v_contsc1, v_contsc, v_backsI2, v_backsI1, v_backsI, v_binF7, v_binF6, v_binF5, v_binF4, v_binF3, v_binF2, v_binF1, v_binF, v_par22, v_par21, v_par2, v_par32, v_par31, v_par3, v_ext8, v_ext7, v_ext6, v_ext5, v_ext4, v_ext3, v_ext2, v_ext1, v_ext, v_zip2, v_zip1, v_zip, v_irgB3, v_irgB2, v_irgB1, v_irgB, v_rgLst3, v_rgLst2, v_rgLst1, v_rgLst, v_rgTupB5, v_rgTupB4, v_rgTupB3, v_rgTupB2, v_rgTupB1, v_rgTupB, v_rgLstB5, v_rgLstB4, v_rgLstB3, v_rgLstB2, v_rgLstB1, v_rgLstB, v_ok, v_c, v_nil, v_next, v_yes, v_oN, v_gtup, v_var, v_for0, v_lc0, v_args0, v_put0, v_takes0, v_conts0, v_backs0, w_add, w_sub, w_neg, w_lt, w_le, w_gt, w_ge, w_intI, w_intB, w_ix0, w_ix1, w_ix2, w_i0, w_i1, w_i2, pend, cont, take, frz, frzs, getP, setP, Res.of, boolOf, isPl, mutS, mutP, intOf, move, retOf, backs1, put1, fzT, ioOf, chk, early, shut, isTmp, flatB, scal, List.map_cons, List.map_nil, List.cons_append, List.nil_append, List.append_nil, List.replicate_succ, List.replicate_zero, List.replicate, List.length_cons, List.length_nil, List.getElem?_cons_zero, List.getElem?_cons_succ, List.set_cons_zero, List.set_cons_succ, List.all_cons, List.all_nil, List.contains_cons, List.contains_nil, List.elem_cons, List.elem_nil, List.isEmpty_nil, List.isEmpty_cons, Nat.reduceAdd, Nat.reduceSub, Nat.reduceBEq, Nat.reduceLT, Nat.reduceLeDiff, Nat.reduceEqDiff, decide_true, decide_false, Bool.and_true, Bool.true_and, Bool.or_true, Bool.true_or, Bool.or_false, Bool.false_or, Bool.and_false, Bool.false_and, Bool.not_true, Bool.not_false, Bool.false_eq_true, reduceIte, ite_true, ite_false, beq_self_eq_true, Nat.zero_add, reduceCtorEq, and_self, true_and, and_true, ge_iff_le, gt_iff_lt, Nat.succ_eq_add_one, Nat.add_one_sub_one, Nat.zero_lt_succ, Nat.lt_add_left_iff_pos, wipeE, restE, pick, List.filterMap_cons, List.filterMap_nil, u_irg, u_irgB, Int.reduceLE, Int.reduceLT, Int.reduceNeg, u_unT, u_unL, u_unW, u_max, u_min, u_abs, u_tup, u_lst, u_lc, u_app0, u_app, u_ext0, u_ext, u_par2, u_par3, u_zip, u_aug0, u_aug, u_aug2, u_ch, u_ch1, u_ch2, u_ch3, e_int, ne_int, e_bl, ne_bl, q_aa, q_af, q_ac, q_fa, q_ff, q_fc, q_ca, q_cf, q_cc, is_non, is_int, isn_non, isn_int, ix_t0, ix_t1, ix_t2, ix_l0, ix_l1, x_asc, x_kco, x_ite, decide_eq_true_eq, Bool.not_eq_true', decide_eq_false_iff_not, u_srT, u_srL, u_srW, isT, seqV, tupV, lstV, u_join, Option.getD, e1, e2]
theorem frz_ev (r : List (Wd × Int)) : frzs (r.map fun e => W.fz (eE false e)) = r.map (eE false) := frzs_fz _ _
theorem events_ok {m : Nat} {β : Bx} (g : Gd (m + 37) β) : ∃ (r : List (Wd × Int)) (β' : Bx), Gd m β' ∧ r.length ≤ 12 ∧ F_law_events [bx β, .fz (.int 12)] = .ok (.fz (eR false r), [bx β', .fz (.int 12)]) := by
  obtain ⟨s, β1, s0, s1, g1, e1⟩ := take_ok (m := m + 36) (n := 12 + 1) g (by omega) (by omega)
  have hl : (rangeD 0 s.toNat).length = s.toNat := by simp [rangeD]
  obtain ⟨r, β', g', l', e'⟩ := ev_lc (M := some (.fz (.int 12))) (rangeD 0 s.toNat) m β1 (g1.le (by rw [hl]; omega))
  refine ⟨r, β', g', by omega, ?_⟩
  have hn : -1000000 ≤ s ∧ s ≤ 1000000 := by omega
  have hl2 : (rangeD 0 s.toNat).length ≤ 1000000 := by omega
  have tp : fTuple [.fz (.lst (r.map (eE false)))] = .ok (.fz (eR false r)) := rfl
  have fr := frz_ev r
  generalize eR false r = R at *
  simp only [F_law_events, m_law_events, v_bin6, v_bin5, v_bin4, v_bin3, v_bin2, v_bin1, v_bin, v_un3, v_un2, v_un1, v_un, v_test2, v_test1, v_test, v_cons3, v_cons2, v_cons1, v_cons, v_star4, v_star3, v_star2, v_star1, v_star, v_tup2, v_tup1, v_tup, v_lst2, v_lst1, v_lst, v_callB3, v_callB2, v_callB1, v_callB, v_andT1, v_andT, v_orT1, v_orT, v_notT1, v_notT, v_and2, v_and1, v_and, v_or2, v_or1, v_or, v_not2, v_not1, v_not, v_if1, v_if, v_orL1, v_orL, v_seq1, v_seq, v_ifS1, v_ifS, v_ret2, v_ret1, v_ret, v_drop1, v_drop, v_asg3, v_asg2, v_asg1, v_asg, v_gset1, v_gset, v_gsub5, v_gsub4, v_gsub3, v_gsub2, v_gsub1, v_gsub, v_gsc1, v_gsc, v_gsn1, v_gsn, v_for1, v_for, v_forc2, v_forc1, v_forc, v_lcc2, v_lcc1, v_lcc, v_lcT3, v_lcT2, v_lcT1, v_lcT, v_lc4, v_lc1, v_lc, v_def4, v_def3, v_def2, v_def1, v_def, v_callV4, v_callV3, v_callV2, v_callV1, v_callV, v_callP4, v_callP3, v_callP2, v_callP1, v_callP, v_callKV5, v_callKV4, v_callKV3, v_callKV2, v_callKV1, v_callKV, v_callKP5, v_callKP4, v_callKP3, v_callKP2, v_callKP1, v_callKP, v_callIO5, v_callIO4, v_callIO3, v_callIO2, v_callIO1, v_callIO, v_app7, v_app6, v_app5, v_app4, v_app3, v_app2, v_app1, v_app, v_sl6, v_sl5, v_sl4, v_sl3, v_sl2, v_sl1, v_sl, v_oS2, v_oS1, v_oS, v_iseq3, v_iseq2, v_iseq1, v_iseq, v_ienum3, v_ienum2, v_ienum1, v_ienum, v_irg1, v_irg, v_rgTup3, v_rgTup2, v_rgTup1, v_rgTup, v_argsc2, v_argsc1, v_argsc, v_putc1, v_putc, v_takesc2, v_takesc1, v_takesc, v_contsc2, v_contsc1, v_contsc, v_backsI2, v_backsI1, v_backsI, v_binF7, v_binF6, v_binF5, v_binF4, v_binF3, v_binF2, v_binF1, v_binF, v_par22, v_par21, v_par2, v_par32, v_par31, v_par3, v_ext8, v_ext7, v_ext6, v_ext5, v_ext4, v_ext3, v_ext2, v_ext1, v_ext, v_zip2, v_zip1, v_zip, v_irgB3, v_irgB2, v_irgB1, v_irgB, v_rgLst3, v_rgLst2, v_rgLst1, v_rgLst, v_rgTupB5, v_rgTupB4, v_rgTupB3, v_rgTupB2, v_rgTupB1, v_rgTupB, v_rgLstB5, v_rgLstB4, v_rgLstB3, v_rgLstB2, v_rgLstB1, v_rgLstB, v_ok, v_c, v_nil, v_next, v_yes, v_oN, v_gtup, v_var, v_for0, v_lc0, v_args0, v_put0, v_takes0, v_conts0, v_backs0, w_add, w_sub, w_neg, w_lt, w_le, w_gt, w_ge, w_intI, w_intB, w_ix0, w_ix1, w_ix2, w_i0, w_i1, w_i2, pend, cont, take, frz, frzs, getP, setP, Res.of, boolOf, isPl, mutS, mutP, intOf, move, retOf, backs1, put1, fzT, ioOf, chk, early, shut, isTmp, flatB, scal, List.map_cons, List.map_nil, List.cons_append, List.nil_append, List.append_nil, List.replicate_succ, List.replicate_zero, List.replicate, List.length_cons, List.length_nil, List.getElem?_cons_zero, List.getElem?_cons_succ, List.set_cons_zero, List.set_cons_succ, List.all_cons, List.all_nil, List.contains_cons, List.contains_nil, List.elem_cons, List.elem_nil, List.isEmpty_nil, List.isEmpty_cons, Nat.reduceAdd, Nat.reduceSub, Nat.reduceBEq, Nat.reduceLT, Nat.reduceLeDiff, Nat.reduceEqDiff, decide_true, decide_false, Bool.and_true, Bool.true_and, Bool.or_true, Bool.true_or, Bool.or_false, Bool.false_or, Bool.and_false, Bool.false_and, Bool.not_true, Bool.not_false, Bool.false_eq_true, reduceIte, ite_true, ite_false, beq_self_eq_true, Nat.zero_add, reduceCtorEq, and_self, true_and, and_true, ge_iff_le, gt_iff_lt, Nat.succ_eq_add_one, Nat.add_one_sub_one, Nat.zero_lt_succ, Nat.lt_add_left_iff_pos, wipeE, restE, pick, List.filterMap_cons, List.filterMap_nil, u_irg, u_irgB, Int.reduceLE, Int.reduceLT, Int.reduceNeg, u_unT, u_unL, u_unW, u_max, u_min, u_abs, u_tup, u_lst, u_lc, u_app0, u_app, u_ext0, u_ext, u_par2, u_par3, u_zip, u_aug0, u_aug, u_aug2, u_ch, u_ch1, u_ch2, u_ch3, e_int, ne_int, e_bl, ne_bl, q_aa, q_af, q_ac, q_fa, q_ff, q_fc, q_ca, q_cf, q_cc, is_non, is_int, isn_non, isn_int, ix_t0, ix_t1, ix_t2, ix_l0, ix_l1, x_asc, x_kco, x_ite, decide_eq_true_eq, Bool.not_eq_true', decide_eq_false_iff_not, u_srT, u_srL, u_srW, isT, seqV, tupV, lstV, u_join, Option.getD, e1, hn, hl2, e', fr, tp]
def odd : List D := [.non, .bl true, .bl false, .int 0, .int (-3), .str "", .str "add", .str "Cap", .str "floors", .tup [], .lst [], .tup [.str "add", .int 1], .tup [.str "cap"], .tup [.str "add", .str "1"], .tup [.str "floor", .int 2]]
theorem odd_pl : ∀ d ∈ odd, PL 2 3 d := fun d hd => by
  have st : ∀ s : Str, PyData.strOk s = true → ∀ n, PL 2 (n + 1) (.str s) := fun s h n => h
  have pr : ∀ a b : D, PL 2 2 a → PL 2 2 b → PL 2 3 (.tup [a, b]) := fun a b ha hb => ⟨by simp, fun d hd => by
    simp only [List.mem_cons, List.not_mem_nil, or_false] at hd
    rcases hd with rfl | rfl
    · exact ha
    · exact hb⟩
  simp only [odd, List.mem_cons, List.not_mem_nil, or_false] at hd
  rcases hd with rfl | rfl | rfl | rfl | rfl | rfl | rfl | rfl | rfl | rfl | rfl | rfl | rfl | rfl | rfl
  · trivial
  · trivial
  · trivial
  · trivial
  · trivial
  · exact st _ (by kernel_rfl) 2
  · exact st _ (by kernel_rfl) 2
  · exact st _ (by kernel_rfl) 2
  · exact st _ (by kernel_rfl) 2
  · exact ⟨by simp, fun d hd => by cases hd⟩
  · exact ⟨by simp, fun d hd => by cases hd⟩
  · exact pr _ _ (st _ (by kernel_rfl) 1) trivial
  · exact ⟨by simp, fun d hd => by
      simp only [List.mem_cons, List.not_mem_nil, or_false] at hd
      subst hd
      exact st _ (by kernel_rfl) 1⟩
  · exact pr _ _ (st _ (by kernel_rfl) 1) (st _ (by kernel_rfl) 1)
  · exact pr _ _ (st _ (by kernel_rfl) 1) trivial
theorem eq_nilT {n : Nat} {ds : List D} (h : pln n (.tup ds)) (hn : n ≤ 60) : fEq (.fz (.tup ds)) (.fz (.tup [])) = .ok (.fz (.bl ds.isEmpty)) := by
  obtain ⟨p, h1, h2, h3, _⟩ := pln_py n (.tup ds) h
  have hs := shp h2 h3 hn
  have hs2 : SeqAt.shaped (.tuple []) = true := by kernel_rfl
  have hp : py (.tup []) = some (.tuple []) := rfl
  have ev : PyData.eqv p (.tuple []) = ds.isEmpty := by
    cases ds with
    | nil =>
      have : p = .tuple [] := by rw [hp] at h1; exact (Option.some.inj h1).symm
      subst this
      simp [PyData.eqv, PyData.eqvAll]
    | cons d ds =>
      have : ∃ a r, p = .tuple (a :: r) := by
        simp only [py, pys] at h1
        cases hd : py d with
        | none => rw [hd] at h1; simp at h1
        | some a => cases hr : pys ds with
          | none => rw [hd, hr] at h1; simp at h1
          | some r => rw [hd, hr] at h1; exact ⟨a, r, by simpa using h1.symm⟩
      obtain ⟨a, r, rfl⟩ := this
      simp [PyData.eqv, PyData.eqvAll]
  unfold fEq eqW
  simp only [frz, h1, hp, hs, hs2, ev, Bool.and_self, if_true, v_ok]
def odd14 : List W := [.fz .non, .fz (.bl true), .fz (.bl false), .fz (.int 0), .fz (.int (-3)), .fz (.str ""), .fz (.str "add"), .fz (.str "Cap"), .fz (.str "floors"), .fz (.tup []), .lst [], .fz (.tup [.str "add", .int 1]), .fz (.tup [.str "cap"]), .fz (.tup [.str "add", .str "1"])]
section
variable {X X1 X2 X3 : W} {M O A B AB T E : D} {o3 o4 o5 : Option W} {k s j L : Int} {w : W} {OW : List W} {OD : List D}
theorem b_1 : cAsg (gSet 3) (cLst true (cCons true (cC .non) (cCons true (cC (.bl true)) (cCons true (cC (.bl false)) (cCons true (cC (.int 0)) (cCons true (cUn fNeg (cC (.int 3))) (cCons true (cC (.str "")) (cCons true (cC (.str "add")) (cCons true (cC (.str "Cap")) (cCons true (cC (.str "floors")) (cCons true (cTup true cNil) (cCons true (cLst true cNil) (cCons true (cTup true (cCons true (cC (.str "add")) (cCons true (cC (.int 1)) cNil))) (cCons true (cTup true (cCons true (cC (.str "cap")) cNil)) (cCons true (cTup true (cCons true (cC (.str "add")) (cCons true (cC (.str "1")) cNil))) cNil))))))))))))))) [some X, some (.fz M), some (.fz (.int k)), none, o4, o5] = .ok (.nx, [some X, some (.fz M), some (.fz (.int k)), some (.lst odd14), o4, o5]) := by
  unfold odd14
  simp only [v_bin6, v_bin5, v_bin4, v_bin3, v_bin2, v_bin1, v_bin, v_un3, v_un2, v_un1, v_un, v_test2, v_test1, v_test, v_cons3, v_cons2, v_cons1, v_cons, v_star4, v_star3, v_star2, v_star1, v_star, v_tup2, v_tup1, v_tup, v_lst2, v_lst1, v_lst, v_callB3, v_callB2, v_callB1, v_callB, v_andT1, v_andT, v_orT1, v_orT, v_notT1, v_notT, v_and2, v_and1, v_and, v_or2, v_or1, v_or, v_not2, v_not1, v_not, v_if1, v_if, v_orL1, v_orL, v_seq1, v_seq, v_ifS1, v_ifS, v_ret2, v_ret1, v_ret, v_drop1, v_drop, v_asg3, v_asg2, v_asg1, v_asg, v_gset1, v_gset, v_gsub5, v_gsub4, v_gsub3, v_gsub2, v_gsub1, v_gsub, v_gsc1, v_gsc, v_gsn1, v_gsn, v_for1, v_for, v_forc2, v_forc1, v_forc, v_lcc2, v_lcc1, v_lcc, v_lcT3, v_lcT2, v_lcT1, v_lcT, v_lc4, v_lc1, v_lc, v_def4, v_def3, v_def2, v_def1, v_def, v_callV4, v_callV3, v_callV2, v_callV1, v_callV, v_callP4, v_callP3, v_callP2, v_callP1, v_callP, v_callKV5, v_callKV4, v_callKV3, v_callKV2, v_callKV1, v_callKV, v_callKP5, v_callKP4, v_callKP3, v_callKP2, v_callKP1, v_callKP, v_callIO5, v_callIO4, v_callIO3, v_callIO2, v_callIO1, v_callIO, v_app7, v_app6, v_app5, v_app4, v_app3, v_app2, v_app1, v_app, v_sl6, v_sl5, v_sl4, v_sl3, v_sl2, v_sl1, v_sl, v_oS2, v_oS1, v_oS, v_iseq3, v_iseq2, v_iseq1, v_iseq, v_ienum3, v_ienum2, v_ienum1, v_ienum, v_irg1, v_irg, v_rgTup3, v_rgTup2, v_rgTup1, v_rgTup, v_argsc2, v_argsc1, v_argsc, v_putc1, v_putc, v_takesc2, v_takesc1, v_takesc, v_contsc2, v_contsc1, v_contsc, v_backsI2, v_backsI1, v_backsI, v_binF7, v_binF6, v_binF5, v_binF4, v_binF3, v_binF2, v_binF1, v_binF, v_par22, v_par21, v_par2, v_par32, v_par31, v_par3, v_ext8, v_ext7, v_ext6, v_ext5, v_ext4, v_ext3, v_ext2, v_ext1, v_ext, v_zip2, v_zip1, v_zip, v_irgB3, v_irgB2, v_irgB1, v_irgB, v_rgLst3, v_rgLst2, v_rgLst1, v_rgLst, v_rgTupB5, v_rgTupB4, v_rgTupB3, v_rgTupB2, v_rgTupB1, v_rgTupB, v_rgLstB5, v_rgLstB4, v_rgLstB3, v_rgLstB2, v_rgLstB1, v_rgLstB, v_ok, v_c, v_nil, v_next, v_yes, v_oN, v_gtup, v_var, v_for0, v_lc0, v_args0, v_put0, v_takes0, v_conts0, v_backs0, w_add, w_sub, w_neg, w_lt, w_le, w_gt, w_ge, w_intI, w_intB, w_ix0, w_ix1, w_ix2, w_i0, w_i1, w_i2, pend, cont, take, frz, frzs, getP, setP, Res.of, boolOf, isPl, mutS, mutP, intOf, move, retOf, backs1, put1, fzT, ioOf, chk, early, shut, isTmp, flatB, scal, List.map_cons, List.map_nil, List.cons_append, List.nil_append, List.append_nil, List.replicate_succ, List.replicate_zero, List.replicate, List.length_cons, List.length_nil, List.getElem?_cons_zero, List.getElem?_cons_succ, List.set_cons_zero, List.set_cons_succ, List.all_cons, List.all_nil, List.contains_cons, List.contains_nil, List.elem_cons, List.elem_nil, List.isEmpty_nil, List.isEmpty_cons, Nat.reduceAdd, Nat.reduceSub, Nat.reduceBEq, Nat.reduceLT, Nat.reduceLeDiff, Nat.reduceEqDiff, decide_true, decide_false, Bool.and_true, Bool.true_and, Bool.or_true, Bool.true_or, Bool.or_false, Bool.false_or, Bool.and_false, Bool.false_and, Bool.not_true, Bool.not_false, Bool.false_eq_true, reduceIte, ite_true, ite_false, beq_self_eq_true, Nat.zero_add, reduceCtorEq, and_self, true_and, and_true, ge_iff_le, gt_iff_lt, Nat.succ_eq_add_one, Nat.add_one_sub_one, Nat.zero_lt_succ, Nat.lt_add_left_iff_pos, wipeE, restE, pick, List.filterMap_cons, List.filterMap_nil, u_irg, u_irgB, Int.reduceLE, Int.reduceLT, Int.reduceNeg, u_unT, u_unL, u_unW, u_max, u_min, u_abs, u_tup, u_lst, u_lc, u_app0, u_app, u_ext0, u_ext, u_par2, u_par3, u_zip, u_aug0, u_aug, u_aug2, u_ch, u_ch1, u_ch2, u_ch3, e_int, ne_int, e_bl, ne_bl, q_aa, q_af, q_ac, q_fa, q_ff, q_fc, q_ca, q_cf, q_cc, is_non, is_int, isn_non, isn_int, ix_t0, ix_t1, ix_t2, ix_l0, ix_l1, x_asc, x_kco, x_ite, decide_eq_true_eq, Bool.not_eq_true', decide_eq_false_iff_not, u_srT, u_srL, u_srW, isT, seqV, tupV, lstV, u_join, Option.getD]
theorem b_2 : cAsg (gSet 3) (cBinF fAdd true (cVar 3) (cLst true (cCons true (cTup true (cCons true (cC (.str "floor")) (cCons true (cC (.int 2)) cNil))) cNil))) [some X, some (.fz M), some (.fz (.int k)), some (.lst odd14), o4, o5] = .ok (.nx, [some X, some (.fz M), some (.fz (.int k)), some (.lst (odd.map W.fz)), o4, o5]) := by
  have a : fAdd (.fz (.lst (frzs odd14))) (.lst [.fz (.tup [.str "floor", .int 2])]) = .ok (.lst (odd.map W.fz)) := by kernel_rfl
  have a2 : fAdd (.fz (.lst (frzs odd14))) (.fz (.lst [.tup [.str "floor", .int 2]])) = .ok (.lst (odd.map W.fz)) := by kernel_rfl
  obtain ⟨OD, hOD⟩ : ∃ OD, frzs odd14 = OD := ⟨_, rfl⟩
  rw [hOD] at a a2
  generalize odd.map W.fz = Q at *
  generalize odd14 = OW at *
  simp only [v_bin6, v_bin5, v_bin4, v_bin3, v_bin2, v_bin1, v_bin, v_un3, v_un2, v_un1, v_un, v_test2, v_test1, v_test, v_cons3, v_cons2, v_cons1, v_cons, v_star4, v_star3, v_star2, v_star1, v_star, v_tup2, v_tup1, v_tup, v_lst2, v_lst1, v_lst, v_callB3, v_callB2, v_callB1, v_callB, v_andT1, v_andT, v_orT1, v_orT, v_notT1, v_notT, v_and2, v_and1, v_and, v_or2, v_or1, v_or, v_not2, v_not1, v_not, v_if1, v_if, v_orL1, v_orL, v_seq1, v_seq, v_ifS1, v_ifS, v_ret2, v_ret1, v_ret, v_drop1, v_drop, v_asg3, v_asg2, v_asg1, v_asg, v_gset1, v_gset, v_gsub5, v_gsub4, v_gsub3, v_gsub2, v_gsub1, v_gsub, v_gsc1, v_gsc, v_gsn1, v_gsn, v_for1, v_for, v_forc2, v_forc1, v_forc, v_lcc2, v_lcc1, v_lcc, v_lcT3, v_lcT2, v_lcT1, v_lcT, v_lc4, v_lc1, v_lc, v_def4, v_def3, v_def2, v_def1, v_def, v_callV4, v_callV3, v_callV2, v_callV1, v_callV, v_callP4, v_callP3, v_callP2, v_callP1, v_callP, v_callKV5, v_callKV4, v_callKV3, v_callKV2, v_callKV1, v_callKV, v_callKP5, v_callKP4, v_callKP3, v_callKP2, v_callKP1, v_callKP, v_callIO5, v_callIO4, v_callIO3, v_callIO2, v_callIO1, v_callIO, v_app7, v_app6, v_app5, v_app4, v_app3, v_app2, v_app1, v_app, v_sl6, v_sl5, v_sl4, v_sl3, v_sl2, v_sl1, v_sl, v_oS2, v_oS1, v_oS, v_iseq3, v_iseq2, v_iseq1, v_iseq, v_ienum3, v_ienum2, v_ienum1, v_ienum, v_irg1, v_irg, v_rgTup3, v_rgTup2, v_rgTup1, v_rgTup, v_argsc2, v_argsc1, v_argsc, v_putc1, v_putc, v_takesc2, v_takesc1, v_takesc, v_contsc2, v_contsc1, v_contsc, v_backsI2, v_backsI1, v_backsI, v_binF7, v_binF6, v_binF5, v_binF4, v_binF3, v_binF2, v_binF1, v_binF, v_par22, v_par21, v_par2, v_par32, v_par31, v_par3, v_ext8, v_ext7, v_ext6, v_ext5, v_ext4, v_ext3, v_ext2, v_ext1, v_ext, v_zip2, v_zip1, v_zip, v_irgB3, v_irgB2, v_irgB1, v_irgB, v_rgLst3, v_rgLst2, v_rgLst1, v_rgLst, v_rgTupB5, v_rgTupB4, v_rgTupB3, v_rgTupB2, v_rgTupB1, v_rgTupB, v_rgLstB5, v_rgLstB4, v_rgLstB3, v_rgLstB2, v_rgLstB1, v_rgLstB, v_ok, v_c, v_nil, v_next, v_yes, v_oN, v_gtup, v_var, v_for0, v_lc0, v_args0, v_put0, v_takes0, v_conts0, v_backs0, w_add, w_sub, w_neg, w_lt, w_le, w_gt, w_ge, w_intI, w_intB, w_ix0, w_ix1, w_ix2, w_i0, w_i1, w_i2, pend, cont, take, frz, frzs, getP, setP, Res.of, boolOf, isPl, mutS, mutP, intOf, move, retOf, backs1, put1, fzT, ioOf, chk, early, shut, isTmp, flatB, scal, List.map_cons, List.map_nil, List.cons_append, List.nil_append, List.append_nil, List.replicate_succ, List.replicate_zero, List.replicate, List.length_cons, List.length_nil, List.getElem?_cons_zero, List.getElem?_cons_succ, List.set_cons_zero, List.set_cons_succ, List.all_cons, List.all_nil, List.contains_cons, List.contains_nil, List.elem_cons, List.elem_nil, List.isEmpty_nil, List.isEmpty_cons, Nat.reduceAdd, Nat.reduceSub, Nat.reduceBEq, Nat.reduceLT, Nat.reduceLeDiff, Nat.reduceEqDiff, decide_true, decide_false, Bool.and_true, Bool.true_and, Bool.or_true, Bool.true_or, Bool.or_false, Bool.false_or, Bool.and_false, Bool.false_and, Bool.not_true, Bool.not_false, Bool.false_eq_true, reduceIte, ite_true, ite_false, beq_self_eq_true, Nat.zero_add, reduceCtorEq, and_self, true_and, and_true, ge_iff_le, gt_iff_lt, Nat.succ_eq_add_one, Nat.add_one_sub_one, Nat.zero_lt_succ, Nat.lt_add_left_iff_pos, wipeE, restE, pick, List.filterMap_cons, List.filterMap_nil, u_irg, u_irgB, Int.reduceLE, Int.reduceLT, Int.reduceNeg, u_unT, u_unL, u_unW, u_max, u_min, u_abs, u_tup, u_lst, u_lc, u_app0, u_app, u_ext0, u_ext, u_par2, u_par3, u_zip, u_aug0, u_aug, u_aug2, u_ch, u_ch1, u_ch2, u_ch3, e_int, ne_int, e_bl, ne_bl, q_aa, q_af, q_ac, q_fa, q_ff, q_fc, q_ca, q_cf, q_cc, is_non, is_int, isn_non, isn_int, ix_t0, ix_t1, ix_t2, ix_l0, ix_l1, x_asc, x_kco, x_ite, decide_eq_true_eq, Bool.not_eq_true', decide_eq_false_iff_not, u_srT, u_srL, u_srW, isT, seqV, tupV, lstV, u_join, Option.getD, hOD, a, a2]
theorem b_3 {FT FO : Fn} {c1 c2 c3 c4 : Bool} (hX : ∃ ws, X = .lst ws) (hX1 : ∃ ws, X1 = .lst ws) (q1 : c1 = decide (k = 0)) (i : fIsi ["tuple"] (.fz M) = .ok (.fz (.bl c2))) (q3 : fEq (.fz M) (.fz (.tup [])) = .ok (.fz (.bl c3)))  (tk : FT [X, .fz (.int 6)] = .ok (.fz (.int j), [X1, .fz (.int 6)])) (q4 : c4 = decide (j = 0)) (hc : c1 = false ∧ c2 = true ∧ c3 = false ∧ c4 = false) : cIfS (cOrT (cTest (cBin fEq true (cVar 2) (cC (.int 0)))) (cOrT (cNotT (cTest (cUn (fIsi ["tuple"]) (cVar 1)))) (cOrT (cTest (cBin fEq true (cVar 1) (cTup true cNil))) (cTest (cBin fEq true (cCallIO FT (ioOf [0]) (cCons true (cVar 0) (cCons true (cC (.int 6)) cNil))) (cC (.int 0))))))) (cRet (cCallIO FO (ioOf [0]) (cCons true (cVar 0) (cCons true (cVar 3) cNil)))) cNext [some X, some (.fz M), some (.fz (.int k)), some (.lst OW), o4, o5] = .ok (.nx, [some X1, some (.fz M), some (.fz (.int k)), some (.lst OW), o4, o5]) := by
  obtain ⟨a, rfl⟩ := hX
  obtain ⟨b, rfl⟩ := hX1
  obtain ⟨h1, h2, h3, h4⟩ := hc
  subst h1; subst h2; subst h3; subst h4
  have k0 : (k = 0) = False := by simpa using q1.symm
  have j0 : (j = 0) = False := by simpa using q4.symm
  simp only [v_bin6, v_bin5, v_bin4, v_bin3, v_bin2, v_bin1, v_bin, v_un3, v_un2, v_un1, v_un, v_test2, v_test1, v_test, v_cons3, v_cons2, v_cons1, v_cons, v_star4, v_star3, v_star2, v_star1, v_star, v_tup2, v_tup1, v_tup, v_lst2, v_lst1, v_lst, v_callB3, v_callB2, v_callB1, v_callB, v_andT1, v_andT, v_orT1, v_orT, v_notT1, v_notT, v_and2, v_and1, v_and, v_or2, v_or1, v_or, v_not2, v_not1, v_not, v_if1, v_if, v_orL1, v_orL, v_seq1, v_seq, v_ifS1, v_ifS, v_ret2, v_ret1, v_ret, v_drop1, v_drop, v_asg3, v_asg2, v_asg1, v_asg, v_gset1, v_gset, v_gsub5, v_gsub4, v_gsub3, v_gsub2, v_gsub1, v_gsub, v_gsc1, v_gsc, v_gsn1, v_gsn, v_for1, v_for, v_forc2, v_forc1, v_forc, v_lcc2, v_lcc1, v_lcc, v_lcT3, v_lcT2, v_lcT1, v_lcT, v_lc4, v_lc1, v_lc, v_def4, v_def3, v_def2, v_def1, v_def, v_callV4, v_callV3, v_callV2, v_callV1, v_callV, v_callP4, v_callP3, v_callP2, v_callP1, v_callP, v_callKV5, v_callKV4, v_callKV3, v_callKV2, v_callKV1, v_callKV, v_callKP5, v_callKP4, v_callKP3, v_callKP2, v_callKP1, v_callKP, v_callIO5, v_callIO4, v_callIO3, v_callIO2, v_callIO1, v_callIO, v_app7, v_app6, v_app5, v_app4, v_app3, v_app2, v_app1, v_app, v_sl6, v_sl5, v_sl4, v_sl3, v_sl2, v_sl1, v_sl, v_oS2, v_oS1, v_oS, v_iseq3, v_iseq2, v_iseq1, v_iseq, v_ienum3, v_ienum2, v_ienum1, v_ienum, v_irg1, v_irg, v_rgTup3, v_rgTup2, v_rgTup1, v_rgTup, v_argsc2, v_argsc1, v_argsc, v_putc1, v_putc, v_takesc2, v_takesc1, v_takesc, v_contsc2, v_contsc1, v_contsc, v_backsI2, v_backsI1, v_backsI, v_binF7, v_binF6, v_binF5, v_binF4, v_binF3, v_binF2, v_binF1, v_binF, v_par22, v_par21, v_par2, v_par32, v_par31, v_par3, v_ext8, v_ext7, v_ext6, v_ext5, v_ext4, v_ext3, v_ext2, v_ext1, v_ext, v_zip2, v_zip1, v_zip, v_irgB3, v_irgB2, v_irgB1, v_irgB, v_rgLst3, v_rgLst2, v_rgLst1, v_rgLst, v_rgTupB5, v_rgTupB4, v_rgTupB3, v_rgTupB2, v_rgTupB1, v_rgTupB, v_rgLstB5, v_rgLstB4, v_rgLstB3, v_rgLstB2, v_rgLstB1, v_rgLstB, v_ok, v_c, v_nil, v_next, v_yes, v_oN, v_gtup, v_var, v_for0, v_lc0, v_args0, v_put0, v_takes0, v_conts0, v_backs0, w_add, w_sub, w_neg, w_lt, w_le, w_gt, w_ge, w_intI, w_intB, w_ix0, w_ix1, w_ix2, w_i0, w_i1, w_i2, pend, cont, take, frz, frzs, getP, setP, Res.of, boolOf, isPl, mutS, mutP, intOf, move, retOf, backs1, put1, fzT, ioOf, chk, early, shut, isTmp, flatB, scal, List.map_cons, List.map_nil, List.cons_append, List.nil_append, List.append_nil, List.replicate_succ, List.replicate_zero, List.replicate, List.length_cons, List.length_nil, List.getElem?_cons_zero, List.getElem?_cons_succ, List.set_cons_zero, List.set_cons_succ, List.all_cons, List.all_nil, List.contains_cons, List.contains_nil, List.elem_cons, List.elem_nil, List.isEmpty_nil, List.isEmpty_cons, Nat.reduceAdd, Nat.reduceSub, Nat.reduceBEq, Nat.reduceLT, Nat.reduceLeDiff, Nat.reduceEqDiff, decide_true, decide_false, Bool.and_true, Bool.true_and, Bool.or_true, Bool.true_or, Bool.or_false, Bool.false_or, Bool.and_false, Bool.false_and, Bool.not_true, Bool.not_false, Bool.false_eq_true, reduceIte, ite_true, ite_false, beq_self_eq_true, Nat.zero_add, reduceCtorEq, and_self, true_and, and_true, ge_iff_le, gt_iff_lt, Nat.succ_eq_add_one, Nat.add_one_sub_one, Nat.zero_lt_succ, Nat.lt_add_left_iff_pos, wipeE, restE, pick, List.filterMap_cons, List.filterMap_nil, u_irg, u_irgB, Int.reduceLE, Int.reduceLT, Int.reduceNeg, u_unT, u_unL, u_unW, u_max, u_min, u_abs, u_tup, u_lst, u_lc, u_app0, u_app, u_ext0, u_ext, u_par2, u_par3, u_zip, u_aug0, u_aug, u_aug2, u_ch, u_ch1, u_ch2, u_ch3, e_int, ne_int, e_bl, ne_bl, q_aa, q_af, q_ac, q_fa, q_ff, q_fc, q_ca, q_cf, q_cc, is_non, is_int, isn_non, isn_int, ix_t0, ix_t1, ix_t2, ix_l0, ix_l1, x_asc, x_kco, x_ite, decide_eq_true_eq, Bool.not_eq_true', decide_eq_false_iff_not, u_srT, u_srL, u_srW, isT, seqV, tupV, lstV, u_join, Option.getD, k0, i, q3, tk, j0]
theorem b_3a {FT FO : Fn} (hX : ∃ ws, X = .lst ws) (hX1 : ∃ ws, X1 = .lst ws) (fz : frzs OW = OD) (e : FO [X, .fz (.lst OD)] = .ok (.fz E, [X1, .fz (.lst OD)])) : cIfS (cOrT (cTest (cBin fEq true (cVar 2) (cC (.int 0)))) (cOrT (cNotT (cTest (cUn (fIsi ["tuple"]) (cVar 1)))) (cOrT (cTest (cBin fEq true (cVar 1) (cTup true cNil))) (cTest (cBin fEq true (cCallIO FT (ioOf [0]) (cCons true (cVar 0) (cCons true (cC (.int 6)) cNil))) (cC (.int 0))))))) (cRet (cCallIO FO (ioOf [0]) (cCons true (cVar 0) (cCons true (cVar 3) cNil)))) cNext [some X, some (.fz M), some (.fz (.int 0)), some (.lst OW), o4, o5] = .ok (.ret (.fz E), [some X1, some (.fz M), some (.fz (.int 0)), some (.fz (.lst OD)), o4, o5]) := by
  obtain ⟨a, rfl⟩ := hX
  obtain ⟨b, rfl⟩ := hX1
  simp only [v_bin6, v_bin5, v_bin4, v_bin3, v_bin2, v_bin1, v_bin, v_un3, v_un2, v_un1, v_un, v_test2, v_test1, v_test, v_cons3, v_cons2, v_cons1, v_cons, v_star4, v_star3, v_star2, v_star1, v_star, v_tup2, v_tup1, v_tup, v_lst2, v_lst1, v_lst, v_callB3, v_callB2, v_callB1, v_callB, v_andT1, v_andT, v_orT1, v_orT, v_notT1, v_notT, v_and2, v_and1, v_and, v_or2, v_or1, v_or, v_not2, v_not1, v_not, v_if1, v_if, v_orL1, v_orL, v_seq1, v_seq, v_ifS1, v_ifS, v_ret2, v_ret1, v_ret, v_drop1, v_drop, v_asg3, v_asg2, v_asg1, v_asg, v_gset1, v_gset, v_gsub5, v_gsub4, v_gsub3, v_gsub2, v_gsub1, v_gsub, v_gsc1, v_gsc, v_gsn1, v_gsn, v_for1, v_for, v_forc2, v_forc1, v_forc, v_lcc2, v_lcc1, v_lcc, v_lcT3, v_lcT2, v_lcT1, v_lcT, v_lc4, v_lc1, v_lc, v_def4, v_def3, v_def2, v_def1, v_def, v_callV4, v_callV3, v_callV2, v_callV1, v_callV, v_callP4, v_callP3, v_callP2, v_callP1, v_callP, v_callKV5, v_callKV4, v_callKV3, v_callKV2, v_callKV1, v_callKV, v_callKP5, v_callKP4, v_callKP3, v_callKP2, v_callKP1, v_callKP, v_callIO5, v_callIO4, v_callIO3, v_callIO2, v_callIO1, v_callIO, v_app7, v_app6, v_app5, v_app4, v_app3, v_app2, v_app1, v_app, v_sl6, v_sl5, v_sl4, v_sl3, v_sl2, v_sl1, v_sl, v_oS2, v_oS1, v_oS, v_iseq3, v_iseq2, v_iseq1, v_iseq, v_ienum3, v_ienum2, v_ienum1, v_ienum, v_irg1, v_irg, v_rgTup3, v_rgTup2, v_rgTup1, v_rgTup, v_argsc2, v_argsc1, v_argsc, v_putc1, v_putc, v_takesc2, v_takesc1, v_takesc, v_contsc2, v_contsc1, v_contsc, v_backsI2, v_backsI1, v_backsI, v_binF7, v_binF6, v_binF5, v_binF4, v_binF3, v_binF2, v_binF1, v_binF, v_par22, v_par21, v_par2, v_par32, v_par31, v_par3, v_ext8, v_ext7, v_ext6, v_ext5, v_ext4, v_ext3, v_ext2, v_ext1, v_ext, v_zip2, v_zip1, v_zip, v_irgB3, v_irgB2, v_irgB1, v_irgB, v_rgLst3, v_rgLst2, v_rgLst1, v_rgLst, v_rgTupB5, v_rgTupB4, v_rgTupB3, v_rgTupB2, v_rgTupB1, v_rgTupB, v_rgLstB5, v_rgLstB4, v_rgLstB3, v_rgLstB2, v_rgLstB1, v_rgLstB, v_ok, v_c, v_nil, v_next, v_yes, v_oN, v_gtup, v_var, v_for0, v_lc0, v_args0, v_put0, v_takes0, v_conts0, v_backs0, w_add, w_sub, w_neg, w_lt, w_le, w_gt, w_ge, w_intI, w_intB, w_ix0, w_ix1, w_ix2, w_i0, w_i1, w_i2, pend, cont, take, frz, frzs, getP, setP, Res.of, boolOf, isPl, mutS, mutP, intOf, move, retOf, backs1, put1, fzT, ioOf, chk, early, shut, isTmp, flatB, scal, List.map_cons, List.map_nil, List.cons_append, List.nil_append, List.append_nil, List.replicate_succ, List.replicate_zero, List.replicate, List.length_cons, List.length_nil, List.getElem?_cons_zero, List.getElem?_cons_succ, List.set_cons_zero, List.set_cons_succ, List.all_cons, List.all_nil, List.contains_cons, List.contains_nil, List.elem_cons, List.elem_nil, List.isEmpty_nil, List.isEmpty_cons, Nat.reduceAdd, Nat.reduceSub, Nat.reduceBEq, Nat.reduceLT, Nat.reduceLeDiff, Nat.reduceEqDiff, decide_true, decide_false, Bool.and_true, Bool.true_and, Bool.or_true, Bool.true_or, Bool.or_false, Bool.false_or, Bool.and_false, Bool.false_and, Bool.not_true, Bool.not_false, Bool.false_eq_true, reduceIte, ite_true, ite_false, beq_self_eq_true, Nat.zero_add, reduceCtorEq, and_self, true_and, and_true, ge_iff_le, gt_iff_lt, Nat.succ_eq_add_one, Nat.add_one_sub_one, Nat.zero_lt_succ, Nat.lt_add_left_iff_pos, wipeE, restE, pick, List.filterMap_cons, List.filterMap_nil, u_irg, u_irgB, Int.reduceLE, Int.reduceLT, Int.reduceNeg, u_unT, u_unL, u_unW, u_max, u_min, u_abs, u_tup, u_lst, u_lc, u_app0, u_app, u_ext0, u_ext, u_par2, u_par3, u_zip, u_aug0, u_aug, u_aug2, u_ch, u_ch1, u_ch2, u_ch3, e_int, ne_int, e_bl, ne_bl, q_aa, q_af, q_ac, q_fa, q_ff, q_fc, q_ca, q_cf, q_cc, is_non, is_int, isn_non, isn_int, ix_t0, ix_t1, ix_t2, ix_l0, ix_l1, x_asc, x_kco, x_ite, decide_eq_true_eq, Bool.not_eq_true', decide_eq_false_iff_not, u_srT, u_srL, u_srW, isT, seqV, tupV, lstV, u_join, Option.getD, fz, e]
theorem b_3b {FT FO : Fn} (hX : ∃ ws, X = .lst ws) (hX1 : ∃ ws, X1 = .lst ws) (fz : frzs OW = OD) (e : FO [X, .fz (.lst OD)] = .ok (.fz E, [X1, .fz (.lst OD)])) (k0 : (k = 0) = False) (i : fIsi ["tuple"] (.fz M) = .ok (.fz (.bl false))) : cIfS (cOrT (cTest (cBin fEq true (cVar 2) (cC (.int 0)))) (cOrT (cNotT (cTest (cUn (fIsi ["tuple"]) (cVar 1)))) (cOrT (cTest (cBin fEq true (cVar 1) (cTup true cNil))) (cTest (cBin fEq true (cCallIO FT (ioOf [0]) (cCons true (cVar 0) (cCons true (cC (.int 6)) cNil))) (cC (.int 0))))))) (cRet (cCallIO FO (ioOf [0]) (cCons true (cVar 0) (cCons true (cVar 3) cNil)))) cNext [some X, some (.fz M), some (.fz (.int k)), some (.lst OW), o4, o5] = .ok (.ret (.fz E), [some X1, some (.fz M), some (.fz (.int k)), some (.fz (.lst OD)), o4, o5]) := by
  obtain ⟨a, rfl⟩ := hX
  obtain ⟨b, rfl⟩ := hX1
  simp only [v_bin6, v_bin5, v_bin4, v_bin3, v_bin2, v_bin1, v_bin, v_un3, v_un2, v_un1, v_un, v_test2, v_test1, v_test, v_cons3, v_cons2, v_cons1, v_cons, v_star4, v_star3, v_star2, v_star1, v_star, v_tup2, v_tup1, v_tup, v_lst2, v_lst1, v_lst, v_callB3, v_callB2, v_callB1, v_callB, v_andT1, v_andT, v_orT1, v_orT, v_notT1, v_notT, v_and2, v_and1, v_and, v_or2, v_or1, v_or, v_not2, v_not1, v_not, v_if1, v_if, v_orL1, v_orL, v_seq1, v_seq, v_ifS1, v_ifS, v_ret2, v_ret1, v_ret, v_drop1, v_drop, v_asg3, v_asg2, v_asg1, v_asg, v_gset1, v_gset, v_gsub5, v_gsub4, v_gsub3, v_gsub2, v_gsub1, v_gsub, v_gsc1, v_gsc, v_gsn1, v_gsn, v_for1, v_for, v_forc2, v_forc1, v_forc, v_lcc2, v_lcc1, v_lcc, v_lcT3, v_lcT2, v_lcT1, v_lcT, v_lc4, v_lc1, v_lc, v_def4, v_def3, v_def2, v_def1, v_def, v_callV4, v_callV3, v_callV2, v_callV1, v_callV, v_callP4, v_callP3, v_callP2, v_callP1, v_callP, v_callKV5, v_callKV4, v_callKV3, v_callKV2, v_callKV1, v_callKV, v_callKP5, v_callKP4, v_callKP3, v_callKP2, v_callKP1, v_callKP, v_callIO5, v_callIO4, v_callIO3, v_callIO2, v_callIO1, v_callIO, v_app7, v_app6, v_app5, v_app4, v_app3, v_app2, v_app1, v_app, v_sl6, v_sl5, v_sl4, v_sl3, v_sl2, v_sl1, v_sl, v_oS2, v_oS1, v_oS, v_iseq3, v_iseq2, v_iseq1, v_iseq, v_ienum3, v_ienum2, v_ienum1, v_ienum, v_irg1, v_irg, v_rgTup3, v_rgTup2, v_rgTup1, v_rgTup, v_argsc2, v_argsc1, v_argsc, v_putc1, v_putc, v_takesc2, v_takesc1, v_takesc, v_contsc2, v_contsc1, v_contsc, v_backsI2, v_backsI1, v_backsI, v_binF7, v_binF6, v_binF5, v_binF4, v_binF3, v_binF2, v_binF1, v_binF, v_par22, v_par21, v_par2, v_par32, v_par31, v_par3, v_ext8, v_ext7, v_ext6, v_ext5, v_ext4, v_ext3, v_ext2, v_ext1, v_ext, v_zip2, v_zip1, v_zip, v_irgB3, v_irgB2, v_irgB1, v_irgB, v_rgLst3, v_rgLst2, v_rgLst1, v_rgLst, v_rgTupB5, v_rgTupB4, v_rgTupB3, v_rgTupB2, v_rgTupB1, v_rgTupB, v_rgLstB5, v_rgLstB4, v_rgLstB3, v_rgLstB2, v_rgLstB1, v_rgLstB, v_ok, v_c, v_nil, v_next, v_yes, v_oN, v_gtup, v_var, v_for0, v_lc0, v_args0, v_put0, v_takes0, v_conts0, v_backs0, w_add, w_sub, w_neg, w_lt, w_le, w_gt, w_ge, w_intI, w_intB, w_ix0, w_ix1, w_ix2, w_i0, w_i1, w_i2, pend, cont, take, frz, frzs, getP, setP, Res.of, boolOf, isPl, mutS, mutP, intOf, move, retOf, backs1, put1, fzT, ioOf, chk, early, shut, isTmp, flatB, scal, List.map_cons, List.map_nil, List.cons_append, List.nil_append, List.append_nil, List.replicate_succ, List.replicate_zero, List.replicate, List.length_cons, List.length_nil, List.getElem?_cons_zero, List.getElem?_cons_succ, List.set_cons_zero, List.set_cons_succ, List.all_cons, List.all_nil, List.contains_cons, List.contains_nil, List.elem_cons, List.elem_nil, List.isEmpty_nil, List.isEmpty_cons, Nat.reduceAdd, Nat.reduceSub, Nat.reduceBEq, Nat.reduceLT, Nat.reduceLeDiff, Nat.reduceEqDiff, decide_true, decide_false, Bool.and_true, Bool.true_and, Bool.or_true, Bool.true_or, Bool.or_false, Bool.false_or, Bool.and_false, Bool.false_and, Bool.not_true, Bool.not_false, Bool.false_eq_true, reduceIte, ite_true, ite_false, beq_self_eq_true, Nat.zero_add, reduceCtorEq, and_self, true_and, and_true, ge_iff_le, gt_iff_lt, Nat.succ_eq_add_one, Nat.add_one_sub_one, Nat.zero_lt_succ, Nat.lt_add_left_iff_pos, wipeE, restE, pick, List.filterMap_cons, List.filterMap_nil, u_irg, u_irgB, Int.reduceLE, Int.reduceLT, Int.reduceNeg, u_unT, u_unL, u_unW, u_max, u_min, u_abs, u_tup, u_lst, u_lc, u_app0, u_app, u_ext0, u_ext, u_par2, u_par3, u_zip, u_aug0, u_aug, u_aug2, u_ch, u_ch1, u_ch2, u_ch3, e_int, ne_int, e_bl, ne_bl, q_aa, q_af, q_ac, q_fa, q_ff, q_fc, q_ca, q_cf, q_cc, is_non, is_int, isn_non, isn_int, ix_t0, ix_t1, ix_t2, ix_l0, ix_l1, x_asc, x_kco, x_ite, decide_eq_true_eq, Bool.not_eq_true', decide_eq_false_iff_not, u_srT, u_srL, u_srW, isT, seqV, tupV, lstV, u_join, Option.getD, k0, i, fz, e]
theorem b_3c {FT FO : Fn} (hX : ∃ ws, X = .lst ws) (hX1 : ∃ ws, X1 = .lst ws) (fz : frzs OW = OD) (e : FO [X, .fz (.lst OD)] = .ok (.fz E, [X1, .fz (.lst OD)])) (k0 : (k = 0) = False) (i : fIsi ["tuple"] (.fz M) = .ok (.fz (.bl true))) (q3 : fEq (.fz M) (.fz (.tup [])) = .ok (.fz (.bl true))) : cIfS (cOrT (cTest (cBin fEq true (cVar 2) (cC (.int 0)))) (cOrT (cNotT (cTest (cUn (fIsi ["tuple"]) (cVar 1)))) (cOrT (cTest (cBin fEq true (cVar 1) (cTup true cNil))) (cTest (cBin fEq true (cCallIO FT (ioOf [0]) (cCons true (cVar 0) (cCons true (cC (.int 6)) cNil))) (cC (.int 0))))))) (cRet (cCallIO FO (ioOf [0]) (cCons true (cVar 0) (cCons true (cVar 3) cNil)))) cNext [some X, some (.fz M), some (.fz (.int k)), some (.lst OW), o4, o5] = .ok (.ret (.fz E), [some X1, some (.fz M), some (.fz (.int k)), some (.fz (.lst OD)), o4, o5]) := by
  obtain ⟨a, rfl⟩ := hX
  obtain ⟨b, rfl⟩ := hX1
  simp only [v_bin6, v_bin5, v_bin4, v_bin3, v_bin2, v_bin1, v_bin, v_un3, v_un2, v_un1, v_un, v_test2, v_test1, v_test, v_cons3, v_cons2, v_cons1, v_cons, v_star4, v_star3, v_star2, v_star1, v_star, v_tup2, v_tup1, v_tup, v_lst2, v_lst1, v_lst, v_callB3, v_callB2, v_callB1, v_callB, v_andT1, v_andT, v_orT1, v_orT, v_notT1, v_notT, v_and2, v_and1, v_and, v_or2, v_or1, v_or, v_not2, v_not1, v_not, v_if1, v_if, v_orL1, v_orL, v_seq1, v_seq, v_ifS1, v_ifS, v_ret2, v_ret1, v_ret, v_drop1, v_drop, v_asg3, v_asg2, v_asg1, v_asg, v_gset1, v_gset, v_gsub5, v_gsub4, v_gsub3, v_gsub2, v_gsub1, v_gsub, v_gsc1, v_gsc, v_gsn1, v_gsn, v_for1, v_for, v_forc2, v_forc1, v_forc, v_lcc2, v_lcc1, v_lcc, v_lcT3, v_lcT2, v_lcT1, v_lcT, v_lc4, v_lc1, v_lc, v_def4, v_def3, v_def2, v_def1, v_def, v_callV4, v_callV3, v_callV2, v_callV1, v_callV, v_callP4, v_callP3, v_callP2, v_callP1, v_callP, v_callKV5, v_callKV4, v_callKV3, v_callKV2, v_callKV1, v_callKV, v_callKP5, v_callKP4, v_callKP3, v_callKP2, v_callKP1, v_callKP, v_callIO5, v_callIO4, v_callIO3, v_callIO2, v_callIO1, v_callIO, v_app7, v_app6, v_app5, v_app4, v_app3, v_app2, v_app1, v_app, v_sl6, v_sl5, v_sl4, v_sl3, v_sl2, v_sl1, v_sl, v_oS2, v_oS1, v_oS, v_iseq3, v_iseq2, v_iseq1, v_iseq, v_ienum3, v_ienum2, v_ienum1, v_ienum, v_irg1, v_irg, v_rgTup3, v_rgTup2, v_rgTup1, v_rgTup, v_argsc2, v_argsc1, v_argsc, v_putc1, v_putc, v_takesc2, v_takesc1, v_takesc, v_contsc2, v_contsc1, v_contsc, v_backsI2, v_backsI1, v_backsI, v_binF7, v_binF6, v_binF5, v_binF4, v_binF3, v_binF2, v_binF1, v_binF, v_par22, v_par21, v_par2, v_par32, v_par31, v_par3, v_ext8, v_ext7, v_ext6, v_ext5, v_ext4, v_ext3, v_ext2, v_ext1, v_ext, v_zip2, v_zip1, v_zip, v_irgB3, v_irgB2, v_irgB1, v_irgB, v_rgLst3, v_rgLst2, v_rgLst1, v_rgLst, v_rgTupB5, v_rgTupB4, v_rgTupB3, v_rgTupB2, v_rgTupB1, v_rgTupB, v_rgLstB5, v_rgLstB4, v_rgLstB3, v_rgLstB2, v_rgLstB1, v_rgLstB, v_ok, v_c, v_nil, v_next, v_yes, v_oN, v_gtup, v_var, v_for0, v_lc0, v_args0, v_put0, v_takes0, v_conts0, v_backs0, w_add, w_sub, w_neg, w_lt, w_le, w_gt, w_ge, w_intI, w_intB, w_ix0, w_ix1, w_ix2, w_i0, w_i1, w_i2, pend, cont, take, frz, frzs, getP, setP, Res.of, boolOf, isPl, mutS, mutP, intOf, move, retOf, backs1, put1, fzT, ioOf, chk, early, shut, isTmp, flatB, scal, List.map_cons, List.map_nil, List.cons_append, List.nil_append, List.append_nil, List.replicate_succ, List.replicate_zero, List.replicate, List.length_cons, List.length_nil, List.getElem?_cons_zero, List.getElem?_cons_succ, List.set_cons_zero, List.set_cons_succ, List.all_cons, List.all_nil, List.contains_cons, List.contains_nil, List.elem_cons, List.elem_nil, List.isEmpty_nil, List.isEmpty_cons, Nat.reduceAdd, Nat.reduceSub, Nat.reduceBEq, Nat.reduceLT, Nat.reduceLeDiff, Nat.reduceEqDiff, decide_true, decide_false, Bool.and_true, Bool.true_and, Bool.or_true, Bool.true_or, Bool.or_false, Bool.false_or, Bool.and_false, Bool.false_and, Bool.not_true, Bool.not_false, Bool.false_eq_true, reduceIte, ite_true, ite_false, beq_self_eq_true, Nat.zero_add, reduceCtorEq, and_self, true_and, and_true, ge_iff_le, gt_iff_lt, Nat.succ_eq_add_one, Nat.add_one_sub_one, Nat.zero_lt_succ, Nat.lt_add_left_iff_pos, wipeE, restE, pick, List.filterMap_cons, List.filterMap_nil, u_irg, u_irgB, Int.reduceLE, Int.reduceLT, Int.reduceNeg, u_unT, u_unL, u_unW, u_max, u_min, u_abs, u_tup, u_lst, u_lc, u_app0, u_app, u_ext0, u_ext, u_par2, u_par3, u_zip, u_aug0, u_aug, u_aug2, u_ch, u_ch1, u_ch2, u_ch3, e_int, ne_int, e_bl, ne_bl, q_aa, q_af, q_ac, q_fa, q_ff, q_fc, q_ca, q_cf, q_cc, is_non, is_int, isn_non, isn_int, ix_t0, ix_t1, ix_t2, ix_l0, ix_l1, x_asc, x_kco, x_ite, decide_eq_true_eq, Bool.not_eq_true', decide_eq_false_iff_not, u_srT, u_srL, u_srW, isT, seqV, tupV, lstV, u_join, Option.getD, k0, i, q3, fz, e]
theorem b_3d {FT FO : Fn} (hX : ∃ ws, X = .lst ws) (hX1 : ∃ ws, X1 = .lst ws) (hX2 : ∃ ws, X2 = .lst ws) (fz : frzs OW = OD) (tk : FT [X, .fz (.int 6)] = .ok (.fz (.int 0), [X1, .fz (.int 6)])) (e : FO [X1, .fz (.lst OD)] = .ok (.fz E, [X2, .fz (.lst OD)])) (k0 : (k = 0) = False) (i : fIsi ["tuple"] (.fz M) = .ok (.fz (.bl true))) (q3 : fEq (.fz M) (.fz (.tup [])) = .ok (.fz (.bl false))) : cIfS (cOrT (cTest (cBin fEq true (cVar 2) (cC (.int 0)))) (cOrT (cNotT (cTest (cUn (fIsi ["tuple"]) (cVar 1)))) (cOrT (cTest (cBin fEq true (cVar 1) (cTup true cNil))) (cTest (cBin fEq true (cCallIO FT (ioOf [0]) (cCons true (cVar 0) (cCons true (cC (.int 6)) cNil))) (cC (.int 0))))))) (cRet (cCallIO FO (ioOf [0]) (cCons true (cVar 0) (cCons true (cVar 3) cNil)))) cNext [some X, some (.fz M), some (.fz (.int k)), some (.lst OW), o4, o5] = .ok (.ret (.fz E), [some X2, some (.fz M), some (.fz (.int k)), some (.fz (.lst OD)), o4, o5]) := by
  obtain ⟨a, rfl⟩ := hX
  obtain ⟨b, rfl⟩ := hX1
  obtain ⟨c, rfl⟩ := hX2
  simp only [v_bin6, v_bin5, v_bin4, v_bin3, v_bin2, v_bin1, v_bin, v_un3, v_un2, v_un1, v_un, v_test2, v_test1, v_test, v_cons3, v_cons2, v_cons1, v_cons, v_star4, v_star3, v_star2, v_star1, v_star, v_tup2, v_tup1, v_tup, v_lst2, v_lst1, v_lst, v_callB3, v_callB2, v_callB1, v_callB, v_andT1, v_andT, v_orT1, v_orT, v_notT1, v_notT, v_and2, v_and1, v_and, v_or2, v_or1, v_or, v_not2, v_not1, v_not, v_if1, v_if, v_orL1, v_orL, v_seq1, v_seq, v_ifS1, v_ifS, v_ret2, v_ret1, v_ret, v_drop1, v_drop, v_asg3, v_asg2, v_asg1, v_asg, v_gset1, v_gset, v_gsub5, v_gsub4, v_gsub3, v_gsub2, v_gsub1, v_gsub, v_gsc1, v_gsc, v_gsn1, v_gsn, v_for1, v_for, v_forc2, v_forc1, v_forc, v_lcc2, v_lcc1, v_lcc, v_lcT3, v_lcT2, v_lcT1, v_lcT, v_lc4, v_lc1, v_lc, v_def4, v_def3, v_def2, v_def1, v_def, v_callV4, v_callV3, v_callV2, v_callV1, v_callV, v_callP4, v_callP3, v_callP2, v_callP1, v_callP, v_callKV5, v_callKV4, v_callKV3, v_callKV2, v_callKV1, v_callKV, v_callKP5, v_callKP4, v_callKP3, v_callKP2, v_callKP1, v_callKP, v_callIO5, v_callIO4, v_callIO3, v_callIO2, v_callIO1, v_callIO, v_app7, v_app6, v_app5, v_app4, v_app3, v_app2, v_app1, v_app, v_sl6, v_sl5, v_sl4, v_sl3, v_sl2, v_sl1, v_sl, v_oS2, v_oS1, v_oS, v_iseq3, v_iseq2, v_iseq1, v_iseq, v_ienum3, v_ienum2, v_ienum1, v_ienum, v_irg1, v_irg, v_rgTup3, v_rgTup2, v_rgTup1, v_rgTup, v_argsc2, v_argsc1, v_argsc, v_putc1, v_putc, v_takesc2, v_takesc1, v_takesc, v_contsc2, v_contsc1, v_contsc, v_backsI2, v_backsI1, v_backsI, v_binF7, v_binF6, v_binF5, v_binF4, v_binF3, v_binF2, v_binF1, v_binF, v_par22, v_par21, v_par2, v_par32, v_par31, v_par3, v_ext8, v_ext7, v_ext6, v_ext5, v_ext4, v_ext3, v_ext2, v_ext1, v_ext, v_zip2, v_zip1, v_zip, v_irgB3, v_irgB2, v_irgB1, v_irgB, v_rgLst3, v_rgLst2, v_rgLst1, v_rgLst, v_rgTupB5, v_rgTupB4, v_rgTupB3, v_rgTupB2, v_rgTupB1, v_rgTupB, v_rgLstB5, v_rgLstB4, v_rgLstB3, v_rgLstB2, v_rgLstB1, v_rgLstB, v_ok, v_c, v_nil, v_next, v_yes, v_oN, v_gtup, v_var, v_for0, v_lc0, v_args0, v_put0, v_takes0, v_conts0, v_backs0, w_add, w_sub, w_neg, w_lt, w_le, w_gt, w_ge, w_intI, w_intB, w_ix0, w_ix1, w_ix2, w_i0, w_i1, w_i2, pend, cont, take, frz, frzs, getP, setP, Res.of, boolOf, isPl, mutS, mutP, intOf, move, retOf, backs1, put1, fzT, ioOf, chk, early, shut, isTmp, flatB, scal, List.map_cons, List.map_nil, List.cons_append, List.nil_append, List.append_nil, List.replicate_succ, List.replicate_zero, List.replicate, List.length_cons, List.length_nil, List.getElem?_cons_zero, List.getElem?_cons_succ, List.set_cons_zero, List.set_cons_succ, List.all_cons, List.all_nil, List.contains_cons, List.contains_nil, List.elem_cons, List.elem_nil, List.isEmpty_nil, List.isEmpty_cons, Nat.reduceAdd, Nat.reduceSub, Nat.reduceBEq, Nat.reduceLT, Nat.reduceLeDiff, Nat.reduceEqDiff, decide_true, decide_false, Bool.and_true, Bool.true_and, Bool.or_true, Bool.true_or, Bool.or_false, Bool.false_or, Bool.and_false, Bool.false_and, Bool.not_true, Bool.not_false, Bool.false_eq_true, reduceIte, ite_true, ite_false, beq_self_eq_true, Nat.zero_add, reduceCtorEq, and_self, true_and, and_true, ge_iff_le, gt_iff_lt, Nat.succ_eq_add_one, Nat.add_one_sub_one, Nat.zero_lt_succ, Nat.lt_add_left_iff_pos, wipeE, restE, pick, List.filterMap_cons, List.filterMap_nil, u_irg, u_irgB, Int.reduceLE, Int.reduceLT, Int.reduceNeg, u_unT, u_unL, u_unW, u_max, u_min, u_abs, u_tup, u_lst, u_lc, u_app0, u_app, u_ext0, u_ext, u_par2, u_par3, u_zip, u_aug0, u_aug, u_aug2, u_ch, u_ch1, u_ch2, u_ch3, e_int, ne_int, e_bl, ne_bl, q_aa, q_af, q_ac, q_fa, q_ff, q_fc, q_ca, q_cf, q_cc, is_non, is_int, isn_non, isn_int, ix_t0, ix_t1, ix_t2, ix_l0, ix_l1, x_asc, x_kco, x_ite, decide_eq_true_eq, Bool.not_eq_true', decide_eq_false_iff_not, u_srT, u_srL, u_srW, isT, seqV, tupV, lstV, u_join, Option.getD, k0, i, q3, tk, fz, e]
theorem b_4 {FT : Fn} (hX : ∃ ws, X = .lst ws) (hX1 : ∃ ws, X1 = .lst ws) (hX2 : ∃ ws, X2 = .lst ws) (l : fLen [.fz M] = .ok (.fz (.int L))) (e1 : FT [X, .fz (.int L)] = .ok (.fz (.int s), [X1, .fz (.int L)])) (e2 : FT [X1, .fz (.int 7)] = .ok (.fz (.int j), [X2, .fz (.int 7)])) : cPar2 4 5 (cCons false (cCallIO FT (ioOf [0]) (cCons true (cVar 0) (cCons true (cCallB fLen (cCons true (cVar 1) cNil)) cNil))) (cCons true (cCallIO FT (ioOf [0]) (cCons true (cVar 0) (cCons true (cC (.int 7)) cNil))) cNil)) [some X, some (.fz M), some (.fz (.int k)), o3, none, none] = .ok (.nx, [some X2, some (.fz M), some (.fz (.int k)), o3, some (.fz (.int s)), some (.fz (.int j))]) := by
  obtain ⟨a, rfl⟩ := hX
  obtain ⟨b, rfl⟩ := hX1
  obtain ⟨c, rfl⟩ := hX2
  simp only [v_bin6, v_bin5, v_bin4, v_bin3, v_bin2, v_bin1, v_bin, v_un3, v_un2, v_un1, v_un, v_test2, v_test1, v_test, v_cons3, v_cons2, v_cons1, v_cons, v_star4, v_star3, v_star2, v_star1, v_star, v_tup2, v_tup1, v_tup, v_lst2, v_lst1, v_lst, v_callB3, v_callB2, v_callB1, v_callB, v_andT1, v_andT, v_orT1, v_orT, v_notT1, v_notT, v_and2, v_and1, v_and, v_or2, v_or1, v_or, v_not2, v_not1, v_not, v_if1, v_if, v_orL1, v_orL, v_seq1, v_seq, v_ifS1, v_ifS, v_ret2, v_ret1, v_ret, v_drop1, v_drop, v_asg3, v_asg2, v_asg1, v_asg, v_gset1, v_gset, v_gsub5, v_gsub4, v_gsub3, v_gsub2, v_gsub1, v_gsub, v_gsc1, v_gsc, v_gsn1, v_gsn, v_for1, v_for, v_forc2, v_forc1, v_forc, v_lcc2, v_lcc1, v_lcc, v_lcT3, v_lcT2, v_lcT1, v_lcT, v_lc4, v_lc1, v_lc, v_def4, v_def3, v_def2, v_def1, v_def, v_callV4, v_callV3, v_callV2, v_callV1, v_callV, v_callP4, v_callP3, v_callP2, v_callP1, v_callP, v_callKV5, v_callKV4, v_callKV3, v_callKV2, v_callKV1, v_callKV, v_callKP5, v_callKP4, v_callKP3, v_callKP2, v_callKP1, v_callKP, v_callIO5, v_callIO4, v_callIO3, v_callIO2, v_callIO1, v_callIO, v_app7, v_app6, v_app5, v_app4, v_app3, v_app2, v_app1, v_app, v_sl6, v_sl5, v_sl4, v_sl3, v_sl2, v_sl1, v_sl, v_oS2, v_oS1, v_oS, v_iseq3, v_iseq2, v_iseq1, v_iseq, v_ienum3, v_ienum2, v_ienum1, v_ienum, v_irg1, v_irg, v_rgTup3, v_rgTup2, v_rgTup1, v_rgTup, v_argsc2, v_argsc1, v_argsc, v_putc1, v_putc, v_takesc2, v_takesc1, v_takesc, v_contsc2, v_contsc1, v_contsc, v_backsI2, v_backsI1, v_backsI, v_binF7, v_binF6, v_binF5, v_binF4, v_binF3, v_binF2, v_binF1, v_binF, v_par22, v_par21, v_par2, v_par32, v_par31, v_par3, v_ext8, v_ext7, v_ext6, v_ext5, v_ext4, v_ext3, v_ext2, v_ext1, v_ext, v_zip2, v_zip1, v_zip, v_irgB3, v_irgB2, v_irgB1, v_irgB, v_rgLst3, v_rgLst2, v_rgLst1, v_rgLst, v_rgTupB5, v_rgTupB4, v_rgTupB3, v_rgTupB2, v_rgTupB1, v_rgTupB, v_rgLstB5, v_rgLstB4, v_rgLstB3, v_rgLstB2, v_rgLstB1, v_rgLstB, v_ok, v_c, v_nil, v_next, v_yes, v_oN, v_gtup, v_var, v_for0, v_lc0, v_args0, v_put0, v_takes0, v_conts0, v_backs0, w_add, w_sub, w_neg, w_lt, w_le, w_gt, w_ge, w_intI, w_intB, w_ix0, w_ix1, w_ix2, w_i0, w_i1, w_i2, pend, cont, take, frz, frzs, getP, setP, Res.of, boolOf, isPl, mutS, mutP, intOf, move, retOf, backs1, put1, fzT, ioOf, chk, early, shut, isTmp, flatB, scal, List.map_cons, List.map_nil, List.cons_append, List.nil_append, List.append_nil, List.replicate_succ, List.replicate_zero, List.replicate, List.length_cons, List.length_nil, List.getElem?_cons_zero, List.getElem?_cons_succ, List.set_cons_zero, List.set_cons_succ, List.all_cons, List.all_nil, List.contains_cons, List.contains_nil, List.elem_cons, List.elem_nil, List.isEmpty_nil, List.isEmpty_cons, Nat.reduceAdd, Nat.reduceSub, Nat.reduceBEq, Nat.reduceLT, Nat.reduceLeDiff, Nat.reduceEqDiff, decide_true, decide_false, Bool.and_true, Bool.true_and, Bool.or_true, Bool.true_or, Bool.or_false, Bool.false_or, Bool.and_false, Bool.false_and, Bool.not_true, Bool.not_false, Bool.false_eq_true, reduceIte, ite_true, ite_false, beq_self_eq_true, Nat.zero_add, reduceCtorEq, and_self, true_and, and_true, ge_iff_le, gt_iff_lt, Nat.succ_eq_add_one, Nat.add_one_sub_one, Nat.zero_lt_succ, Nat.lt_add_left_iff_pos, wipeE, restE, pick, List.filterMap_cons, List.filterMap_nil, u_irg, u_irgB, Int.reduceLE, Int.reduceLT, Int.reduceNeg, u_unT, u_unL, u_unW, u_max, u_min, u_abs, u_tup, u_lst, u_lc, u_app0, u_app, u_ext0, u_ext, u_par2, u_par3, u_zip, u_aug0, u_aug, u_aug2, u_ch, u_ch1, u_ch2, u_ch3, e_int, ne_int, e_bl, ne_bl, q_aa, q_af, q_ac, q_fa, q_ff, q_fc, q_ca, q_cf, q_cc, is_non, is_int, isn_non, isn_int, ix_t0, ix_t1, ix_t2, ix_l0, ix_l1, x_asc, x_kco, x_ite, decide_eq_true_eq, Bool.not_eq_true', decide_eq_false_iff_not, u_srT, u_srL, u_srW, isT, seqV, tupV, lstV, u_join, Option.getD, l, e1, e2]
theorem b_n {c : CS} {n : Int} (h : (j = n) = False) : cIfS (cTest (cBin fEq true (cVar 5) (cC (.int n)))) c cNext [some X, some (.fz M), some (.fz (.int k)), o3, o4, some (.fz (.int j))] = .ok (.nx, [some X, some (.fz M), some (.fz (.int k)), o3, o4, some (.fz (.int j))]) := by
  simp only [v_bin6, v_bin5, v_bin4, v_bin3, v_bin2, v_bin1, v_bin, v_un3, v_un2, v_un1, v_un, v_test2, v_test1, v_test, v_cons3, v_cons2, v_cons1, v_cons, v_star4, v_star3, v_star2, v_star1, v_star, v_tup2, v_tup1, v_tup, v_lst2, v_lst1, v_lst, v_callB3, v_callB2, v_callB1, v_callB, v_andT1, v_andT, v_orT1, v_orT, v_notT1, v_notT, v_and2, v_and1, v_and, v_or2, v_or1, v_or, v_not2, v_not1, v_not, v_if1, v_if, v_orL1, v_orL, v_seq1, v_seq, v_ifS1, v_ifS, v_ret2, v_ret1, v_ret, v_drop1, v_drop, v_asg3, v_asg2, v_asg1, v_asg, v_gset1, v_gset, v_gsub5, v_gsub4, v_gsub3, v_gsub2, v_gsub1, v_gsub, v_gsc1, v_gsc, v_gsn1, v_gsn, v_for1, v_for, v_forc2, v_forc1, v_forc, v_lcc2, v_lcc1, v_lcc, v_lcT3, v_lcT2, v_lcT1, v_lcT, v_lc4, v_lc1, v_lc, v_def4, v_def3, v_def2, v_def1, v_def, v_callV4, v_callV3, v_callV2, v_callV1, v_callV, v_callP4, v_callP3, v_callP2, v_callP1, v_callP, v_callKV5, v_callKV4, v_callKV3, v_callKV2, v_callKV1, v_callKV, v_callKP5, v_callKP4, v_callKP3, v_callKP2, v_callKP1, v_callKP, v_callIO5, v_callIO4, v_callIO3, v_callIO2, v_callIO1, v_callIO, v_app7, v_app6, v_app5, v_app4, v_app3, v_app2, v_app1, v_app, v_sl6, v_sl5, v_sl4, v_sl3, v_sl2, v_sl1, v_sl, v_oS2, v_oS1, v_oS, v_iseq3, v_iseq2, v_iseq1, v_iseq, v_ienum3, v_ienum2, v_ienum1, v_ienum, v_irg1, v_irg, v_rgTup3, v_rgTup2, v_rgTup1, v_rgTup, v_argsc2, v_argsc1, v_argsc, v_putc1, v_putc, v_takesc2, v_takesc1, v_takesc, v_contsc2, v_contsc1, v_contsc, v_backsI2, v_backsI1, v_backsI, v_binF7, v_binF6, v_binF5, v_binF4, v_binF3, v_binF2, v_binF1, v_binF, v_par22, v_par21, v_par2, v_par32, v_par31, v_par3, v_ext8, v_ext7, v_ext6, v_ext5, v_ext4, v_ext3, v_ext2, v_ext1, v_ext, v_zip2, v_zip1, v_zip, v_irgB3, v_irgB2, v_irgB1, v_irgB, v_rgLst3, v_rgLst2, v_rgLst1, v_rgLst, v_rgTupB5, v_rgTupB4, v_rgTupB3, v_rgTupB2, v_rgTupB1, v_rgTupB, v_rgLstB5, v_rgLstB4, v_rgLstB3, v_rgLstB2, v_rgLstB1, v_rgLstB, v_ok, v_c, v_nil, v_next, v_yes, v_oN, v_gtup, v_var, v_for0, v_lc0, v_args0, v_put0, v_takes0, v_conts0, v_backs0, w_add, w_sub, w_neg, w_lt, w_le, w_gt, w_ge, w_intI, w_intB, w_ix0, w_ix1, w_ix2, w_i0, w_i1, w_i2, pend, cont, take, frz, frzs, getP, setP, Res.of, boolOf, isPl, mutS, mutP, intOf, move, retOf, backs1, put1, fzT, ioOf, chk, early, shut, isTmp, flatB, scal, List.map_cons, List.map_nil, List.cons_append, List.nil_append, List.append_nil, List.replicate_succ, List.replicate_zero, List.replicate, List.length_cons, List.length_nil, List.getElem?_cons_zero, List.getElem?_cons_succ, List.set_cons_zero, List.set_cons_succ, List.all_cons, List.all_nil, List.contains_cons, List.contains_nil, List.elem_cons, List.elem_nil, List.isEmpty_nil, List.isEmpty_cons, Nat.reduceAdd, Nat.reduceSub, Nat.reduceBEq, Nat.reduceLT, Nat.reduceLeDiff, Nat.reduceEqDiff, decide_true, decide_false, Bool.and_true, Bool.true_and, Bool.or_true, Bool.true_or, Bool.or_false, Bool.false_or, Bool.and_false, Bool.false_and, Bool.not_true, Bool.not_false, Bool.false_eq_true, reduceIte, ite_true, ite_false, beq_self_eq_true, Nat.zero_add, reduceCtorEq, and_self, true_and, and_true, ge_iff_le, gt_iff_lt, Nat.succ_eq_add_one, Nat.add_one_sub_one, Nat.zero_lt_succ, Nat.lt_add_left_iff_pos, wipeE, restE, pick, List.filterMap_cons, List.filterMap_nil, u_irg, u_irgB, Int.reduceLE, Int.reduceLT, Int.reduceNeg, u_unT, u_unL, u_unW, u_max, u_min, u_abs, u_tup, u_lst, u_lc, u_app0, u_app, u_ext0, u_ext, u_par2, u_par3, u_zip, u_aug0, u_aug, u_aug2, u_ch, u_ch1, u_ch2, u_ch3, e_int, ne_int, e_bl, ne_bl, q_aa, q_af, q_ac, q_fa, q_ff, q_fc, q_ca, q_cf, q_cc, is_non, is_int, isn_non, isn_int, ix_t0, ix_t1, ix_t2, ix_l0, ix_l1, x_asc, x_kco, x_ite, decide_eq_true_eq, Bool.not_eq_true', decide_eq_false_iff_not, u_srT, u_srL, u_srW, isT, seqV, tupV, lstV, u_join, Option.getD, h]
theorem b_5 (s1 : fSl (.fz M) none (some s) = .ok (.fz A)) (s2 : fSl (.fz M) (some (s + 1)) none = .ok (.fz B)) (a : fAdd (.fz A) (.fz B) = .ok (.fz T)) : cIfS (cTest (cBin fEq true (cVar 5) (cC (.int 0)))) (cRet (cBin fAdd true (cSl fSl true (cVar 1) oNone (oSome (cVar 4))) (cSl fSl true (cVar 1) (oSome (cBin fAdd true (cVar 4) (cC (.int 1)))) oNone))) cNext [some X, some (.fz M), some (.fz (.int k)), o3, some (.fz (.int s)), some (.fz (.int 0))] = .ok (.ret (.fz T), [some X, some (.fz M), some (.fz (.int k)), o3, some (.fz (.int s)), some (.fz (.int 0))]) := by
  simp only [v_bin6, v_bin5, v_bin4, v_bin3, v_bin2, v_bin1, v_bin, v_un3, v_un2, v_un1, v_un, v_test2, v_test1, v_test, v_cons3, v_cons2, v_cons1, v_cons, v_star4, v_star3, v_star2, v_star1, v_star, v_tup2, v_tup1, v_tup, v_lst2, v_lst1, v_lst, v_callB3, v_callB2, v_callB1, v_callB, v_andT1, v_andT, v_orT1, v_orT, v_notT1, v_notT, v_and2, v_and1, v_and, v_or2, v_or1, v_or, v_not2, v_not1, v_not, v_if1, v_if, v_orL1, v_orL, v_seq1, v_seq, v_ifS1, v_ifS, v_ret2, v_ret1, v_ret, v_drop1, v_drop, v_asg3, v_asg2, v_asg1, v_asg, v_gset1, v_gset, v_gsub5, v_gsub4, v_gsub3, v_gsub2, v_gsub1, v_gsub, v_gsc1, v_gsc, v_gsn1, v_gsn, v_for1, v_for, v_forc2, v_forc1, v_forc, v_lcc2, v_lcc1, v_lcc, v_lcT3, v_lcT2, v_lcT1, v_lcT, v_lc4, v_lc1, v_lc, v_def4, v_def3, v_def2, v_def1, v_def, v_callV4, v_callV3, v_callV2, v_callV1, v_callV, v_callP4, v_callP3, v_callP2, v_callP1, v_callP, v_callKV5, v_callKV4, v_callKV3, v_callKV2, v_callKV1, v_callKV, v_callKP5, v_callKP4, v_callKP3, v_callKP2, v_callKP1, v_callKP, v_callIO5, v_callIO4, v_callIO3, v_callIO2, v_callIO1, v_callIO, v_app7, v_app6, v_app5, v_app4, v_app3, v_app2, v_app1, v_app, v_sl6, v_sl5, v_sl4, v_sl3, v_sl2, v_sl1, v_sl, v_oS2, v_oS1, v_oS, v_iseq3, v_iseq2, v_iseq1, v_iseq, v_ienum3, v_ienum2, v_ienum1, v_ienum, v_irg1, v_irg, v_rgTup3, v_rgTup2, v_rgTup1, v_rgTup, v_argsc2, v_argsc1, v_argsc, v_putc1, v_putc, v_takesc2, v_takesc1, v_takesc, v_contsc2, v_contsc1, v_contsc, v_backsI2, v_backsI1, v_backsI, v_binF7, v_binF6, v_binF5, v_binF4, v_binF3, v_binF2, v_binF1, v_binF, v_par22, v_par21, v_par2, v_par32, v_par31, v_par3, v_ext8, v_ext7, v_ext6, v_ext5, v_ext4, v_ext3, v_ext2, v_ext1, v_ext, v_zip2, v_zip1, v_zip, v_irgB3, v_irgB2, v_irgB1, v_irgB, v_rgLst3, v_rgLst2, v_rgLst1, v_rgLst, v_rgTupB5, v_rgTupB4, v_rgTupB3, v_rgTupB2, v_rgTupB1, v_rgTupB, v_rgLstB5, v_rgLstB4, v_rgLstB3, v_rgLstB2, v_rgLstB1, v_rgLstB, v_ok, v_c, v_nil, v_next, v_yes, v_oN, v_gtup, v_var, v_for0, v_lc0, v_args0, v_put0, v_takes0, v_conts0, v_backs0, w_add, w_sub, w_neg, w_lt, w_le, w_gt, w_ge, w_intI, w_intB, w_ix0, w_ix1, w_ix2, w_i0, w_i1, w_i2, pend, cont, take, frz, frzs, getP, setP, Res.of, boolOf, isPl, mutS, mutP, intOf, move, retOf, backs1, put1, fzT, ioOf, chk, early, shut, isTmp, flatB, scal, List.map_cons, List.map_nil, List.cons_append, List.nil_append, List.append_nil, List.replicate_succ, List.replicate_zero, List.replicate, List.length_cons, List.length_nil, List.getElem?_cons_zero, List.getElem?_cons_succ, List.set_cons_zero, List.set_cons_succ, List.all_cons, List.all_nil, List.contains_cons, List.contains_nil, List.elem_cons, List.elem_nil, List.isEmpty_nil, List.isEmpty_cons, Nat.reduceAdd, Nat.reduceSub, Nat.reduceBEq, Nat.reduceLT, Nat.reduceLeDiff, Nat.reduceEqDiff, decide_true, decide_false, Bool.and_true, Bool.true_and, Bool.or_true, Bool.true_or, Bool.or_false, Bool.false_or, Bool.and_false, Bool.false_and, Bool.not_true, Bool.not_false, Bool.false_eq_true, reduceIte, ite_true, ite_false, beq_self_eq_true, Nat.zero_add, reduceCtorEq, and_self, true_and, and_true, ge_iff_le, gt_iff_lt, Nat.succ_eq_add_one, Nat.add_one_sub_one, Nat.zero_lt_succ, Nat.lt_add_left_iff_pos, wipeE, restE, pick, List.filterMap_cons, List.filterMap_nil, u_irg, u_irgB, Int.reduceLE, Int.reduceLT, Int.reduceNeg, u_unT, u_unL, u_unW, u_max, u_min, u_abs, u_tup, u_lst, u_lc, u_app0, u_app, u_ext0, u_ext, u_par2, u_par3, u_zip, u_aug0, u_aug, u_aug2, u_ch, u_ch1, u_ch2, u_ch3, e_int, ne_int, e_bl, ne_bl, q_aa, q_af, q_ac, q_fa, q_ff, q_fc, q_ca, q_cf, q_cc, is_non, is_int, isn_non, isn_int, ix_t0, ix_t1, ix_t2, ix_l0, ix_l1, x_asc, x_kco, x_ite, decide_eq_true_eq, Bool.not_eq_true', decide_eq_false_iff_not, u_srT, u_srL, u_srW, isT, seqV, tupV, lstV, u_join, Option.getD, s1, s2, a]
theorem b_6 (s1 : fSl (.fz M) none (some s) = .ok (.fz A)) (x : fIdx (.fz M) (.fz (.int s)) = .ok (.fz E)) (a1 : fAdd (.fz A) (.fz (.tup [E])) = .ok (.fz AB)) (s2 : fSl (.fz M) (some s) none = .ok (.fz B)) (a : fAdd (.fz AB) (.fz B) = .ok (.fz T)) : cIfS (cTest (cBin fEq true (cVar 5) (cC (.int 1)))) (cRet (cBin fAdd true (cBin fAdd true (cSl fSl true (cVar 1) oNone (oSome (cVar 4))) (cTup true (cCons true (cBin fIdx true (cVar 1) (cVar 4)) cNil))) (cSl fSl true (cVar 1) (oSome (cVar 4)) oNone))) cNext [some X, some (.fz M), some (.fz (.int k)), o3, some (.fz (.int s)), some (.fz (.int 1))] = .ok (.ret (.fz T), [some X, some (.fz M), some (.fz (.int k)), o3, some (.fz (.int s)), some (.fz (.int 1))]) := by
  simp only [v_bin6, v_bin5, v_bin4, v_bin3, v_bin2, v_bin1, v_bin, v_un3, v_un2, v_un1, v_un, v_test2, v_test1, v_test, v_cons3, v_cons2, v_cons1, v_cons, v_star4, v_star3, v_star2, v_star1, v_star, v_tup2, v_tup1, v_tup, v_lst2, v_lst1, v_lst, v_callB3, v_callB2, v_callB1, v_callB, v_andT1, v_andT, v_orT1, v_orT, v_notT1, v_notT, v_and2, v_and1, v_and, v_or2, v_or1, v_or, v_not2, v_not1, v_not, v_if1, v_if, v_orL1, v_orL, v_seq1, v_seq, v_ifS1, v_ifS, v_ret2, v_ret1, v_ret, v_drop1, v_drop, v_asg3, v_asg2, v_asg1, v_asg, v_gset1, v_gset, v_gsub5, v_gsub4, v_gsub3, v_gsub2, v_gsub1, v_gsub, v_gsc1, v_gsc, v_gsn1, v_gsn, v_for1, v_for, v_forc2, v_forc1, v_forc, v_lcc2, v_lcc1, v_lcc, v_lcT3, v_lcT2, v_lcT1, v_lcT, v_lc4, v_lc1, v_lc, v_def4, v_def3, v_def2, v_def1, v_def, v_callV4, v_callV3, v_callV2, v_callV1, v_callV, v_callP4, v_callP3, v_callP2, v_callP1, v_callP, v_callKV5, v_callKV4, v_callKV3, v_callKV2, v_callKV1, v_callKV, v_callKP5, v_callKP4, v_callKP3, v_callKP2, v_callKP1, v_callKP, v_callIO5, v_callIO4, v_callIO3, v_callIO2, v_callIO1, v_callIO, v_app7, v_app6, v_app5, v_app4, v_app3, v_app2, v_app1, v_app, v_sl6, v_sl5, v_sl4, v_sl3, v_sl2, v_sl1, v_sl, v_oS2, v_oS1, v_oS, v_iseq3, v_iseq2, v_iseq1, v_iseq, v_ienum3, v_ienum2, v_ienum1, v_ienum, v_irg1, v_irg, v_rgTup3, v_rgTup2, v_rgTup1, v_rgTup, v_argsc2, v_argsc1, v_argsc, v_putc1, v_putc, v_takesc2, v_takesc1, v_takesc, v_contsc2, v_contsc1, v_contsc, v_backsI2, v_backsI1, v_backsI, v_binF7, v_binF6, v_binF5, v_binF4, v_binF3, v_binF2, v_binF1, v_binF, v_par22, v_par21, v_par2, v_par32, v_par31, v_par3, v_ext8, v_ext7, v_ext6, v_ext5, v_ext4, v_ext3, v_ext2, v_ext1, v_ext, v_zip2, v_zip1, v_zip, v_irgB3, v_irgB2, v_irgB1, v_irgB, v_rgLst3, v_rgLst2, v_rgLst1, v_rgLst, v_rgTupB5, v_rgTupB4, v_rgTupB3, v_rgTupB2, v_rgTupB1, v_rgTupB, v_rgLstB5, v_rgLstB4, v_rgLstB3, v_rgLstB2, v_rgLstB1, v_rgLstB, v_ok, v_c, v_nil, v_next, v_yes, v_oN, v_gtup, v_var, v_for0, v_lc0, v_args0, v_put0, v_takes0, v_conts0, v_backs0, w_add, w_sub, w_neg, w_lt, w_le, w_gt, w_ge, w_intI, w_intB, w_ix0, w_ix1, w_ix2, w_i0, w_i1, w_i2, pend, cont, take, frz, frzs, getP, setP, Res.of, boolOf, isPl, mutS, mutP, intOf, move, retOf, backs1, put1, fzT, ioOf, chk, early, shut, isTmp, flatB, scal, List.map_cons, List.map_nil, List.cons_append, List.nil_append, List.append_nil, List.replicate_succ, List.replicate_zero, List.replicate, List.length_cons, List.length_nil, List.getElem?_cons_zero, List.getElem?_cons_succ, List.set_cons_zero, List.set_cons_succ, List.all_cons, List.all_nil, List.contains_cons, List.contains_nil, List.elem_cons, List.elem_nil, List.isEmpty_nil, List.isEmpty_cons, Nat.reduceAdd, Nat.reduceSub, Nat.reduceBEq, Nat.reduceLT, Nat.reduceLeDiff, Nat.reduceEqDiff, decide_true, decide_false, Bool.and_true, Bool.true_and, Bool.or_true, Bool.true_or, Bool.or_false, Bool.false_or, Bool.and_false, Bool.false_and, Bool.not_true, Bool.not_false, Bool.false_eq_true, reduceIte, ite_true, ite_false, beq_self_eq_true, Nat.zero_add, reduceCtorEq, and_self, true_and, and_true, ge_iff_le, gt_iff_lt, Nat.succ_eq_add_one, Nat.add_one_sub_one, Nat.zero_lt_succ, Nat.lt_add_left_iff_pos, wipeE, restE, pick, List.filterMap_cons, List.filterMap_nil, u_irg, u_irgB, Int.reduceLE, Int.reduceLT, Int.reduceNeg, u_unT, u_unL, u_unW, u_max, u_min, u_abs, u_tup, u_lst, u_lc, u_app0, u_app, u_ext0, u_ext, u_par2, u_par3, u_zip, u_aug0, u_aug, u_aug2, u_ch, u_ch1, u_ch2, u_ch3, e_int, ne_int, e_bl, ne_bl, q_aa, q_af, q_ac, q_fa, q_ff, q_fc, q_ca, q_cf, q_cc, is_non, is_int, isn_non, isn_int, ix_t0, ix_t1, ix_t2, ix_l0, ix_l1, x_asc, x_kco, x_ite, decide_eq_true_eq, Bool.not_eq_true', decide_eq_false_iff_not, u_srT, u_srL, u_srW, isT, seqV, tupV, lstV, u_join, Option.getD, s1, x, a1, s2, a]
theorem b_7 (l : fList [.fz M] = .ok w) : cIfS (cTest (cBin fEq true (cVar 5) (cC (.int 2)))) (cRet (cCallB fList (cCons true (cVar 1) cNil))) cNext [some X, some (.fz M), some (.fz (.int k)), o3, some (.fz (.int s)), some (.fz (.int 2))] = .ok (.ret w, [some X, some (.fz M), some (.fz (.int k)), o3, some (.fz (.int s)), some (.fz (.int 2))]) := by
  simp only [v_bin6, v_bin5, v_bin4, v_bin3, v_bin2, v_bin1, v_bin, v_un3, v_un2, v_un1, v_un, v_test2, v_test1, v_test, v_cons3, v_cons2, v_cons1, v_cons, v_star4, v_star3, v_star2, v_star1, v_star, v_tup2, v_tup1, v_tup, v_lst2, v_lst1, v_lst, v_callB3, v_callB2, v_callB1, v_callB, v_andT1, v_andT, v_orT1, v_orT, v_notT1, v_notT, v_and2, v_and1, v_and, v_or2, v_or1, v_or, v_not2, v_not1, v_not, v_if1, v_if, v_orL1, v_orL, v_seq1, v_seq, v_ifS1, v_ifS, v_ret2, v_ret1, v_ret, v_drop1, v_drop, v_asg3, v_asg2, v_asg1, v_asg, v_gset1, v_gset, v_gsub5, v_gsub4, v_gsub3, v_gsub2, v_gsub1, v_gsub, v_gsc1, v_gsc, v_gsn1, v_gsn, v_for1, v_for, v_forc2, v_forc1, v_forc, v_lcc2, v_lcc1, v_lcc, v_lcT3, v_lcT2, v_lcT1, v_lcT, v_lc4, v_lc1, v_lc, v_def4, v_def3, v_def2, v_def1, v_def, v_callV4, v_callV3, v_callV2, v_callV1, v_callV, v_callP4, v_callP3, v_callP2, v_callP1, v_callP, v_callKV5, v_callKV4, v_callKV3, v_callKV2, v_callKV1, v_callKV, v_callKP5, v_callKP4, v_callKP3, v_callKP2, v_callKP1, v_callKP, v_callIO5, v_callIO4, v_callIO3, v_callIO2, v_callIO1, v_callIO, v_app7, v_app6, v_app5, v_app4, v_app3, v_app2, v_app1, v_app, v_sl6, v_sl5, v_sl4, v_sl3, v_sl2, v_sl1, v_sl, v_oS2, v_oS1, v_oS, v_iseq3, v_iseq2, v_iseq1, v_iseq, v_ienum3, v_ienum2, v_ienum1, v_ienum, v_irg1, v_irg, v_rgTup3, v_rgTup2, v_rgTup1, v_rgTup, v_argsc2, v_argsc1, v_argsc, v_putc1, v_putc, v_takesc2, v_takesc1, v_takesc, v_contsc2, v_contsc1, v_contsc, v_backsI2, v_backsI1, v_backsI, v_binF7, v_binF6, v_binF5, v_binF4, v_binF3, v_binF2, v_binF1, v_binF, v_par22, v_par21, v_par2, v_par32, v_par31, v_par3, v_ext8, v_ext7, v_ext6, v_ext5, v_ext4, v_ext3, v_ext2, v_ext1, v_ext, v_zip2, v_zip1, v_zip, v_irgB3, v_irgB2, v_irgB1, v_irgB, v_rgLst3, v_rgLst2, v_rgLst1, v_rgLst, v_rgTupB5, v_rgTupB4, v_rgTupB3, v_rgTupB2, v_rgTupB1, v_rgTupB, v_rgLstB5, v_rgLstB4, v_rgLstB3, v_rgLstB2, v_rgLstB1, v_rgLstB, v_ok, v_c, v_nil, v_next, v_yes, v_oN, v_gtup, v_var, v_for0, v_lc0, v_args0, v_put0, v_takes0, v_conts0, v_backs0, w_add, w_sub, w_neg, w_lt, w_le, w_gt, w_ge, w_intI, w_intB, w_ix0, w_ix1, w_ix2, w_i0, w_i1, w_i2, pend, cont, take, frz, frzs, getP, setP, Res.of, boolOf, isPl, mutS, mutP, intOf, move, retOf, backs1, put1, fzT, ioOf, chk, early, shut, isTmp, flatB, scal, List.map_cons, List.map_nil, List.cons_append, List.nil_append, List.append_nil, List.replicate_succ, List.replicate_zero, List.replicate, List.length_cons, List.length_nil, List.getElem?_cons_zero, List.getElem?_cons_succ, List.set_cons_zero, List.set_cons_succ, List.all_cons, List.all_nil, List.contains_cons, List.contains_nil, List.elem_cons, List.elem_nil, List.isEmpty_nil, List.isEmpty_cons, Nat.reduceAdd, Nat.reduceSub, Nat.reduceBEq, Nat.reduceLT, Nat.reduceLeDiff, Nat.reduceEqDiff, decide_true, decide_false, Bool.and_true, Bool.true_and, Bool.or_true, Bool.true_or, Bool.or_false, Bool.false_or, Bool.and_false, Bool.false_and, Bool.not_true, Bool.not_false, Bool.false_eq_true, reduceIte, ite_true, ite_false, beq_self_eq_true, Nat.zero_add, reduceCtorEq, and_self, true_and, and_true, ge_iff_le, gt_iff_lt, Nat.succ_eq_add_one, Nat.add_one_sub_one, Nat.zero_lt_succ, Nat.lt_add_left_iff_pos, wipeE, restE, pick, List.filterMap_cons, List.filterMap_nil, u_irg, u_irgB, Int.reduceLE, Int.reduceLT, Int.reduceNeg, u_unT, u_unL, u_unW, u_max, u_min, u_abs, u_tup, u_lst, u_lc, u_app0, u_app, u_ext0, u_ext, u_par2, u_par3, u_zip, u_aug0, u_aug, u_aug2, u_ch, u_ch1, u_ch2, u_ch3, e_int, ne_int, e_bl, ne_bl, q_aa, q_af, q_ac, q_fa, q_ff, q_fc, q_ca, q_cf, q_cc, is_non, is_int, isn_non, isn_int, ix_t0, ix_t1, ix_t2, ix_l0, ix_l1, x_asc, x_kco, x_ite, decide_eq_true_eq, Bool.not_eq_true', decide_eq_false_iff_not, u_srT, u_srL, u_srW, isT, seqV, tupV, lstV, u_join, Option.getD, l]
theorem b_8 {FB : Fn} (hX : ∃ ws, X = .lst ws) (hX1 : ∃ ws, X1 = .lst ws) (s1 : fSl (.fz M) none (some s) = .ok (.fz A)) (x : fIdx (.fz M) (.fz (.int s)) = .ok (.fz E)) (e : FB [X, .fz E, .fz (.int (k - 1))] = .ok (w, [X1, .fz E, .fz (.int (k - 1))])) (a1 : fAdd (.fz A) (.fz (.tup [frz w])) = .ok (.fz AB)) (s2 : fSl (.fz M) (some (s + 1)) none = .ok (.fz B)) (a : fAdd (.fz AB) (.fz B) = .ok (.fz T)) : cRet (cBin fAdd true (cBin fAdd false (cSl fSl true (cVar 1) oNone (oSome (cVar 4))) (cTup true (cCons true (cCallIO FB (ioOf [0]) (cCons true (cVar 0) (cCons true (cBin fIdx true (cVar 1) (cVar 4)) (cCons true (cBin fSub true (cVar 2) (cC (.int 1))) cNil)))) cNil))) (cSl fSl true (cVar 1) (oSome (cBin fAdd true (cVar 4) (cC (.int 1)))) oNone)) [some X, some (.fz M), some (.fz (.int k)), o3, some (.fz (.int s)), some (.fz (.int j))] = .ok (.ret (.fz T), [some X1, some (.fz M), some (.fz (.int k)), o3, some (.fz (.int s)), some (.fz (.int j))]) := by
  obtain ⟨u, rfl⟩ := hX
  obtain ⟨v, rfl⟩ := hX1
  cases w with
  | fz d =>
    simp only [frz] at a1
    simp only [v_bin6, v_bin5, v_bin4, v_bin3, v_bin2, v_bin1, v_bin, v_un3, v_un2, v_un1, v_un, v_test2, v_test1, v_test, v_cons3, v_cons2, v_cons1, v_cons, v_star4, v_star3, v_star2, v_star1, v_star, v_tup2, v_tup1, v_tup, v_lst2, v_lst1, v_lst, v_callB3, v_callB2, v_callB1, v_callB, v_andT1, v_andT, v_orT1, v_orT, v_notT1, v_notT, v_and2, v_and1, v_and, v_or2, v_or1, v_or, v_not2, v_not1, v_not, v_if1, v_if, v_orL1, v_orL, v_seq1, v_seq, v_ifS1, v_ifS, v_ret2, v_ret1, v_ret, v_drop1, v_drop, v_asg3, v_asg2, v_asg1, v_asg, v_gset1, v_gset, v_gsub5, v_gsub4, v_gsub3, v_gsub2, v_gsub1, v_gsub, v_gsc1, v_gsc, v_gsn1, v_gsn, v_for1, v_for, v_forc2, v_forc1, v_forc, v_lcc2, v_lcc1, v_lcc, v_lcT3, v_lcT2, v_lcT1, v_lcT, v_lc4, v_lc1, v_lc, v_def4, v_def3, v_def2, v_def1, v_def, v_callV4, v_callV3, v_callV2, v_callV1, v_callV, v_callP4, v_callP3, v_callP2, v_callP1, v_callP, v_callKV5, v_callKV4, v_callKV3, v_callKV2, v_callKV1, v_callKV, v_callKP5, v_callKP4, v_callKP3, v_callKP2, v_callKP1, v_callKP, v_callIO5, v_callIO4, v_callIO3, v_callIO2, v_callIO1, v_callIO, v_app7, v_app6, v_app5, v_app4, v_app3, v_app2, v_app1, v_app, v_sl6, v_sl5, v_sl4, v_sl3, v_sl2, v_sl1, v_sl, v_oS2, v_oS1, v_oS, v_iseq3, v_iseq2, v_iseq1, v_iseq, v_ienum3, v_ienum2, v_ienum1, v_ienum, v_irg1, v_irg, v_rgTup3, v_rgTup2, v_rgTup1, v_rgTup, v_argsc2, v_argsc1, v_argsc, v_putc1, v_putc, v_takesc2, v_takesc1, v_takesc, v_contsc2, v_contsc1, v_contsc, v_backsI2, v_backsI1, v_backsI, v_binF7, v_binF6, v_binF5, v_binF4, v_binF3, v_binF2, v_binF1, v_binF, v_par22, v_par21, v_par2, v_par32, v_par31, v_par3, v_ext8, v_ext7, v_ext6, v_ext5, v_ext4, v_ext3, v_ext2, v_ext1, v_ext, v_zip2, v_zip1, v_zip, v_irgB3, v_irgB2, v_irgB1, v_irgB, v_rgLst3, v_rgLst2, v_rgLst1, v_rgLst, v_rgTupB5, v_rgTupB4, v_rgTupB3, v_rgTupB2, v_rgTupB1, v_rgTupB, v_rgLstB5, v_rgLstB4, v_rgLstB3, v_rgLstB2, v_rgLstB1, v_rgLstB, v_ok, v_c, v_nil, v_next, v_yes, v_oN, v_gtup, v_var, v_for0, v_lc0, v_args0, v_put0, v_takes0, v_conts0, v_backs0, w_add, w_sub, w_neg, w_lt, w_le, w_gt, w_ge, w_intI, w_intB, w_ix0, w_ix1, w_ix2, w_i0, w_i1, w_i2, pend, cont, take, frz, frzs, getP, setP, Res.of, boolOf, isPl, mutS, mutP, intOf, move, retOf, backs1, put1, fzT, ioOf, chk, early, shut, isTmp, flatB, scal, List.map_cons, List.map_nil, List.cons_append, List.nil_append, List.append_nil, List.replicate_succ, List.replicate_zero, List.replicate, List.length_cons, List.length_nil, List.getElem?_cons_zero, List.getElem?_cons_succ, List.set_cons_zero, List.set_cons_succ, List.all_cons, List.all_nil, List.contains_cons, List.contains_nil, List.elem_cons, List.elem_nil, List.isEmpty_nil, List.isEmpty_cons, Nat.reduceAdd, Nat.reduceSub, Nat.reduceBEq, Nat.reduceLT, Nat.reduceLeDiff, Nat.reduceEqDiff, decide_true, decide_false, Bool.and_true, Bool.true_and, Bool.or_true, Bool.true_or, Bool.or_false, Bool.false_or, Bool.and_false, Bool.false_and, Bool.not_true, Bool.not_false, Bool.false_eq_true, reduceIte, ite_true, ite_false, beq_self_eq_true, Nat.zero_add, reduceCtorEq, and_self, true_and, and_true, ge_iff_le, gt_iff_lt, Nat.succ_eq_add_one, Nat.add_one_sub_one, Nat.zero_lt_succ, Nat.lt_add_left_iff_pos, wipeE, restE, pick, List.filterMap_cons, List.filterMap_nil, u_irg, u_irgB, Int.reduceLE, Int.reduceLT, Int.reduceNeg, u_unT, u_unL, u_unW, u_max, u_min, u_abs, u_tup, u_lst, u_lc, u_app0, u_app, u_ext0, u_ext, u_par2, u_par3, u_zip, u_aug0, u_aug, u_aug2, u_ch, u_ch1, u_ch2, u_ch3, e_int, ne_int, e_bl, ne_bl, q_aa, q_af, q_ac, q_fa, q_ff, q_fc, q_ca, q_cf, q_cc, is_non, is_int, isn_non, isn_int, ix_t0, ix_t1, ix_t2, ix_l0, ix_l1, x_asc, x_kco, x_ite, decide_eq_true_eq, Bool.not_eq_true', decide_eq_false_iff_not, u_srT, u_srL, u_srW, isT, seqV, tupV, lstV, u_join, Option.getD, s1, x, e, a1, s2, a]
  | lst ws =>
    simp only [frz] at a1
    simp only [v_bin6, v_bin5, v_bin4, v_bin3, v_bin2, v_bin1, v_bin, v_un3, v_un2, v_un1, v_un, v_test2, v_test1, v_test, v_cons3, v_cons2, v_cons1, v_cons, v_star4, v_star3, v_star2, v_star1, v_star, v_tup2, v_tup1, v_tup, v_lst2, v_lst1, v_lst, v_callB3, v_callB2, v_callB1, v_callB, v_andT1, v_andT, v_orT1, v_orT, v_notT1, v_notT, v_and2, v_and1, v_and, v_or2, v_or1, v_or, v_not2, v_not1, v_not, v_if1, v_if, v_orL1, v_orL, v_seq1, v_seq, v_ifS1, v_ifS, v_ret2, v_ret1, v_ret, v_drop1, v_drop, v_asg3, v_asg2, v_asg1, v_asg, v_gset1, v_gset, v_gsub5, v_gsub4, v_gsub3, v_gsub2, v_gsub1, v_gsub, v_gsc1, v_gsc, v_gsn1, v_gsn, v_for1, v_for, v_forc2, v_forc1, v_forc, v_lcc2, v_lcc1, v_lcc, v_lcT3, v_lcT2, v_lcT1, v_lcT, v_lc4, v_lc1, v_lc, v_def4, v_def3, v_def2, v_def1, v_def, v_callV4, v_callV3, v_callV2, v_callV1, v_callV, v_callP4, v_callP3, v_callP2, v_callP1, v_callP, v_callKV5, v_callKV4, v_callKV3, v_callKV2, v_callKV1, v_callKV, v_callKP5, v_callKP4, v_callKP3, v_callKP2, v_callKP1, v_callKP, v_callIO5, v_callIO4, v_callIO3, v_callIO2, v_callIO1, v_callIO, v_app7, v_app6, v_app5, v_app4, v_app3, v_app2, v_app1, v_app, v_sl6, v_sl5, v_sl4, v_sl3, v_sl2, v_sl1, v_sl, v_oS2, v_oS1, v_oS, v_iseq3, v_iseq2, v_iseq1, v_iseq, v_ienum3, v_ienum2, v_ienum1, v_ienum, v_irg1, v_irg, v_rgTup3, v_rgTup2, v_rgTup1, v_rgTup, v_argsc2, v_argsc1, v_argsc, v_putc1, v_putc, v_takesc2, v_takesc1, v_takesc, v_contsc2, v_contsc1, v_contsc, v_backsI2, v_backsI1, v_backsI, v_binF7, v_binF6, v_binF5, v_binF4, v_binF3, v_binF2, v_binF1, v_binF, v_par22, v_par21, v_par2, v_par32, v_par31, v_par3, v_ext8, v_ext7, v_ext6, v_ext5, v_ext4, v_ext3, v_ext2, v_ext1, v_ext, v_zip2, v_zip1, v_zip, v_irgB3, v_irgB2, v_irgB1, v_irgB, v_rgLst3, v_rgLst2, v_rgLst1, v_rgLst, v_rgTupB5, v_rgTupB4, v_rgTupB3, v_rgTupB2, v_rgTupB1, v_rgTupB, v_rgLstB5, v_rgLstB4, v_rgLstB3, v_rgLstB2, v_rgLstB1, v_rgLstB, v_ok, v_c, v_nil, v_next, v_yes, v_oN, v_gtup, v_var, v_for0, v_lc0, v_args0, v_put0, v_takes0, v_conts0, v_backs0, w_add, w_sub, w_neg, w_lt, w_le, w_gt, w_ge, w_intI, w_intB, w_ix0, w_ix1, w_ix2, w_i0, w_i1, w_i2, pend, cont, take, frz, frzs, getP, setP, Res.of, boolOf, isPl, mutS, mutP, intOf, move, retOf, backs1, put1, fzT, ioOf, chk, early, shut, isTmp, flatB, scal, List.map_cons, List.map_nil, List.cons_append, List.nil_append, List.append_nil, List.replicate_succ, List.replicate_zero, List.replicate, List.length_cons, List.length_nil, List.getElem?_cons_zero, List.getElem?_cons_succ, List.set_cons_zero, List.set_cons_succ, List.all_cons, List.all_nil, List.contains_cons, List.contains_nil, List.elem_cons, List.elem_nil, List.isEmpty_nil, List.isEmpty_cons, Nat.reduceAdd, Nat.reduceSub, Nat.reduceBEq, Nat.reduceLT, Nat.reduceLeDiff, Nat.reduceEqDiff, decide_true, decide_false, Bool.and_true, Bool.true_and, Bool.or_true, Bool.true_or, Bool.or_false, Bool.false_or, Bool.and_false, Bool.false_and, Bool.not_true, Bool.not_false, Bool.false_eq_true, reduceIte, ite_true, ite_false, beq_self_eq_true, Nat.zero_add, reduceCtorEq, and_self, true_and, and_true, ge_iff_le, gt_iff_lt, Nat.succ_eq_add_one, Nat.add_one_sub_one, Nat.zero_lt_succ, Nat.lt_add_left_iff_pos, wipeE, restE, pick, List.filterMap_cons, List.filterMap_nil, u_irg, u_irgB, Int.reduceLE, Int.reduceLT, Int.reduceNeg, u_unT, u_unL, u_unW, u_max, u_min, u_abs, u_tup, u_lst, u_lc, u_app0, u_app, u_ext0, u_ext, u_par2, u_par3, u_zip, u_aug0, u_aug, u_aug2, u_ch, u_ch1, u_ch2, u_ch3, e_int, ne_int, e_bl, ne_bl, q_aa, q_af, q_ac, q_fa, q_ff, q_fc, q_ca, q_cf, q_cc, is_non, is_int, isn_non, isn_int, ix_t0, ix_t1, ix_t2, ix_l0, ix_l1, x_asc, x_kco, x_ite, decide_eq_true_eq, Bool.not_eq_true', decide_eq_false_iff_not, u_srT, u_srL, u_srW, isT, seqV, tupV, lstV, u_join, Option.getD, s1, x, e, a1, s2, a]
end
theorem run3b {n : Nat} {c : CS} {X X1 w : W} {M K : D} {p q : Option W} {ρ : En} (hX : ∃ ws, X = .lst ws) (hX1 : ∃ ws, X1 = .lst ws) (h : c (some X :: some (.fz M) :: some (.fz K) :: List.replicate n none) = .ok (.ret w, some X1 :: p :: q :: ρ)) : runDef 3 (n + 3) (ioOf [0]) c [X, .fz M, .fz K] = .ok (w, [X1, .fz M, .fz K]) := by
  obtain ⟨a, rfl⟩ := hX
  obtain ⟨b, rfl⟩ := hX1
  have h2 : c ([W.lst a, .fz M, .fz K].map some ++ List.replicate (n + 3 - 3) none) = .ok (.ret w, some (.lst b) :: p :: q :: ρ) := h
  rw [v_def, show chk (([W.lst a, .fz M, .fz K] : List W).length == 3) = .ok () from rfl, v_ok, v_def1, h2, v_ok, v_def2]
  rfl
theorem slT_lo {ds : List D} {k : Nat} : fSl (.fz (.tup ds)) none (some (k : Int)) = .ok (.fz (.tup (ds.take k))) := by
  show Res.ok (W.fz (.tup (cutD ds none (some (k : Int))))) = _
  unfold cutD
  rw [HT.sIx_none, HT.sIx_nat]
  simp only [Nat.sub_zero, List.drop_zero]
  by_cases h : k ≤ ds.length
  · rw [Nat.min_eq_left h]
  · rw [Nat.min_eq_right (by omega), List.take_of_length_le (by omega), List.take_of_length_le (by omega)]
theorem slT_hi {ds : List D} {k : Nat} : fSl (.fz (.tup ds)) (some (k : Int)) none = .ok (.fz (.tup (ds.drop k))) := by
  show Res.ok (W.fz (.tup (cutD ds (some (k : Int)) none))) = _
  unfold cutD
  rw [HT.sIx_none, HT.sIx_nat]
  by_cases h : k ≤ ds.length
  · rw [Nat.min_eq_left h, List.take_of_length_le (by rw [List.length_drop]; omega)]
  · rw [Nat.min_eq_right (by omega), List.drop_of_length_le (by omega), List.drop_of_length_le (by omega), List.take_nil]
theorem addT {a b : List D} (h : a.length + b.length ≤ 1000) : fAdd (.fz (.tup a)) (.fz (.tup b)) = .ok (.fz (.tup (a ++ b))) := by
  show (if a.length + b.length ≤ 16777216 then Res.ok (W.fz (.tup (a ++ b))) else .err) = _
  rw [if_pos (by omega)]
theorem PL.put {k n : Nat} {ds : List D} {x : D} {i : Nat} (h : PL k (n + 1) (.tup ds)) (hx : PL (k + 1) (n + 3) x) (j : Nat) (hj : i ≤ j) : PL (k + 1) (n + 4) (.tup ((ds.take i ++ [x]) ++ ds.drop j)) := by
  refine ⟨by
    have := h.1
    rw [List.length_append, List.length_append, List.length_take, List.length_drop, List.length_singleton]; omega, fun d hd => ?_⟩
  rcases List.mem_append.mp hd with hd | hd
  · rcases List.mem_append.mp hd with hd | hd
    · exact (h.2 d (List.mem_of_mem_take hd)).up (by omega) _ (by omega)
    · rw [List.mem_singleton] at hd
      subst hd; exact hx
  · exact (h.2 d (List.mem_of_mem_drop hd)).up (by omega) _ (by omega)
theorem frzs_odd : frzs (odd.map W.fz) = odd := frzs_fz (fun d : D => d) odd ▸ by rw [List.map_id']
theorem bent_ok : ∀ (t f k n : Nat) (d : D) (m : Nat) (β : Bx), 2 ≤ k → k ≤ 100 → n ≤ 20 → PL k n d → Gd (m + 4 * (t + 1)) β → ∃ (w : W) (β' : Bx), Gd m β' ∧ PL (k + 1) (n + 3) (frz w) ∧ F_law_bent (t + f + 1) [bx β, .fz d, .fz (.int t)] = .ok (w, [bx β', .fz d, .fz (.int t)]) := by
  intro t
  induction t with
  | zero =>
    intro f k n d m β k2 k1 n1 hd g
    obtain ⟨E, β', hE, g', e⟩ := of_ok (m := m + 3) (ds := odd) g (by decide) (by decide)
    refine ⟨.fz E, β', g'.le (by omega), (odd_pl E hE).up (by omega) _ (by omega), ?_⟩
    exact run3b (n := 3) ⟨_, rfl⟩ ⟨_, rfl⟩ (seqN b_1 (seqN b_2 (seqR (b_3a ⟨_, rfl⟩ ⟨_, rfl⟩ frzs_odd e))))
  | succ t ih =>
    intro f k n d m β k2 k1 n1 hd g
    have k0 : (((t + 1 : Nat) : Int) = 0) = False := by
      rw [eq_iff_iff, iff_false]; omega
    have i := ty_tu hd
    have fuel : t + 1 + f + 1 = (t + f + 1) + 1 := by omega
    rw [fuel]
    show ∃ (w : W) (β' : Bx), Gd m β' ∧ PL (k + 1) (n + 3) (frz w) ∧ runDef 3 6 (ioOf [0]) (m_law_bent (F_law_bent (t + f + 1))) [bx β, .fz d, .fz (.int ((t + 1 : Nat) : Int))] = .ok (w, [bx β', .fz d, .fz (.int ((t + 1 : Nat) : Int))])
    by_cases c : isTu d = false
    · rw [c] at i
      obtain ⟨E, β', hE, g', e⟩ := of_ok (m := m + 4 * (t + 1) + 3) (ds := odd) (g.le (by omega)) (by decide) (by decide)
      exact ⟨.fz E, β', g'.le (by omega), (odd_pl E hE).up (by omega) _ (by omega), run3b (n := 3) ⟨_, rfl⟩ ⟨_, rfl⟩ (seqN b_1 (seqN b_2 (seqR (b_3b ⟨_, rfl⟩ ⟨_, rfl⟩ frzs_odd e k0 i))))⟩
    · cases n with
      | zero => exact hd.elim
      | succ n => cases d with
        | tup ds =>
          rw [show isTu (.tup ds) = true from rfl] at i
          have q3 := eq_nilT (n := n + 1) (ds := ds) (hd.pln (by omega)) (by omega)
          have dl := hd.1
          by_cases cn : ds = []
          · subst cn
            obtain ⟨E, β', hE, g', e⟩ := of_ok (m := m + 4 * (t + 1) + 3) (ds := odd) (g.le (by omega)) (by decide) (by decide)
            exact ⟨.fz E, β', g'.le (by omega), (odd_pl E hE).up (by omega) _ (by omega), run3b (n := 3) ⟨_, rfl⟩ ⟨_, rfl⟩ (seqN b_1 (seqN b_2 (seqR (b_3c ⟨_, rfl⟩ ⟨_, rfl⟩ frzs_odd e k0 i q3))))⟩
          · have hp : 0 < ds.length := List.length_pos_iff.mpr cn
            have em : ds.isEmpty = false := by cases ds with
              | nil => exact absurd rfl cn
              | cons a l => rfl
            rw [em] at q3
            obtain ⟨j, β1, j0, j1, g1, e1⟩ := take_ok (m := m + 4 * (t + 1) + 3) (n := 6) (g.le (by omega)) (by omega) (by omega)
            by_cases cj : j = 0
            · subst cj
              obtain ⟨E, β', hE, g', e⟩ := of_ok (m := m + 4 * (t + 1) + 2) (ds := odd) g1 (by decide) (by decide)
              exact ⟨.fz E, β', g'.le (by omega), (odd_pl E hE).up (by omega) _ (by omega), run3b (n := 3) ⟨_, rfl⟩ ⟨_, rfl⟩ (seqN b_1 (seqN b_2 (seqR (b_3d ⟨_, rfl⟩ ⟨_, rfl⟩ ⟨_, rfl⟩ frzs_odd e1 e k0 i q3))))⟩
            · obtain ⟨s, β2, s0, s1, g2, e2⟩ := take_ok (m := m + 4 * (t + 1) + 2) (n := (ds.length : Int)) g1 (by omega) (by omega)
              obtain ⟨q, β3, q0, q1, g3, e3⟩ := take_ok (m := m + 4 * (t + 1) + 1) (n := 7) g2 (by omega) (by omega)
              obtain ⟨p, rfl⟩ : ∃ p : Nat, s = (p : Int) := ⟨s.toNat, by omega⟩
              have hpl : p < ds.length := by omega
              have x3 := b_3 (FO := F_law_of) (M := .tup ds) (OW := odd.map W.fz) (o4 := none) (o5 := none) (k := ((t + 1 : Nat) : Int)) (X := bx β) (X1 := bx β1) ⟨_, rfl⟩ ⟨_, rfl⟩ rfl i q3 e1 rfl ⟨by rw [decide_eq_false_iff_not]; omega, rfl, rfl, decide_eq_false cj⟩
              have x4 := b_4 (X := bx β1) (X1 := bx β2) (X2 := bx β3) (M := .tup ds) (k := ((t + 1 : Nat) : Int)) (o3 := some (.lst (odd.map W.fz))) ⟨_, rfl⟩ ⟨_, rfl⟩ ⟨_, rfl⟩ (show fLen [.fz (.tup ds)] = .ok (.fz (.int ds.length)) from rfl) e2 e3
              have lo := slT_lo (ds := ds) (k := p)
              have hi := slT_hi (ds := ds) (k := p)
              have hi1 : fSl (.fz (.tup ds)) (some ((p : Int) + 1)) none = .ok (.fz (.tup (ds.drop (p + 1)))) := slT_hi (ds := ds) (k := p + 1)
              have ix : fIdx (.fz (.tup ds)) (.fz (.int (p : Int))) = .ok (.fz ds[p]) := w_ix (ds := ds) (j := p) rfl (ixN_pos (by omega) (by omega)) (List.getElem?_eq_getElem hpl)
              have he : PL k n ds[p] := hd.2 _ (List.getElem_mem hpl)
              by_cases c0 : q = 0
              · subst c0
                refine ⟨.fz (.tup (ds.take p ++ ds.drop (p + 1))), β3, g3.le (by omega), ⟨by rw [List.length_append, List.length_take, List.length_drop]; omega, fun x hx => ?_⟩, ?_⟩
                · rcases List.mem_append.mp hx with hx | hx
                  · exact (hd.2 x (List.mem_of_mem_take hx)).up (by omega) _ (by omega)
                  · exact (hd.2 x (List.mem_of_mem_drop hx)).up (by omega) _ (by omega)
                · exact run3b (n := 3) ⟨_, rfl⟩ ⟨_, rfl⟩ (seqN b_1 (seqN b_2 (seqN x3 (seqN x4 (seqR (b_5 lo hi1 (addT (by rw [List.length_take, List.length_drop]; omega))))))))
              · have n0 := b_n (X := bx β3) (M := .tup ds) (k := ((t + 1 : Nat) : Int)) (o3 := some (.lst (odd.map W.fz))) (o4 := some (.fz (.int (p : Int)))) (j := q) (n := 0) (c := cRet (cBin fAdd true (cSl fSl true (cVar 1) oNone (oSome (cVar 4))) (cSl fSl true (cVar 1) (oSome (cBin fAdd true (cVar 4) (cC (.int 1)))) oNone))) (by rw [eq_iff_iff, iff_false]; exact c0)
                by_cases c1 : q = 1
                · subst c1
                  refine ⟨.fz (.tup ((ds.take p ++ [ds[p]]) ++ ds.drop p)), β3, g3.le (by omega), PL.put hd (he.up (by omega) _ (by omega)) p (Nat.le_refl _), ?_⟩
                  exact run3b (n := 3) ⟨_, rfl⟩ ⟨_, rfl⟩ (seqN b_1 (seqN b_2 (seqN x3 (seqN x4 (seqN n0 (seqR (b_6 lo ix (addT (by rw [List.length_take, List.length_singleton]; omega)) hi (addT (by rw [List.length_append, List.length_take, List.length_drop, List.length_singleton]; omega)))))))))
                · have n1' := b_n (X := bx β3) (M := .tup ds) (k := ((t + 1 : Nat) : Int)) (o3 := some (.lst (odd.map W.fz))) (o4 := some (.fz (.int (p : Int)))) (j := q) (n := 1) (c := cRet (cBin fAdd true (cBin fAdd true (cSl fSl true (cVar 1) oNone (oSome (cVar 4))) (cTup true (cCons true (cBin fIdx true (cVar 1) (cVar 4)) cNil))) (cSl fSl true (cVar 1) (oSome (cVar 4)) oNone))) (by rw [eq_iff_iff, iff_false]; exact c1)
                  by_cases c2 : q = 2
                  · subst c2
                    have ll : fList [.fz (.tup ds)] = .ok (.lst (ds.map W.fz)) := rfl
                    refine ⟨.lst (ds.map W.fz), β3, g3.le (by omega), ?_, ?_⟩
                    · show PL (k + 1) (n + 1 + 3) (.lst (frzs (ds.map W.fz)))
                      rw [frz_map]
                      exact ⟨by omega, fun x hx => (hd.2 x hx).up (by omega) _ (by omega)⟩
                    · exact run3b (n := 3) ⟨_, rfl⟩ ⟨_, rfl⟩ (seqN b_1 (seqN b_2 (seqN x3 (seqN x4 (seqN n0 (seqN n1' (seqR (b_7 ll))))))))
                  · have n2 := b_n (X := bx β3) (M := .tup ds) (k := ((t + 1 : Nat) : Int)) (o3 := some (.lst (odd.map W.fz))) (o4 := some (.fz (.int (p : Int)))) (j := q) (n := 2) (c := cRet (cCallB fList (cCons true (cVar 1) cNil))) (by rw [eq_iff_iff, iff_false]; exact c2)
                    obtain ⟨w, β4, g4, hw, e4⟩ := ih f k n ds[p] m β3 k2 k1 (by omega) he (g3.le (by omega))
                    have e4' : F_law_bent (t + f + 1) [bx β3, .fz ds[p], .fz (.int (((t + 1 : Nat) : Int) - 1))] = .ok (w, [bx β4, .fz ds[p], .fz (.int (((t + 1 : Nat) : Int) - 1))]) := by
                      rw [show ((t + 1 : Nat) : Int) - 1 = (t : Int) by omega]; exact e4
                    refine ⟨.fz (.tup ((ds.take p ++ [frz w]) ++ ds.drop (p + 1))), β4, g4, PL.put hd hw (p + 1) (by omega), ?_⟩
                    exact run3b (n := 3) ⟨_, rfl⟩ ⟨_, rfl⟩ (seqN b_1 (seqN b_2 (seqN x3 (seqN x4 (seqN n0 (seqN n1' (seqN n2 (b_8 ⟨_, rfl⟩ ⟨_, rfl⟩ lo ix e4' (addT (by rw [List.length_take, List.length_singleton]; omega)) hi1 (addT (by rw [List.length_append, List.length_take, List.length_drop, List.length_singleton]; omega))))))))))
        | _ => exact absurd rfl c
end Gn
namespace Gn
open Mi PySem
theorem hand : F_law_by_hand_right [] = .ok (.fz (.bl true), []) := by kernel_rfl
end Gn
namespace Gn
open Mi PySem
def Fo (o : Option W) : Prop := o = none ∨ ∃ d, o = some (.fz d)
section
variable {X X1 X2 : W} {R I : D} {x y t : Int} {TW LW : List W} {TD SD : List D} {o1 o2 o3 o4 o5 o6 o7 : Option W} {ws : List W}
theorem rt_1 {FE FN : Fn} (hX : ∃ ws, X = .lst ws) (hX1 : ∃ ws, X1 = .lst ws) (hX2 : ∃ ws, X2 = .lst ws) (e1 : FE [X, .fz (.int 12)] = .ok (.fz R, [X1, .fz (.int 12)])) (e2 : FN [X1] = .ok (.fz (.int x), [X2])) : cAsg (gUnp (gsCons (gSet 6) (gsCons (gSet 7) gsNil))) (cTup true (cCons false (cCallIO FE (ioOf [0]) (cCons true (cVar 0) (cCons true (cC (.int 12)) cNil))) (cCons true (cCallIO FN (ioOf [0]) (cCons true (cVar 0) cNil)) cNil))) [some X, o1, o2, o3, o4, o5, o6, o7, none] = .ok (.nx, [some X2, o1, o2, o3, o4, o5, some (.fz R), some (.fz (.int x)), none]) := by
  obtain ⟨a, rfl⟩ := hX
  obtain ⟨b, rfl⟩ := hX1
  obtain ⟨c, rfl⟩ := hX2
  simp only [v_bin6, v_bin5, v_bin4, v_bin3, v_bin2, v_bin1, v_bin, v_un3, v_un2, v_un1, v_un, v_test2, v_test1, v_test, v_cons3, v_cons2, v_cons1, v_cons, v_star4, v_star3, v_star2, v_star1, v_star, v_tup2, v_tup1, v_tup, v_lst2, v_lst1, v_lst, v_callB3, v_callB2, v_callB1, v_callB, v_andT1, v_andT, v_orT1, v_orT, v_notT1, v_notT, v_and2, v_and1, v_and, v_or2, v_or1, v_or, v_not2, v_not1, v_not, v_if1, v_if, v_orL1, v_orL, v_seq1, v_seq, v_ifS1, v_ifS, v_ret2, v_ret1, v_ret, v_drop1, v_drop, v_asg3, v_asg2, v_asg1, v_asg, v_gset1, v_gset, v_gsub5, v_gsub4, v_gsub3, v_gsub2, v_gsub1, v_gsub, v_gsc1, v_gsc, v_gsn1, v_gsn, v_for1, v_for, v_forc2, v_forc1, v_forc, v_lcc2, v_lcc1, v_lcc, v_lcT3, v_lcT2, v_lcT1, v_lcT, v_lc4, v_lc1, v_lc, v_def4, v_def3, v_def2, v_def1, v_def, v_callV4, v_callV3, v_callV2, v_callV1, v_callV, v_callP4, v_callP3, v_callP2, v_callP1, v_callP, v_callKV5, v_callKV4, v_callKV3, v_callKV2, v_callKV1, v_callKV, v_callKP5, v_callKP4, v_callKP3, v_callKP2, v_callKP1, v_callKP, v_callIO5, v_callIO4, v_callIO3, v_callIO2, v_callIO1, v_callIO, v_app7, v_app6, v_app5, v_app4, v_app3, v_app2, v_app1, v_app, v_sl6, v_sl5, v_sl4, v_sl3, v_sl2, v_sl1, v_sl, v_oS2, v_oS1, v_oS, v_iseq3, v_iseq2, v_iseq1, v_iseq, v_ienum3, v_ienum2, v_ienum1, v_ienum, v_irg1, v_irg, v_rgTup3, v_rgTup2, v_rgTup1, v_rgTup, v_argsc2, v_argsc1, v_argsc, v_putc1, v_putc, v_takesc2, v_takesc1, v_takesc, v_contsc2, v_contsc1, v_contsc, v_backsI2, v_backsI1, v_backsI, v_binF7, v_binF6, v_binF5, v_binF4, v_binF3, v_binF2, v_binF1, v_binF, v_par22, v_par21, v_par2, v_par32, v_par31, v_par3, v_ext8, v_ext7, v_ext6, v_ext5, v_ext4, v_ext3, v_ext2, v_ext1, v_ext, v_zip2, v_zip1, v_zip, v_irgB3, v_irgB2, v_irgB1, v_irgB, v_rgLst3, v_rgLst2, v_rgLst1, v_rgLst, v_rgTupB5, v_rgTupB4, v_rgTupB3, v_rgTupB2, v_rgTupB1, v_rgTupB, v_rgLstB5, v_rgLstB4, v_rgLstB3, v_rgLstB2, v_rgLstB1, v_rgLstB, v_ok, v_c, v_nil, v_next, v_yes, v_oN, v_gtup, v_var, v_for0, v_lc0, v_args0, v_put0, v_takes0, v_conts0, v_backs0, w_add, w_sub, w_neg, w_lt, w_le, w_gt, w_ge, w_intI, w_intB, w_ix0, w_ix1, w_ix2, w_i0, w_i1, w_i2, pend, cont, take, frz, frzs, getP, setP, Res.of, boolOf, isPl, mutS, mutP, intOf, move, retOf, backs1, put1, fzT, ioOf, chk, early, shut, isTmp, flatB, scal, List.map_cons, List.map_nil, List.cons_append, List.nil_append, List.append_nil, List.replicate_succ, List.replicate_zero, List.replicate, List.length_cons, List.length_nil, List.getElem?_cons_zero, List.getElem?_cons_succ, List.set_cons_zero, List.set_cons_succ, List.all_cons, List.all_nil, List.contains_cons, List.contains_nil, List.elem_cons, List.elem_nil, List.isEmpty_nil, List.isEmpty_cons, Nat.reduceAdd, Nat.reduceSub, Nat.reduceBEq, Nat.reduceLT, Nat.reduceLeDiff, Nat.reduceEqDiff, decide_true, decide_false, Bool.and_true, Bool.true_and, Bool.or_true, Bool.true_or, Bool.or_false, Bool.false_or, Bool.and_false, Bool.false_and, Bool.not_true, Bool.not_false, Bool.false_eq_true, reduceIte, ite_true, ite_false, beq_self_eq_true, Nat.zero_add, reduceCtorEq, and_self, true_and, and_true, ge_iff_le, gt_iff_lt, Nat.succ_eq_add_one, Nat.add_one_sub_one, Nat.zero_lt_succ, Nat.lt_add_left_iff_pos, wipeE, restE, pick, List.filterMap_cons, List.filterMap_nil, u_irg, u_irgB, Int.reduceLE, Int.reduceLT, Int.reduceNeg, u_unT, u_unL, u_unW, u_max, u_min, u_abs, u_tup, u_lst, u_lc, u_app0, u_app, u_ext0, u_ext, u_par2, u_par3, u_zip, u_aug0, u_aug, u_aug2, u_ch, u_ch1, u_ch2, u_ch3, e_int, ne_int, e_bl, ne_bl, q_aa, q_af, q_ac, q_fa, q_ff, q_fc, q_ca, q_cf, q_cc, is_non, is_int, isn_non, isn_int, ix_t0, ix_t1, ix_t2, ix_l0, ix_l1, x_asc, x_kco, x_ite, decide_eq_true_eq, Bool.not_eq_true', decide_eq_false_iff_not, u_srT, u_srL, u_srW, isT, seqV, tupV, lstV, u_join, Option.getD, e1, e2]
theorem rt_2 {F : Fn} (e : F [.fz R, .fz (.int x)] = .ok (.lst TW, [.fz R, .fz (.int x)])) : cAsg (gSet 2) (cCallP false F (cCons true (cVar 6) (cCons true (cVar 7) cNil))) [some X, o1, o2, o3, o4, o5, some (.fz R), some (.fz (.int x)), none] = .ok (.nx, [some X, o1, some (.lst TW), o3, o4, o5, some (.fz R), some (.fz (.int x)), none]) := by
  simp only [v_bin6, v_bin5, v_bin4, v_bin3, v_bin2, v_bin1, v_bin, v_un3, v_un2, v_un1, v_un, v_test2, v_test1, v_test, v_cons3, v_cons2, v_cons1, v_cons, v_star4, v_star3, v_star2, v_star1, v_star, v_tup2, v_tup1, v_tup, v_lst2, v_lst1, v_lst, v_callB3, v_callB2, v_callB1, v_callB, v_andT1, v_andT, v_orT1, v_orT, v_notT1, v_notT, v_and2, v_and1, v_and, v_or2, v_or1, v_or, v_not2, v_not1, v_not, v_if1, v_if, v_orL1, v_orL, v_seq1, v_seq, v_ifS1, v_ifS, v_ret2, v_ret1, v_ret, v_drop1, v_drop, v_asg3, v_asg2, v_asg1, v_asg, v_gset1, v_gset, v_gsub5, v_gsub4, v_gsub3, v_gsub2, v_gsub1, v_gsub, v_gsc1, v_gsc, v_gsn1, v_gsn, v_for1, v_for, v_forc2, v_forc1, v_forc, v_lcc2, v_lcc1, v_lcc, v_lcT3, v_lcT2, v_lcT1, v_lcT, v_lc4, v_lc1, v_lc, v_def4, v_def3, v_def2, v_def1, v_def, v_callV4, v_callV3, v_callV2, v_callV1, v_callV, v_callP4, v_callP3, v_callP2, v_callP1, v_callP, v_callKV5, v_callKV4, v_callKV3, v_callKV2, v_callKV1, v_callKV, v_callKP5, v_callKP4, v_callKP3, v_callKP2, v_callKP1, v_callKP, v_callIO5, v_callIO4, v_callIO3, v_callIO2, v_callIO1, v_callIO, v_app7, v_app6, v_app5, v_app4, v_app3, v_app2, v_app1, v_app, v_sl6, v_sl5, v_sl4, v_sl3, v_sl2, v_sl1, v_sl, v_oS2, v_oS1, v_oS, v_iseq3, v_iseq2, v_iseq1, v_iseq, v_ienum3, v_ienum2, v_ienum1, v_ienum, v_irg1, v_irg, v_rgTup3, v_rgTup2, v_rgTup1, v_rgTup, v_argsc2, v_argsc1, v_argsc, v_putc1, v_putc, v_takesc2, v_takesc1, v_takesc, v_contsc2, v_contsc1, v_contsc, v_backsI2, v_backsI1, v_backsI, v_binF7, v_binF6, v_binF5, v_binF4, v_binF3, v_binF2, v_binF1, v_binF, v_par22, v_par21, v_par2, v_par32, v_par31, v_par3, v_ext8, v_ext7, v_ext6, v_ext5, v_ext4, v_ext3, v_ext2, v_ext1, v_ext, v_zip2, v_zip1, v_zip, v_irgB3, v_irgB2, v_irgB1, v_irgB, v_rgLst3, v_rgLst2, v_rgLst1, v_rgLst, v_rgTupB5, v_rgTupB4, v_rgTupB3, v_rgTupB2, v_rgTupB1, v_rgTupB, v_rgLstB5, v_rgLstB4, v_rgLstB3, v_rgLstB2, v_rgLstB1, v_rgLstB, v_ok, v_c, v_nil, v_next, v_yes, v_oN, v_gtup, v_var, v_for0, v_lc0, v_args0, v_put0, v_takes0, v_conts0, v_backs0, w_add, w_sub, w_neg, w_lt, w_le, w_gt, w_ge, w_intI, w_intB, w_ix0, w_ix1, w_ix2, w_i0, w_i1, w_i2, pend, cont, take, frz, frzs, getP, setP, Res.of, boolOf, isPl, mutS, mutP, intOf, move, retOf, backs1, put1, fzT, ioOf, chk, early, shut, isTmp, flatB, scal, List.map_cons, List.map_nil, List.cons_append, List.nil_append, List.append_nil, List.replicate_succ, List.replicate_zero, List.replicate, List.length_cons, List.length_nil, List.getElem?_cons_zero, List.getElem?_cons_succ, List.set_cons_zero, List.set_cons_succ, List.all_cons, List.all_nil, List.contains_cons, List.contains_nil, List.elem_cons, List.elem_nil, List.isEmpty_nil, List.isEmpty_cons, Nat.reduceAdd, Nat.reduceSub, Nat.reduceBEq, Nat.reduceLT, Nat.reduceLeDiff, Nat.reduceEqDiff, decide_true, decide_false, Bool.and_true, Bool.true_and, Bool.or_true, Bool.true_or, Bool.or_false, Bool.false_or, Bool.and_false, Bool.false_and, Bool.not_true, Bool.not_false, Bool.false_eq_true, reduceIte, ite_true, ite_false, beq_self_eq_true, Nat.zero_add, reduceCtorEq, and_self, true_and, and_true, ge_iff_le, gt_iff_lt, Nat.succ_eq_add_one, Nat.add_one_sub_one, Nat.zero_lt_succ, Nat.lt_add_left_iff_pos, wipeE, restE, pick, List.filterMap_cons, List.filterMap_nil, u_irg, u_irgB, Int.reduceLE, Int.reduceLT, Int.reduceNeg, u_unT, u_unL, u_unW, u_max, u_min, u_abs, u_tup, u_lst, u_lc, u_app0, u_app, u_ext0, u_ext, u_par2, u_par3, u_zip, u_aug0, u_aug, u_aug2, u_ch, u_ch1, u_ch2, u_ch3, e_int, ne_int, e_bl, ne_bl, q_aa, q_af, q_ac, q_fa, q_ff, q_fc, q_ca, q_cf, q_cc, is_non, is_int, isn_non, isn_int, ix_t0, ix_t1, ix_t2, ix_l0, ix_l1, x_asc, x_kco, x_ite, decide_eq_true_eq, Bool.not_eq_true', decide_eq_false_iff_not, u_srT, u_srL, u_srW, isT, seqV, tupV, lstV, u_join, Option.getD, e]
theorem rt_3 {F : Fn} (e : F [.fz R, .fz (.int x)] = .ok (.lst TW, [.fz R, .fz (.int x)])) : cAsg (gSet 3) (cCallP false F (cCons true (cVar 6) (cCons true (cVar 7) cNil))) [some X, o1, o2, o3, o4, o5, some (.fz R), some (.fz (.int x)), none] = .ok (.nx, [some X, o1, o2, some (.lst TW), o4, o5, some (.fz R), some (.fz (.int x)), none]) := by
  simp only [v_bin6, v_bin5, v_bin4, v_bin3, v_bin2, v_bin1, v_bin, v_un3, v_un2, v_un1, v_un, v_test2, v_test1, v_test, v_cons3, v_cons2, v_cons1, v_cons, v_star4, v_star3, v_star2, v_star1, v_star, v_tup2, v_tup1, v_tup, v_lst2, v_lst1, v_lst, v_callB3, v_callB2, v_callB1, v_callB, v_andT1, v_andT, v_orT1, v_orT, v_notT1, v_notT, v_and2, v_and1, v_and, v_or2, v_or1, v_or, v_not2, v_not1, v_not, v_if1, v_if, v_orL1, v_orL, v_seq1, v_seq, v_ifS1, v_ifS, v_ret2, v_ret1, v_ret, v_drop1, v_drop, v_asg3, v_asg2, v_asg1, v_asg, v_gset1, v_gset, v_gsub5, v_gsub4, v_gsub3, v_gsub2, v_gsub1, v_gsub, v_gsc1, v_gsc, v_gsn1, v_gsn, v_for1, v_for, v_forc2, v_forc1, v_forc, v_lcc2, v_lcc1, v_lcc, v_lcT3, v_lcT2, v_lcT1, v_lcT, v_lc4, v_lc1, v_lc, v_def4, v_def3, v_def2, v_def1, v_def, v_callV4, v_callV3, v_callV2, v_callV1, v_callV, v_callP4, v_callP3, v_callP2, v_callP1, v_callP, v_callKV5, v_callKV4, v_callKV3, v_callKV2, v_callKV1, v_callKV, v_callKP5, v_callKP4, v_callKP3, v_callKP2, v_callKP1, v_callKP, v_callIO5, v_callIO4, v_callIO3, v_callIO2, v_callIO1, v_callIO, v_app7, v_app6, v_app5, v_app4, v_app3, v_app2, v_app1, v_app, v_sl6, v_sl5, v_sl4, v_sl3, v_sl2, v_sl1, v_sl, v_oS2, v_oS1, v_oS, v_iseq3, v_iseq2, v_iseq1, v_iseq, v_ienum3, v_ienum2, v_ienum1, v_ienum, v_irg1, v_irg, v_rgTup3, v_rgTup2, v_rgTup1, v_rgTup, v_argsc2, v_argsc1, v_argsc, v_putc1, v_putc, v_takesc2, v_takesc1, v_takesc, v_contsc2, v_contsc1, v_contsc, v_backsI2, v_backsI1, v_backsI, v_binF7, v_binF6, v_binF5, v_binF4, v_binF3, v_binF2, v_binF1, v_binF, v_par22, v_par21, v_par2, v_par32, v_par31, v_par3, v_ext8, v_ext7, v_ext6, v_ext5, v_ext4, v_ext3, v_ext2, v_ext1, v_ext, v_zip2, v_zip1, v_zip, v_irgB3, v_irgB2, v_irgB1, v_irgB, v_rgLst3, v_rgLst2, v_rgLst1, v_rgLst, v_rgTupB5, v_rgTupB4, v_rgTupB3, v_rgTupB2, v_rgTupB1, v_rgTupB, v_rgLstB5, v_rgLstB4, v_rgLstB3, v_rgLstB2, v_rgLstB1, v_rgLstB, v_ok, v_c, v_nil, v_next, v_yes, v_oN, v_gtup, v_var, v_for0, v_lc0, v_args0, v_put0, v_takes0, v_conts0, v_backs0, w_add, w_sub, w_neg, w_lt, w_le, w_gt, w_ge, w_intI, w_intB, w_ix0, w_ix1, w_ix2, w_i0, w_i1, w_i2, pend, cont, take, frz, frzs, getP, setP, Res.of, boolOf, isPl, mutS, mutP, intOf, move, retOf, backs1, put1, fzT, ioOf, chk, early, shut, isTmp, flatB, scal, List.map_cons, List.map_nil, List.cons_append, List.nil_append, List.append_nil, List.replicate_succ, List.replicate_zero, List.replicate, List.length_cons, List.length_nil, List.getElem?_cons_zero, List.getElem?_cons_succ, List.set_cons_zero, List.set_cons_succ, List.all_cons, List.all_nil, List.contains_cons, List.contains_nil, List.elem_cons, List.elem_nil, List.isEmpty_nil, List.isEmpty_cons, Nat.reduceAdd, Nat.reduceSub, Nat.reduceBEq, Nat.reduceLT, Nat.reduceLeDiff, Nat.reduceEqDiff, decide_true, decide_false, Bool.and_true, Bool.true_and, Bool.or_true, Bool.true_or, Bool.or_false, Bool.false_or, Bool.and_false, Bool.false_and, Bool.not_true, Bool.not_false, Bool.false_eq_true, reduceIte, ite_true, ite_false, beq_self_eq_true, Nat.zero_add, reduceCtorEq, and_self, true_and, and_true, ge_iff_le, gt_iff_lt, Nat.succ_eq_add_one, Nat.add_one_sub_one, Nat.zero_lt_succ, Nat.lt_add_left_iff_pos, wipeE, restE, pick, List.filterMap_cons, List.filterMap_nil, u_irg, u_irgB, Int.reduceLE, Int.reduceLT, Int.reduceNeg, u_unT, u_unL, u_unW, u_max, u_min, u_abs, u_tup, u_lst, u_lc, u_app0, u_app, u_ext0, u_ext, u_par2, u_par3, u_zip, u_aug0, u_aug, u_aug2, u_ch, u_ch1, u_ch2, u_ch3, e_int, ne_int, e_bl, ne_bl, q_aa, q_af, q_ac, q_fa, q_ff, q_fc, q_ca, q_cf, q_cc, is_non, is_int, isn_non, isn_int, ix_t0, ix_t1, ix_t2, ix_l0, ix_l1, x_asc, x_kco, x_ite, decide_eq_true_eq, Bool.not_eq_true', decide_eq_false_iff_not, u_srT, u_srL, u_srW, isT, seqV, tupV, lstV, u_join, Option.getD, e]
theorem rt_4a {FL FF FE : Fn} (fT : frzs TW = TD) (fS : frzs ws = SD) (e0 : FL [.fz R] = .ok (.lst ws, [.fz R])) (e1 : FF [.fz (.lst SD), .fz (.int x)] = .ok (.lst LW, [.fz (.lst SD), .fz (.int x)])) (e2 : FE [.fz R, .fz (.int x)] = .ok (.fz (.int y), [.fz R, .fz (.int x)])) : cAsg (gSet 4) (cLst false (cCons false (cVar 3) (cCons false (cCallP false FF (cCons true (cCallP false FL (cCons true (cVar 6) cNil)) (cCons true (cVar 7) cNil))) (cCons true (cCallP false FE (cCons true (cVar 6) (cCons true (cVar 7) cNil))) cNil)))) [some X, o1, o2, some (.lst TW), o4, o5, some (.fz R), some (.fz (.int x)), none] = .ok (.nx, [some X, o1, o2, some (.fz (.lst TD)), some (.lst [.fz (.lst TD), .lst LW, .fz (.int y)]), o5, some (.fz R), some (.fz (.int x)), none]) := by
  simp only [v_bin6, v_bin5, v_bin4, v_bin3, v_bin2, v_bin1, v_bin, v_un3, v_un2, v_un1, v_un, v_test2, v_test1, v_test, v_cons3, v_cons2, v_cons1, v_cons, v_star4, v_star3, v_star2, v_star1, v_star, v_tup2, v_tup1, v_tup, v_lst2, v_lst1, v_lst, v_callB3, v_callB2, v_callB1, v_callB, v_andT1, v_andT, v_orT1, v_orT, v_notT1, v_notT, v_and2, v_and1, v_and, v_or2, v_or1, v_or, v_not2, v_not1, v_not, v_if1, v_if, v_orL1, v_orL, v_seq1, v_seq, v_ifS1, v_ifS, v_ret2, v_ret1, v_ret, v_drop1, v_drop, v_asg3, v_asg2, v_asg1, v_asg, v_gset1, v_gset, v_gsub5, v_gsub4, v_gsub3, v_gsub2, v_gsub1, v_gsub, v_gsc1, v_gsc, v_gsn1, v_gsn, v_for1, v_for, v_forc2, v_forc1, v_forc, v_lcc2, v_lcc1, v_lcc, v_lcT3, v_lcT2, v_lcT1, v_lcT, v_lc4, v_lc1, v_lc, v_def4, v_def3, v_def2, v_def1, v_def, v_callV4, v_callV3, v_callV2, v_callV1, v_callV, v_callP4, v_callP3, v_callP2, v_callP1, v_callP, v_callKV5, v_callKV4, v_callKV3, v_callKV2, v_callKV1, v_callKV, v_callKP5, v_callKP4, v_callKP3, v_callKP2, v_callKP1, v_callKP, v_callIO5, v_callIO4, v_callIO3, v_callIO2, v_callIO1, v_callIO, v_app7, v_app6, v_app5, v_app4, v_app3, v_app2, v_app1, v_app, v_sl6, v_sl5, v_sl4, v_sl3, v_sl2, v_sl1, v_sl, v_oS2, v_oS1, v_oS, v_iseq3, v_iseq2, v_iseq1, v_iseq, v_ienum3, v_ienum2, v_ienum1, v_ienum, v_irg1, v_irg, v_rgTup3, v_rgTup2, v_rgTup1, v_rgTup, v_argsc2, v_argsc1, v_argsc, v_putc1, v_putc, v_takesc2, v_takesc1, v_takesc, v_contsc2, v_contsc1, v_contsc, v_backsI2, v_backsI1, v_backsI, v_binF7, v_binF6, v_binF5, v_binF4, v_binF3, v_binF2, v_binF1, v_binF, v_par22, v_par21, v_par2, v_par32, v_par31, v_par3, v_ext8, v_ext7, v_ext6, v_ext5, v_ext4, v_ext3, v_ext2, v_ext1, v_ext, v_zip2, v_zip1, v_zip, v_irgB3, v_irgB2, v_irgB1, v_irgB, v_rgLst3, v_rgLst2, v_rgLst1, v_rgLst, v_rgTupB5, v_rgTupB4, v_rgTupB3, v_rgTupB2, v_rgTupB1, v_rgTupB, v_rgLstB5, v_rgLstB4, v_rgLstB3, v_rgLstB2, v_rgLstB1, v_rgLstB, v_ok, v_c, v_nil, v_next, v_yes, v_oN, v_gtup, v_var, v_for0, v_lc0, v_args0, v_put0, v_takes0, v_conts0, v_backs0, w_add, w_sub, w_neg, w_lt, w_le, w_gt, w_ge, w_intI, w_intB, w_ix0, w_ix1, w_ix2, w_i0, w_i1, w_i2, pend, cont, take, frz, frzs, getP, setP, Res.of, boolOf, isPl, mutS, mutP, intOf, move, retOf, backs1, put1, fzT, ioOf, chk, early, shut, isTmp, flatB, scal, List.map_cons, List.map_nil, List.cons_append, List.nil_append, List.append_nil, List.replicate_succ, List.replicate_zero, List.replicate, List.length_cons, List.length_nil, List.getElem?_cons_zero, List.getElem?_cons_succ, List.set_cons_zero, List.set_cons_succ, List.all_cons, List.all_nil, List.contains_cons, List.contains_nil, List.elem_cons, List.elem_nil, List.isEmpty_nil, List.isEmpty_cons, Nat.reduceAdd, Nat.reduceSub, Nat.reduceBEq, Nat.reduceLT, Nat.reduceLeDiff, Nat.reduceEqDiff, decide_true, decide_false, Bool.and_true, Bool.true_and, Bool.or_true, Bool.true_or, Bool.or_false, Bool.false_or, Bool.and_false, Bool.false_and, Bool.not_true, Bool.not_false, Bool.false_eq_true, reduceIte, ite_true, ite_false, beq_self_eq_true, Nat.zero_add, reduceCtorEq, and_self, true_and, and_true, ge_iff_le, gt_iff_lt, Nat.succ_eq_add_one, Nat.add_one_sub_one, Nat.zero_lt_succ, Nat.lt_add_left_iff_pos, wipeE, restE, pick, List.filterMap_cons, List.filterMap_nil, u_irg, u_irgB, Int.reduceLE, Int.reduceLT, Int.reduceNeg, u_unT, u_unL, u_unW, u_max, u_min, u_abs, u_tup, u_lst, u_lc, u_app0, u_app, u_ext0, u_ext, u_par2, u_par3, u_zip, u_aug0, u_aug, u_aug2, u_ch, u_ch1, u_ch2, u_ch3, e_int, ne_int, e_bl, ne_bl, q_aa, q_af, q_ac, q_fa, q_ff, q_fc, q_ca, q_cf, q_cc, is_non, is_int, isn_non, isn_int, ix_t0, ix_t1, ix_t2, ix_l0, ix_l1, x_asc, x_kco, x_ite, decide_eq_true_eq, Bool.not_eq_true', decide_eq_false_iff_not, u_srT, u_srL, u_srW, isT, seqV, tupV, lstV, u_join, Option.getD, fT, fS, e0, e1, e2]
theorem rt_4b {FS : Fn} {LD : List D} (fT : frzs TW = TD) (fL : frzs LW = LD) (ix : fIdx (.lst TW) (.fz (.int (-1))) = .ok (.fz (.int y))) (s : FS [.fz (.lst [.lst TD, .lst LD, .int y]), .fz (.lst [.lst TD, .lst TD, .int y])] = .ok (.fz (.bl true), [.fz (.lst [.lst TD, .lst LD, .int y]), .fz (.lst [.lst TD, .lst TD, .int y])])) : ∃ o4' : Option W, cIfS (cNotT (cTest (cCallV FS (cCons false (cVar 4) (cCons true (cLst false (cCons true (cVar 2) (cCons true (cVar 2) (cCons true (cBin fIdx true (cVar 2) (cUn fNeg (cC (.int 1)))) cNil)))) cNil))))) (cRet (cC (.bl false))) cNext [some X, o1, some (.lst TW), o3, some (.lst [.fz (.lst TD), .lst LW, .fz (.int y)]), o5, o6, o7, none] = .ok (.nx, [some X, o1, some (.fz (.lst TD)), o3, o4', o5, o6, o7, none]) := by
  refine ⟨some (.lst [.fz (.lst TD), .lst LW, .fz (.int y)]), ?_⟩
  simp only [v_bin6, v_bin5, v_bin4, v_bin3, v_bin2, v_bin1, v_bin, v_un3, v_un2, v_un1, v_un, v_test2, v_test1, v_test, v_cons3, v_cons2, v_cons1, v_cons, v_star4, v_star3, v_star2, v_star1, v_star, v_tup2, v_tup1, v_tup, v_lst2, v_lst1, v_lst, v_callB3, v_callB2, v_callB1, v_callB, v_andT1, v_andT, v_orT1, v_orT, v_notT1, v_notT, v_and2, v_and1, v_and, v_or2, v_or1, v_or, v_not2, v_not1, v_not, v_if1, v_if, v_orL1, v_orL, v_seq1, v_seq, v_ifS1, v_ifS, v_ret2, v_ret1, v_ret, v_drop1, v_drop, v_asg3, v_asg2, v_asg1, v_asg, v_gset1, v_gset, v_gsub5, v_gsub4, v_gsub3, v_gsub2, v_gsub1, v_gsub, v_gsc1, v_gsc, v_gsn1, v_gsn, v_for1, v_for, v_forc2, v_forc1, v_forc, v_lcc2, v_lcc1, v_lcc, v_lcT3, v_lcT2, v_lcT1, v_lcT, v_lc4, v_lc1, v_lc, v_def4, v_def3, v_def2, v_def1, v_def, v_callV4, v_callV3, v_callV2, v_callV1, v_callV, v_callP4, v_callP3, v_callP2, v_callP1, v_callP, v_callKV5, v_callKV4, v_callKV3, v_callKV2, v_callKV1, v_callKV, v_callKP5, v_callKP4, v_callKP3, v_callKP2, v_callKP1, v_callKP, v_callIO5, v_callIO4, v_callIO3, v_callIO2, v_callIO1, v_callIO, v_app7, v_app6, v_app5, v_app4, v_app3, v_app2, v_app1, v_app, v_sl6, v_sl5, v_sl4, v_sl3, v_sl2, v_sl1, v_sl, v_oS2, v_oS1, v_oS, v_iseq3, v_iseq2, v_iseq1, v_iseq, v_ienum3, v_ienum2, v_ienum1, v_ienum, v_irg1, v_irg, v_rgTup3, v_rgTup2, v_rgTup1, v_rgTup, v_argsc2, v_argsc1, v_argsc, v_putc1, v_putc, v_takesc2, v_takesc1, v_takesc, v_contsc2, v_contsc1, v_contsc, v_backsI2, v_backsI1, v_backsI, v_binF7, v_binF6, v_binF5, v_binF4, v_binF3, v_binF2, v_binF1, v_binF, v_par22, v_par21, v_par2, v_par32, v_par31, v_par3, v_ext8, v_ext7, v_ext6, v_ext5, v_ext4, v_ext3, v_ext2, v_ext1, v_ext, v_zip2, v_zip1, v_zip, v_irgB3, v_irgB2, v_irgB1, v_irgB, v_rgLst3, v_rgLst2, v_rgLst1, v_rgLst, v_rgTupB5, v_rgTupB4, v_rgTupB3, v_rgTupB2, v_rgTupB1, v_rgTupB, v_rgLstB5, v_rgLstB4, v_rgLstB3, v_rgLstB2, v_rgLstB1, v_rgLstB, v_ok, v_c, v_nil, v_next, v_yes, v_oN, v_gtup, v_var, v_for0, v_lc0, v_args0, v_put0, v_takes0, v_conts0, v_backs0, w_add, w_sub, w_neg, w_lt, w_le, w_gt, w_ge, w_intI, w_intB, w_ix0, w_ix1, w_ix2, w_i0, w_i1, w_i2, pend, cont, take, frz, frzs, getP, setP, Res.of, boolOf, isPl, mutS, mutP, intOf, move, retOf, backs1, put1, fzT, ioOf, chk, early, shut, isTmp, flatB, scal, List.map_cons, List.map_nil, List.cons_append, List.nil_append, List.append_nil, List.replicate_succ, List.replicate_zero, List.replicate, List.length_cons, List.length_nil, List.getElem?_cons_zero, List.getElem?_cons_succ, List.set_cons_zero, List.set_cons_succ, List.all_cons, List.all_nil, List.contains_cons, List.contains_nil, List.elem_cons, List.elem_nil, List.isEmpty_nil, List.isEmpty_cons, Nat.reduceAdd, Nat.reduceSub, Nat.reduceBEq, Nat.reduceLT, Nat.reduceLeDiff, Nat.reduceEqDiff, decide_true, decide_false, Bool.and_true, Bool.true_and, Bool.or_true, Bool.true_or, Bool.or_false, Bool.false_or, Bool.and_false, Bool.false_and, Bool.not_true, Bool.not_false, Bool.false_eq_true, reduceIte, ite_true, ite_false, beq_self_eq_true, Nat.zero_add, reduceCtorEq, and_self, true_and, and_true, ge_iff_le, gt_iff_lt, Nat.succ_eq_add_one, Nat.add_one_sub_one, Nat.zero_lt_succ, Nat.lt_add_left_iff_pos, wipeE, restE, pick, List.filterMap_cons, List.filterMap_nil, u_irg, u_irgB, Int.reduceLE, Int.reduceLT, Int.reduceNeg, u_unT, u_unL, u_unW, u_max, u_min, u_abs, u_tup, u_lst, u_lc, u_app0, u_app, u_ext0, u_ext, u_par2, u_par3, u_zip, u_aug0, u_aug, u_aug2, u_ch, u_ch1, u_ch2, u_ch3, e_int, ne_int, e_bl, ne_bl, q_aa, q_af, q_ac, q_fa, q_ff, q_fc, q_ca, q_cf, q_cc, is_non, is_int, isn_non, isn_int, ix_t0, ix_t1, ix_t2, ix_l0, ix_l1, x_asc, x_kco, x_ite, decide_eq_true_eq, Bool.not_eq_true', decide_eq_false_iff_not, u_srT, u_srL, u_srW, isT, seqV, tupV, lstV, u_join, Option.getD, fT, fL, ix, s]
theorem rt_5 (hl : ws.length ≤ 1000000) : cDrop (cApp true (cVar 3) (cC (.str "more"))) [some X, o1, o2, some (.lst ws), o4, o5, o6, o7, none] = .ok (.nx, [some X, o1, o2, some (.lst (ws ++ [.fz (.str "more")])), o4, o5, o6, o7, none]) := by
  simp only [v_bin6, v_bin5, v_bin4, v_bin3, v_bin2, v_bin1, v_bin, v_un3, v_un2, v_un1, v_un, v_test2, v_test1, v_test, v_cons3, v_cons2, v_cons1, v_cons, v_star4, v_star3, v_star2, v_star1, v_star, v_tup2, v_tup1, v_tup, v_lst2, v_lst1, v_lst, v_callB3, v_callB2, v_callB1, v_callB, v_andT1, v_andT, v_orT1, v_orT, v_notT1, v_notT, v_and2, v_and1, v_and, v_or2, v_or1, v_or, v_not2, v_not1, v_not, v_if1, v_if, v_orL1, v_orL, v_seq1, v_seq, v_ifS1, v_ifS, v_ret2, v_ret1, v_ret, v_drop1, v_drop, v_asg3, v_asg2, v_asg1, v_asg, v_gset1, v_gset, v_gsub5, v_gsub4, v_gsub3, v_gsub2, v_gsub1, v_gsub, v_gsc1, v_gsc, v_gsn1, v_gsn, v_for1, v_for, v_forc2, v_forc1, v_forc, v_lcc2, v_lcc1, v_lcc, v_lcT3, v_lcT2, v_lcT1, v_lcT, v_lc4, v_lc1, v_lc, v_def4, v_def3, v_def2, v_def1, v_def, v_callV4, v_callV3, v_callV2, v_callV1, v_callV, v_callP4, v_callP3, v_callP2, v_callP1, v_callP, v_callKV5, v_callKV4, v_callKV3, v_callKV2, v_callKV1, v_callKV, v_callKP5, v_callKP4, v_callKP3, v_callKP2, v_callKP1, v_callKP, v_callIO5, v_callIO4, v_callIO3, v_callIO2, v_callIO1, v_callIO, v_app7, v_app6, v_app5, v_app4, v_app3, v_app2, v_app1, v_app, v_sl6, v_sl5, v_sl4, v_sl3, v_sl2, v_sl1, v_sl, v_oS2, v_oS1, v_oS, v_iseq3, v_iseq2, v_iseq1, v_iseq, v_ienum3, v_ienum2, v_ienum1, v_ienum, v_irg1, v_irg, v_rgTup3, v_rgTup2, v_rgTup1, v_rgTup, v_argsc2, v_argsc1, v_argsc, v_putc1, v_putc, v_takesc2, v_takesc1, v_takesc, v_contsc2, v_contsc1, v_contsc, v_backsI2, v_backsI1, v_backsI, v_binF7, v_binF6, v_binF5, v_binF4, v_binF3, v_binF2, v_binF1, v_binF, v_par22, v_par21, v_par2, v_par32, v_par31, v_par3, v_ext8, v_ext7, v_ext6, v_ext5, v_ext4, v_ext3, v_ext2, v_ext1, v_ext, v_zip2, v_zip1, v_zip, v_irgB3, v_irgB2, v_irgB1, v_irgB, v_rgLst3, v_rgLst2, v_rgLst1, v_rgLst, v_rgTupB5, v_rgTupB4, v_rgTupB3, v_rgTupB2, v_rgTupB1, v_rgTupB, v_rgLstB5, v_rgLstB4, v_rgLstB3, v_rgLstB2, v_rgLstB1, v_rgLstB, v_ok, v_c, v_nil, v_next, v_yes, v_oN, v_gtup, v_var, v_for0, v_lc0, v_args0, v_put0, v_takes0, v_conts0, v_backs0, w_add, w_sub, w_neg, w_lt, w_le, w_gt, w_ge, w_intI, w_intB, w_ix0, w_ix1, w_ix2, w_i0, w_i1, w_i2, pend, cont, take, frz, frzs, getP, setP, Res.of, boolOf, isPl, mutS, mutP, intOf, move, retOf, backs1, put1, fzT, ioOf, chk, early, shut, isTmp, flatB, scal, List.map_cons, List.map_nil, List.cons_append, List.nil_append, List.append_nil, List.replicate_succ, List.replicate_zero, List.replicate, List.length_cons, List.length_nil, List.getElem?_cons_zero, List.getElem?_cons_succ, List.set_cons_zero, List.set_cons_succ, List.all_cons, List.all_nil, List.contains_cons, List.contains_nil, List.elem_cons, List.elem_nil, List.isEmpty_nil, List.isEmpty_cons, Nat.reduceAdd, Nat.reduceSub, Nat.reduceBEq, Nat.reduceLT, Nat.reduceLeDiff, Nat.reduceEqDiff, decide_true, decide_false, Bool.and_true, Bool.true_and, Bool.or_true, Bool.true_or, Bool.or_false, Bool.false_or, Bool.and_false, Bool.false_and, Bool.not_true, Bool.not_false, Bool.false_eq_true, reduceIte, ite_true, ite_false, beq_self_eq_true, Nat.zero_add, reduceCtorEq, and_self, true_and, and_true, ge_iff_le, gt_iff_lt, Nat.succ_eq_add_one, Nat.add_one_sub_one, Nat.zero_lt_succ, Nat.lt_add_left_iff_pos, wipeE, restE, pick, List.filterMap_cons, List.filterMap_nil, u_irg, u_irgB, Int.reduceLE, Int.reduceLT, Int.reduceNeg, u_unT, u_unL, u_unW, u_max, u_min, u_abs, u_tup, u_lst, u_lc, u_app0, u_app, u_ext0, u_ext, u_par2, u_par3, u_zip, u_aug0, u_aug, u_aug2, u_ch, u_ch1, u_ch2, u_ch3, e_int, ne_int, e_bl, ne_bl, q_aa, q_af, q_ac, q_fa, q_ff, q_fc, q_ca, q_cf, q_cc, is_non, is_int, isn_non, isn_int, ix_t0, ix_t1, ix_t2, ix_l0, ix_l1, x_asc, x_kco, x_ite, decide_eq_true_eq, Bool.not_eq_true', decide_eq_false_iff_not, u_srT, u_srL, u_srW, isT, seqV, tupV, lstV, u_join, Option.getD, hl]
theorem rt_6 {FL FF FE : Fn} (fS : frzs ws = SD) (e0 : FL [.fz R] = .ok (.lst ws, [.fz R])) (e1 : FF [.fz R, .fz (.int x)] = .ok (.lst LW, [.fz R, .fz (.int x)])) (e2 : FE [.fz (.lst SD), .fz (.int x)] = .ok (.fz (.int y), [.fz (.lst SD), .fz (.int x)])) : cAsg (gSet 4) (cLst true (cCons false (cCallKP false FF [1, 0] 2 (cCons true (cVar 7) (cCons true (cVar 6) cNil))) (cCons true (cCallP false FE (cCons true (cCallP false FL (cCons true (cVar 6) cNil)) (cCons true (cVar 7) cNil))) cNil))) [some X, o1, o2, o3, o4, o5, some (.fz R), some (.fz (.int x)), none] = .ok (.nx, [some X, o1, o2, o3, some (.lst [.lst LW, .fz (.int y)]), o5, some (.fz R), some (.fz (.int x)), none]) := by
  simp only [v_bin6, v_bin5, v_bin4, v_bin3, v_bin2, v_bin1, v_bin, v_un3, v_un2, v_un1, v_un, v_test2, v_test1, v_test, v_cons3, v_cons2, v_cons1, v_cons, v_star4, v_star3, v_star2, v_star1, v_star, v_tup2, v_tup1, v_tup, v_lst2, v_lst1, v_lst, v_callB3, v_callB2, v_callB1, v_callB, v_andT1, v_andT, v_orT1, v_orT, v_notT1, v_notT, v_and2, v_and1, v_and, v_or2, v_or1, v_or, v_not2, v_not1, v_not, v_if1, v_if, v_orL1, v_orL, v_seq1, v_seq, v_ifS1, v_ifS, v_ret2, v_ret1, v_ret, v_drop1, v_drop, v_asg3, v_asg2, v_asg1, v_asg, v_gset1, v_gset, v_gsub5, v_gsub4, v_gsub3, v_gsub2, v_gsub1, v_gsub, v_gsc1, v_gsc, v_gsn1, v_gsn, v_for1, v_for, v_forc2, v_forc1, v_forc, v_lcc2, v_lcc1, v_lcc, v_lcT3, v_lcT2, v_lcT1, v_lcT, v_lc4, v_lc1, v_lc, v_def4, v_def3, v_def2, v_def1, v_def, v_callV4, v_callV3, v_callV2, v_callV1, v_callV, v_callP4, v_callP3, v_callP2, v_callP1, v_callP, v_callKV5, v_callKV4, v_callKV3, v_callKV2, v_callKV1, v_callKV, v_callKP5, v_callKP4, v_callKP3, v_callKP2, v_callKP1, v_callKP, v_callIO5, v_callIO4, v_callIO3, v_callIO2, v_callIO1, v_callIO, v_app7, v_app6, v_app5, v_app4, v_app3, v_app2, v_app1, v_app, v_sl6, v_sl5, v_sl4, v_sl3, v_sl2, v_sl1, v_sl, v_oS2, v_oS1, v_oS, v_iseq3, v_iseq2, v_iseq1, v_iseq, v_ienum3, v_ienum2, v_ienum1, v_ienum, v_irg1, v_irg, v_rgTup3, v_rgTup2, v_rgTup1, v_rgTup, v_argsc2, v_argsc1, v_argsc, v_putc1, v_putc, v_takesc2, v_takesc1, v_takesc, v_contsc2, v_contsc1, v_contsc, v_backsI2, v_backsI1, v_backsI, v_binF7, v_binF6, v_binF5, v_binF4, v_binF3, v_binF2, v_binF1, v_binF, v_par22, v_par21, v_par2, v_par32, v_par31, v_par3, v_ext8, v_ext7, v_ext6, v_ext5, v_ext4, v_ext3, v_ext2, v_ext1, v_ext, v_zip2, v_zip1, v_zip, v_irgB3, v_irgB2, v_irgB1, v_irgB, v_rgLst3, v_rgLst2, v_rgLst1, v_rgLst, v_rgTupB5, v_rgTupB4, v_rgTupB3, v_rgTupB2, v_rgTupB1, v_rgTupB, v_rgLstB5, v_rgLstB4, v_rgLstB3, v_rgLstB2, v_rgLstB1, v_rgLstB, v_ok, v_c, v_nil, v_next, v_yes, v_oN, v_gtup, v_var, v_for0, v_lc0, v_args0, v_put0, v_takes0, v_conts0, v_backs0, w_add, w_sub, w_neg, w_lt, w_le, w_gt, w_ge, w_intI, w_intB, w_ix0, w_ix1, w_ix2, w_i0, w_i1, w_i2, pend, cont, take, frz, frzs, getP, setP, Res.of, boolOf, isPl, mutS, mutP, intOf, move, retOf, backs1, put1, fzT, ioOf, chk, early, shut, isTmp, flatB, scal, List.map_cons, List.map_nil, List.cons_append, List.nil_append, List.append_nil, List.replicate_succ, List.replicate_zero, List.replicate, List.length_cons, List.length_nil, List.getElem?_cons_zero, List.getElem?_cons_succ, List.set_cons_zero, List.set_cons_succ, List.all_cons, List.all_nil, List.contains_cons, List.contains_nil, List.elem_cons, List.elem_nil, List.isEmpty_nil, List.isEmpty_cons, Nat.reduceAdd, Nat.reduceSub, Nat.reduceBEq, Nat.reduceLT, Nat.reduceLeDiff, Nat.reduceEqDiff, decide_true, decide_false, Bool.and_true, Bool.true_and, Bool.or_true, Bool.true_or, Bool.or_false, Bool.false_or, Bool.and_false, Bool.false_and, Bool.not_true, Bool.not_false, Bool.false_eq_true, reduceIte, ite_true, ite_false, beq_self_eq_true, Nat.zero_add, reduceCtorEq, and_self, true_and, and_true, ge_iff_le, gt_iff_lt, Nat.succ_eq_add_one, Nat.add_one_sub_one, Nat.zero_lt_succ, Nat.lt_add_left_iff_pos, wipeE, restE, pick, List.filterMap_cons, List.filterMap_nil, u_irg, u_irgB, Int.reduceLE, Int.reduceLT, Int.reduceNeg, u_unT, u_unL, u_unW, u_max, u_min, u_abs, u_tup, u_lst, u_lc, u_app0, u_app, u_ext0, u_ext, u_par2, u_par3, u_zip, u_aug0, u_aug, u_aug2, u_ch, u_ch1, u_ch2, u_ch3, e_int, ne_int, e_bl, ne_bl, q_aa, q_af, q_ac, q_fa, q_ff, q_fc, q_ca, q_cf, q_cc, is_non, is_int, isn_non, isn_int, ix_t0, ix_t1, ix_t2, ix_l0, ix_l1, x_asc, x_kco, x_ite, decide_eq_true_eq, Bool.not_eq_true', decide_eq_false_iff_not, u_srT, u_srL, u_srW, isT, seqV, tupV, lstV, u_join, Option.getD, fS, e0, e1, e2]
theorem rt_7 {FS : Fn} {LD : List D} (fL : frzs LW = LD) (ix : fIdx (.fz (.lst TD)) (.fz (.int (-1))) = .ok (.fz (.int y))) (s : FS [.fz (.lst [.lst LD, .int y]), .fz (.lst [.lst TD, .int y])] = .ok (.fz (.bl true), [.fz (.lst [.lst LD, .int y]), .fz (.lst [.lst TD, .int y])])) : ∃ o4' : Option W, cIfS (cNotT (cTest (cCallV FS (cCons false (cVar 4) (cCons true (cLst false (cCons true (cVar 2) (cCons true (cBin fIdx true (cVar 2) (cUn fNeg (cC (.int 1)))) cNil))) cNil))))) (cRet (cC (.bl false))) cNext [some X, o1, some (.fz (.lst TD)), o3, some (.lst [.lst LW, .fz (.int y)]), o5, o6, o7, none] = .ok (.nx, [some X, o1, some (.fz (.lst TD)), o3, o4', o5, o6, o7, none]) := by
  refine ⟨some (.lst [.lst LW, .fz (.int y)]), ?_⟩
  simp only [v_bin6, v_bin5, v_bin4, v_bin3, v_bin2, v_bin1, v_bin, v_un3, v_un2, v_un1, v_un, v_test2, v_test1, v_test, v_cons3, v_cons2, v_cons1, v_cons, v_star4, v_star3, v_star2, v_star1, v_star, v_tup2, v_tup1, v_tup, v_lst2, v_lst1, v_lst, v_callB3, v_callB2, v_callB1, v_callB, v_andT1, v_andT, v_orT1, v_orT, v_notT1, v_notT, v_and2, v_and1, v_and, v_or2, v_or1, v_or, v_not2, v_not1, v_not, v_if1, v_if, v_orL1, v_orL, v_seq1, v_seq, v_ifS1, v_ifS, v_ret2, v_ret1, v_ret, v_drop1, v_drop, v_asg3, v_asg2, v_asg1, v_asg, v_gset1, v_gset, v_gsub5, v_gsub4, v_gsub3, v_gsub2, v_gsub1, v_gsub, v_gsc1, v_gsc, v_gsn1, v_gsn, v_for1, v_for, v_forc2, v_forc1, v_forc, v_lcc2, v_lcc1, v_lcc, v_lcT3, v_lcT2, v_lcT1, v_lcT, v_lc4, v_lc1, v_lc, v_def4, v_def3, v_def2, v_def1, v_def, v_callV4, v_callV3, v_callV2, v_callV1, v_callV, v_callP4, v_callP3, v_callP2, v_callP1, v_callP, v_callKV5, v_callKV4, v_callKV3, v_callKV2, v_callKV1, v_callKV, v_callKP5, v_callKP4, v_callKP3, v_callKP2, v_callKP1, v_callKP, v_callIO5, v_callIO4, v_callIO3, v_callIO2, v_callIO1, v_callIO, v_app7, v_app6, v_app5, v_app4, v_app3, v_app2, v_app1, v_app, v_sl6, v_sl5, v_sl4, v_sl3, v_sl2, v_sl1, v_sl, v_oS2, v_oS1, v_oS, v_iseq3, v_iseq2, v_iseq1, v_iseq, v_ienum3, v_ienum2, v_ienum1, v_ienum, v_irg1, v_irg, v_rgTup3, v_rgTup2, v_rgTup1, v_rgTup, v_argsc2, v_argsc1, v_argsc, v_putc1, v_putc, v_takesc2, v_takesc1, v_takesc, v_contsc2, v_contsc1, v_contsc, v_backsI2, v_backsI1, v_backsI, v_binF7, v_binF6, v_binF5, v_binF4, v_binF3, v_binF2, v_binF1, v_binF, v_par22, v_par21, v_par2, v_par32, v_par31, v_par3, v_ext8, v_ext7, v_ext6, v_ext5, v_ext4, v_ext3, v_ext2, v_ext1, v_ext, v_zip2, v_zip1, v_zip, v_irgB3, v_irgB2, v_irgB1, v_irgB, v_rgLst3, v_rgLst2, v_rgLst1, v_rgLst, v_rgTupB5, v_rgTupB4, v_rgTupB3, v_rgTupB2, v_rgTupB1, v_rgTupB, v_rgLstB5, v_rgLstB4, v_rgLstB3, v_rgLstB2, v_rgLstB1, v_rgLstB, v_ok, v_c, v_nil, v_next, v_yes, v_oN, v_gtup, v_var, v_for0, v_lc0, v_args0, v_put0, v_takes0, v_conts0, v_backs0, w_add, w_sub, w_neg, w_lt, w_le, w_gt, w_ge, w_intI, w_intB, w_ix0, w_ix1, w_ix2, w_i0, w_i1, w_i2, pend, cont, take, frz, frzs, getP, setP, Res.of, boolOf, isPl, mutS, mutP, intOf, move, retOf, backs1, put1, fzT, ioOf, chk, early, shut, isTmp, flatB, scal, List.map_cons, List.map_nil, List.cons_append, List.nil_append, List.append_nil, List.replicate_succ, List.replicate_zero, List.replicate, List.length_cons, List.length_nil, List.getElem?_cons_zero, List.getElem?_cons_succ, List.set_cons_zero, List.set_cons_succ, List.all_cons, List.all_nil, List.contains_cons, List.contains_nil, List.elem_cons, List.elem_nil, List.isEmpty_nil, List.isEmpty_cons, Nat.reduceAdd, Nat.reduceSub, Nat.reduceBEq, Nat.reduceLT, Nat.reduceLeDiff, Nat.reduceEqDiff, decide_true, decide_false, Bool.and_true, Bool.true_and, Bool.or_true, Bool.true_or, Bool.or_false, Bool.false_or, Bool.and_false, Bool.false_and, Bool.not_true, Bool.not_false, Bool.false_eq_true, reduceIte, ite_true, ite_false, beq_self_eq_true, Nat.zero_add, reduceCtorEq, and_self, true_and, and_true, ge_iff_le, gt_iff_lt, Nat.succ_eq_add_one, Nat.add_one_sub_one, Nat.zero_lt_succ, Nat.lt_add_left_iff_pos, wipeE, restE, pick, List.filterMap_cons, List.filterMap_nil, u_irg, u_irgB, Int.reduceLE, Int.reduceLT, Int.reduceNeg, u_unT, u_unL, u_unW, u_max, u_min, u_abs, u_tup, u_lst, u_lc, u_app0, u_app, u_ext0, u_ext, u_par2, u_par3, u_zip, u_aug0, u_aug, u_aug2, u_ch, u_ch1, u_ch2, u_ch3, e_int, ne_int, e_bl, ne_bl, q_aa, q_af, q_ac, q_fa, q_ff, q_fc, q_ca, q_cf, q_cc, is_non, is_int, isn_non, isn_int, ix_t0, ix_t1, ix_t2, ix_l0, ix_l1, x_asc, x_kco, x_ite, decide_eq_true_eq, Bool.not_eq_true', decide_eq_false_iff_not, u_srT, u_srL, u_srW, isT, seqV, tupV, lstV, u_join, Option.getD, fL, ix, s]
theorem rt_8 {LB : CS} {EB : CE} {RW WB : List W} {RD BD AB A2 : List D} {A T : D} {ρ' : En} (l1 : fList [.fz R] = .ok (.lst RW)) (f1 : frzs RW = RD) (lc : lcL [8] (gSet 8) cYes EB ([0, 1, 2, 3].map D.int) [some X, o1, o2, o3, o4, o5, some (.fz R), o7, none] = .ok (WB, [some X1, o1, o2, o3, o4, o5, some (.fz R), o7, none])) (f2 : frzs WB = BD) (a1 : fAdd (.fz (.lst [R, .lst RD])) (.fz (.lst BD)) = .ok (.lst (AB.map W.fz))) (s : fSl (.fz R) none (some 2) = .ok (.fz T)) (l2 : fList [.fz T] = .ok (.lst (A2.map W.fz))) (f4 : frzs (AB.map W.fz) = AB) (f5 : frzs (A2.map W.fz) = A2) (a2 : fAdd (.fz (.lst AB)) (.fz (.lst A2)) = .ok (.lst ((AB ++ A2).map W.fz))) (f3 : frzs ((AB ++ A2).map W.fz) = AB ++ A2) (lp : forL (gSet 5) LB (AB ++ A2) [some X1, o1, o2, o3, o4, o5, some (.fz R), o7, none] = .ok (.nx, ρ')) :
    cFor (iSeq (cBin fAdd true (cBin fAdd false (cLst false (cCons true (cVar 6) (cCons true (cCallB fList (cCons true (cVar 6) cNil)) cNil))) (cLc [8] (iRange1 (cC (.int 4))) (gSet 8) cYes EB)) (cCallB fList (cCons true (cSl fSl true (cVar 6) oNone (oSome (cC (.int 2)))) cNil)))) (gSet 5) LB [some X, o1, o2, o3, o4, o5, some (.fz R), o7, none] = .ok (.nx, ρ') := by
  have rg : rangeD 0 (4 : Int).toNat = [0, 1, 2, 3].map D.int := rfl
  have hl : (([0, 1, 2, 3] : List Int).map D.int).length ≤ 1000000 := by decide
  generalize ([0, 1, 2, 3] : List Int).map D.int = Q at *
  generalize (AB ++ A2).map W.fz = Q2 at *
  generalize AB.map W.fz = Q3 at *
  generalize A2.map W.fz = Q4 at *
  generalize AB ++ A2 = Q5 at *
  simp only [v_bin6, v_bin5, v_bin4, v_bin3, v_bin2, v_bin1, v_bin, v_un3, v_un2, v_un1, v_un, v_test2, v_test1, v_test, v_cons3, v_cons2, v_cons1, v_cons, v_star4, v_star3, v_star2, v_star1, v_star, v_tup2, v_tup1, v_tup, v_lst2, v_lst1, v_lst, v_callB3, v_callB2, v_callB1, v_callB, v_andT1, v_andT, v_orT1, v_orT, v_notT1, v_notT, v_and2, v_and1, v_and, v_or2, v_or1, v_or, v_not2, v_not1, v_not, v_if1, v_if, v_orL1, v_orL, v_seq1, v_seq, v_ifS1, v_ifS, v_ret2, v_ret1, v_ret, v_drop1, v_drop, v_asg3, v_asg2, v_asg1, v_asg, v_gset1, v_gset, v_gsub5, v_gsub4, v_gsub3, v_gsub2, v_gsub1, v_gsub, v_gsc1, v_gsc, v_gsn1, v_gsn, v_for1, v_for, v_forc2, v_forc1, v_lcT3, v_lcT2, v_lcT1, v_lcT, v_lc4, v_lc1, v_lc, v_def4, v_def3, v_def2, v_def1, v_def, v_callV4, v_callV3, v_callV2, v_callV1, v_callV, v_callP4, v_callP3, v_callP2, v_callP1, v_callP, v_callKV5, v_callKV4, v_callKV3, v_callKV2, v_callKV1, v_callKV, v_callKP5, v_callKP4, v_callKP3, v_callKP2, v_callKP1, v_callKP, v_callIO5, v_callIO4, v_callIO3, v_callIO2, v_callIO1, v_callIO, v_app7, v_app6, v_app5, v_app4, v_app3, v_app2, v_app1, v_app, v_sl6, v_sl5, v_sl4, v_sl3, v_sl2, v_sl1, v_sl, v_oS2, v_oS1, v_oS, v_iseq3, v_iseq2, v_iseq1, v_iseq, v_ienum3, v_ienum2, v_ienum1, v_ienum, v_irg1, v_irg, v_rgTup3, v_rgTup2, v_rgTup1, v_rgTup, v_argsc2, v_argsc1, v_argsc, v_putc1, v_putc, v_takesc2, v_takesc1, v_takesc, v_contsc2, v_contsc1, v_contsc, v_backsI2, v_backsI1, v_backsI, v_binF7, v_binF6, v_binF5, v_binF4, v_binF3, v_binF2, v_binF1, v_binF, v_par22, v_par21, v_par2, v_par32, v_par31, v_par3, v_ext8, v_ext7, v_ext6, v_ext5, v_ext4, v_ext3, v_ext2, v_ext1, v_ext, v_zip2, v_zip1, v_zip, v_irgB3, v_irgB2, v_irgB1, v_irgB, v_rgLst3, v_rgLst2, v_rgLst1, v_rgLst, v_rgTupB5, v_rgTupB4, v_rgTupB3, v_rgTupB2, v_rgTupB1, v_rgTupB, v_rgLstB5, v_rgLstB4, v_rgLstB3, v_rgLstB2, v_rgLstB1, v_rgLstB, v_ok, v_c, v_nil, v_next, v_yes, v_oN, v_gtup, v_var, v_for0, v_args0, v_put0, v_takes0, v_conts0, v_backs0, w_add, w_sub, w_neg, w_lt, w_le, w_gt, w_ge, w_intI, w_intB, w_ix0, w_ix1, w_ix2, w_i0, w_i1, w_i2, pend, cont, take, frz, frzs, getP, setP, Res.of, boolOf, isPl, mutS, mutP, intOf, move, retOf, backs1, put1, fzT, ioOf, chk, early, shut, isTmp, flatB, scal, List.map_cons, List.map_nil, List.cons_append, List.nil_append, List.append_nil, List.replicate_succ, List.replicate_zero, List.replicate, List.length_cons, List.length_nil, List.getElem?_cons_zero, List.getElem?_cons_succ, List.set_cons_zero, List.set_cons_succ, List.all_cons, List.all_nil, List.contains_cons, List.contains_nil, List.elem_cons, List.elem_nil, List.isEmpty_nil, List.isEmpty_cons, Nat.reduceAdd, Nat.reduceSub, Nat.reduceBEq, Nat.reduceLT, Nat.reduceLeDiff, Nat.reduceEqDiff, decide_true, decide_false, Bool.and_true, Bool.true_and, Bool.or_true, Bool.true_or, Bool.or_false, Bool.false_or, Bool.and_false, Bool.false_and, Bool.not_true, Bool.not_false, Bool.false_eq_true, reduceIte, ite_true, ite_false, beq_self_eq_true, Nat.zero_add, reduceCtorEq, and_self, true_and, and_true, ge_iff_le, gt_iff_lt, Nat.succ_eq_add_one, Nat.add_one_sub_one, Nat.zero_lt_succ, Nat.lt_add_left_iff_pos, wipeE, restE, pick, List.filterMap_cons, List.filterMap_nil, u_irg, u_irgB, Int.reduceLE, Int.reduceLT, Int.reduceNeg, u_unT, u_unL, u_unW, u_max, u_min, u_abs, u_tup, u_lst, u_lc, u_app0, u_app, u_ext0, u_ext, u_par2, u_par3, u_zip, u_aug0, u_aug, u_aug2, u_ch, u_ch1, u_ch2, u_ch3, e_int, ne_int, e_bl, ne_bl, q_aa, q_af, q_ac, q_fa, q_ff, q_fc, q_ca, q_cf, q_cc, is_non, is_int, isn_non, isn_int, ix_t0, ix_t1, ix_t2, ix_l0, ix_l1, x_asc, x_kco, x_ite, decide_eq_true_eq, Bool.not_eq_true', decide_eq_false_iff_not, u_srT, u_srL, u_srW, isT, seqV, tupV, lstV, u_join, Option.getD, l1, f1, rg, hl, lc, f2, a1, s, l2, f4, f5, a2, f3, lp]
theorem own_b {FS : Fn} {b1 b2 : Bool} {d : D} (h1 : Fis_row [.fz d] = .ok (.fz (.bl b1), [.fz d])) (h2 : Fis_event [.fz d] = .ok (.fz (.bl b2), [.fz d])) (h3 : F_law_is_verse [.fz d] = .ok (.fz (.bl b1), [.fz d])) (h4 : F_law_is_entry [.fz d] = .ok (.fz (.bl b2), [.fz d])) (hs : F_law_same 40 = FS) (s : FS [.fz (.lst [.bl b1, .bl b2]), .fz (.lst [.bl b1, .bl b2])] = .ok (.fz (.bl true), [.fz (.lst [.bl b1, .bl b2]), .fz (.lst [.bl b1, .bl b2])])) : L_law_right_1 [some X, o1, o2, o3, o4, some (.fz d), o6, o7, none] = .ok (.nx, [some X, o1, o2, o3, o4, some (.fz d), o6, o7, none]) := by
  subst hs
  simp only [L_law_right_1, v_bin6, v_bin5, v_bin4, v_bin3, v_bin2, v_bin1, v_bin, v_un3, v_un2, v_un1, v_un, v_test2, v_test1, v_test, v_cons3, v_cons2, v_cons1, v_cons, v_star4, v_star3, v_star2, v_star1, v_star, v_tup2, v_tup1, v_tup, v_lst2, v_lst1, v_lst, v_callB3, v_callB2, v_callB1, v_callB, v_andT1, v_andT, v_orT1, v_orT, v_notT1, v_notT, v_and2, v_and1, v_and, v_or2, v_or1, v_or, v_not2, v_not1, v_not, v_if1, v_if, v_orL1, v_orL, v_seq1, v_seq, v_ifS1, v_ifS, v_ret2, v_ret1, v_ret, v_drop1, v_drop, v_asg3, v_asg2, v_asg1, v_asg, v_gset1, v_gset, v_gsub5, v_gsub4, v_gsub3, v_gsub2, v_gsub1, v_gsub, v_gsc1, v_gsc, v_gsn1, v_gsn, v_for1, v_for, v_forc2, v_forc1, v_forc, v_lcc2, v_lcc1, v_lcc, v_lcT3, v_lcT2, v_lcT1, v_lcT, v_lc4, v_lc1, v_lc, v_def4, v_def3, v_def2, v_def1, v_def, v_callV4, v_callV3, v_callV2, v_callV1, v_callV, v_callP4, v_callP3, v_callP2, v_callP1, v_callP, v_callKV5, v_callKV4, v_callKV3, v_callKV2, v_callKV1, v_callKV, v_callKP5, v_callKP4, v_callKP3, v_callKP2, v_callKP1, v_callKP, v_callIO5, v_callIO4, v_callIO3, v_callIO2, v_callIO1, v_callIO, v_app7, v_app6, v_app5, v_app4, v_app3, v_app2, v_app1, v_app, v_sl6, v_sl5, v_sl4, v_sl3, v_sl2, v_sl1, v_sl, v_oS2, v_oS1, v_oS, v_iseq3, v_iseq2, v_iseq1, v_iseq, v_ienum3, v_ienum2, v_ienum1, v_ienum, v_irg1, v_irg, v_rgTup3, v_rgTup2, v_rgTup1, v_rgTup, v_argsc2, v_argsc1, v_argsc, v_putc1, v_putc, v_takesc2, v_takesc1, v_takesc, v_contsc2, v_contsc1, v_contsc, v_backsI2, v_backsI1, v_backsI, v_binF7, v_binF6, v_binF5, v_binF4, v_binF3, v_binF2, v_binF1, v_binF, v_par22, v_par21, v_par2, v_par32, v_par31, v_par3, v_ext8, v_ext7, v_ext6, v_ext5, v_ext4, v_ext3, v_ext2, v_ext1, v_ext, v_zip2, v_zip1, v_zip, v_irgB3, v_irgB2, v_irgB1, v_irgB, v_rgLst3, v_rgLst2, v_rgLst1, v_rgLst, v_rgTupB5, v_rgTupB4, v_rgTupB3, v_rgTupB2, v_rgTupB1, v_rgTupB, v_rgLstB5, v_rgLstB4, v_rgLstB3, v_rgLstB2, v_rgLstB1, v_rgLstB, v_ok, v_c, v_nil, v_next, v_yes, v_oN, v_gtup, v_var, v_for0, v_lc0, v_args0, v_put0, v_takes0, v_conts0, v_backs0, w_add, w_sub, w_neg, w_lt, w_le, w_gt, w_ge, w_intI, w_intB, w_ix0, w_ix1, w_ix2, w_i0, w_i1, w_i2, pend, cont, take, frz, frzs, getP, setP, Res.of, boolOf, isPl, mutS, mutP, intOf, move, retOf, backs1, put1, fzT, ioOf, chk, early, shut, isTmp, flatB, scal, List.map_cons, List.map_nil, List.cons_append, List.nil_append, List.append_nil, List.replicate_succ, List.replicate_zero, List.replicate, List.length_cons, List.length_nil, List.getElem?_cons_zero, List.getElem?_cons_succ, List.set_cons_zero, List.set_cons_succ, List.all_cons, List.all_nil, List.contains_cons, List.contains_nil, List.elem_cons, List.elem_nil, List.isEmpty_nil, List.isEmpty_cons, Nat.reduceAdd, Nat.reduceSub, Nat.reduceBEq, Nat.reduceLT, Nat.reduceLeDiff, Nat.reduceEqDiff, decide_true, decide_false, Bool.and_true, Bool.true_and, Bool.or_true, Bool.true_or, Bool.or_false, Bool.false_or, Bool.and_false, Bool.false_and, Bool.not_true, Bool.not_false, Bool.false_eq_true, reduceIte, ite_true, ite_false, beq_self_eq_true, Nat.zero_add, reduceCtorEq, and_self, true_and, and_true, ge_iff_le, gt_iff_lt, Nat.succ_eq_add_one, Nat.add_one_sub_one, Nat.zero_lt_succ, Nat.lt_add_left_iff_pos, wipeE, restE, pick, List.filterMap_cons, List.filterMap_nil, u_irg, u_irgB, Int.reduceLE, Int.reduceLT, Int.reduceNeg, u_unT, u_unL, u_unW, u_max, u_min, u_abs, u_tup, u_lst, u_lc, u_app0, u_app, u_ext0, u_ext, u_par2, u_par3, u_zip, u_aug0, u_aug, u_aug2, u_ch, u_ch1, u_ch2, u_ch3, e_int, ne_int, e_bl, ne_bl, q_aa, q_af, q_ac, q_fa, q_ff, q_fc, q_ca, q_cf, q_cc, is_non, is_int, isn_non, isn_int, ix_t0, ix_t1, ix_t2, ix_l0, ix_l1, x_asc, x_kco, x_ite, decide_eq_true_eq, Bool.not_eq_true', decide_eq_false_iff_not, u_srT, u_srL, u_srW, isT, seqV, tupV, lstV, u_join, Option.getD, h1, h2, h3, h4, s]
end
theorem two_b (a b : Bool) : F_law_same 40 [.fz (.lst [.bl a, .bl b]), .fz (.lst [.bl a, .bl b])] = .ok (.fz (.bl true), [.fz (.lst [.bl a, .bl b]), .fz (.lst [.bl a, .bl b])]) := same40 2 ⟨by simp, fun d hd => by
  simp only [List.mem_cons, List.not_mem_nil, or_false] at hd
  rcases hd with rfl | rfl <;> trivial⟩ (by decide)
theorem own_loop {X : W} {o1 o2 o3 o4 o6 o7 : Option W} : ∀ (L : List D) (o5 : Option W), Fo o5 → (∀ d ∈ L, PL 20 10 d) → ∃ o5' : Option W, Fo o5' ∧ forL (gSet 5) L_law_right_1 L [some X, o1, o2, o3, o4, o5, o6, o7, none] = .ok (.nx, [some X, o1, o2, o3, o4, o5', o6, o7, none])
  | [], o5, h, _ => ⟨o5, h, rfl⟩
  | d :: L, o5, h, hL => by
    have hd := hL d (by simp)
    obtain ⟨h1, h3⟩ := row_is (by decide) hd
    obtain ⟨h2, h4⟩ := event_is hd
    obtain ⟨o5', h', ih⟩ := own_loop (X := X) (o1 := o1) (o2 := o2) (o3 := o3) (o4 := o4) (o6 := o6) (o7 := o7) L (some (.fz d)) (.inr ⟨d, rfl⟩) (fun e he => hL e (by simp [he]))
    exact ⟨o5', h', for_nx rfl (own_b h1 h2 h3 h4 rfl (two_b _ _)) ih⟩
theorem bents_lc {o1 o2 o3 o4 o5 o7 : Option W} {R : D} (hR : PL 12 3 R) : ∀ (ds : List D) (m : Nat) (β : Bx), Gd (m + 16 * ds.length) β → ∃ (WS : List W) (β' : Bx), Gd m β' ∧ WS.length = ds.length ∧ (∀ d ∈ frzs WS, PL 20 10 d) ∧
    lcL [8] (gSet 8) cYes E_law_right_1 ds [some (bx β), o1, o2, o3, o4, o5, some (.fz R), o7, none] = .ok (WS, [some (bx β'), o1, o2, o3, o4, o5, some (.fz R), o7, none])
  | [], m, β, g => ⟨[], β, g, rfl, fun d hd => (by cases hd), rfl⟩
  | d :: ds, m, β, g => by
    rw [List.length_cons] at g
    obtain ⟨w, β1, g1, hw, e1⟩ := bent_ok 3 36 12 3 R (m + 16 * ds.length) β (by decide) (by decide) (by decide) hR (g.le (by omega))
    obtain ⟨WS, β', g', hl, hp, ih⟩ := bents_lc (o1 := o1) (o2 := o2) (o3 := o3) (o4 := o4) (o5 := o5) (o7 := o7) hR ds m β1 g1
    have e1' : F_law_bent 40 [bx β, .fz R, .fz (.int 3)] = .ok (w, [bx β1, .fz R, .fz (.int 3)]) := e1
    refine ⟨w :: WS, β', g', by rw [List.length_cons, List.length_cons, hl], fun e he => ?_, ?_⟩
    · have he : e = frz w ∨ e ∈ frzs WS := by
        have : frzs (w :: WS) = frz w :: frzs WS := rfl
        rw [this] at he
        exact List.mem_cons.mp he
      rcases he with rfl | he
      · exact hw.up (by decide) _ (by decide)
      · exact hp e he
    · cases w with
      | fz q => simp only [E_law_right_1, v_bin6, v_bin5, v_bin4, v_bin3, v_bin2, v_bin1, v_bin, v_un3, v_un2, v_un1, v_un, v_test2, v_test1, v_test, v_cons3, v_cons2, v_cons1, v_cons, v_star4, v_star3, v_star2, v_star1, v_star, v_tup2, v_tup1, v_tup, v_lst2, v_lst1, v_lst, v_callB3, v_callB2, v_callB1, v_callB, v_andT1, v_andT, v_orT1, v_orT, v_notT1, v_notT, v_and2, v_and1, v_and, v_or2, v_or1, v_or, v_not2, v_not1, v_not, v_if1, v_if, v_orL1, v_orL, v_seq1, v_seq, v_ifS1, v_ifS, v_ret2, v_ret1, v_ret, v_drop1, v_drop, v_asg3, v_asg2, v_asg1, v_asg, v_gset1, v_gset, v_gsub5, v_gsub4, v_gsub3, v_gsub2, v_gsub1, v_gsub, v_gsc1, v_gsc, v_gsn1, v_gsn, v_for1, v_for, v_forc2, v_forc1, v_forc, v_lcc2, v_lcc1, v_lcc, v_lcT3, v_lcT2, v_lcT1, v_lcT, v_lc4, v_lc1, v_lc, v_def4, v_def3, v_def2, v_def1, v_def, v_callV4, v_callV3, v_callV2, v_callV1, v_callV, v_callP4, v_callP3, v_callP2, v_callP1, v_callP, v_callKV5, v_callKV4, v_callKV3, v_callKV2, v_callKV1, v_callKV, v_callKP5, v_callKP4, v_callKP3, v_callKP2, v_callKP1, v_callKP, v_callIO5, v_callIO4, v_callIO3, v_callIO2, v_callIO1, v_callIO, v_app7, v_app6, v_app5, v_app4, v_app3, v_app2, v_app1, v_app, v_sl6, v_sl5, v_sl4, v_sl3, v_sl2, v_sl1, v_sl, v_oS2, v_oS1, v_oS, v_iseq3, v_iseq2, v_iseq1, v_iseq, v_ienum3, v_ienum2, v_ienum1, v_ienum, v_irg1, v_irg, v_rgTup3, v_rgTup2, v_rgTup1, v_rgTup, v_argsc2, v_argsc1, v_argsc, v_putc1, v_putc, v_takesc2, v_takesc1, v_takesc, v_contsc2, v_contsc1, v_contsc, v_backsI2, v_backsI1, v_backsI, v_binF7, v_binF6, v_binF5, v_binF4, v_binF3, v_binF2, v_binF1, v_binF, v_par22, v_par21, v_par2, v_par32, v_par31, v_par3, v_ext8, v_ext7, v_ext6, v_ext5, v_ext4, v_ext3, v_ext2, v_ext1, v_ext, v_zip2, v_zip1, v_zip, v_irgB3, v_irgB2, v_irgB1, v_irgB, v_rgLst3, v_rgLst2, v_rgLst1, v_rgLst, v_rgTupB5, v_rgTupB4, v_rgTupB3, v_rgTupB2, v_rgTupB1, v_rgTupB, v_rgLstB5, v_rgLstB4, v_rgLstB3, v_rgLstB2, v_rgLstB1, v_rgLstB, v_ok, v_c, v_nil, v_next, v_yes, v_oN, v_gtup, v_var, v_for0, v_lc0, v_args0, v_put0, v_takes0, v_conts0, v_backs0, w_add, w_sub, w_neg, w_lt, w_le, w_gt, w_ge, w_intI, w_intB, w_ix0, w_ix1, w_ix2, w_i0, w_i1, w_i2, pend, cont, take, frz, frzs, getP, setP, Res.of, boolOf, isPl, mutS, mutP, intOf, move, retOf, backs1, put1, fzT, ioOf, chk, early, shut, isTmp, flatB, scal, List.map_cons, List.map_nil, List.cons_append, List.nil_append, List.append_nil, List.replicate_succ, List.replicate_zero, List.replicate, List.length_cons, List.length_nil, List.getElem?_cons_zero, List.getElem?_cons_succ, List.set_cons_zero, List.set_cons_succ, List.all_cons, List.all_nil, List.contains_cons, List.contains_nil, List.elem_cons, List.elem_nil, List.isEmpty_nil, List.isEmpty_cons, Nat.reduceAdd, Nat.reduceSub, Nat.reduceBEq, Nat.reduceLT, Nat.reduceLeDiff, Nat.reduceEqDiff, decide_true, decide_false, Bool.and_true, Bool.true_and, Bool.or_true, Bool.true_or, Bool.or_false, Bool.false_or, Bool.and_false, Bool.false_and, Bool.not_true, Bool.not_false, Bool.false_eq_true, reduceIte, ite_true, ite_false, beq_self_eq_true, Nat.zero_add, reduceCtorEq, and_self, true_and, and_true, ge_iff_le, gt_iff_lt, Nat.succ_eq_add_one, Nat.add_one_sub_one, Nat.zero_lt_succ, Nat.lt_add_left_iff_pos, wipeE, restE, pick, List.filterMap_cons, List.filterMap_nil, u_irg, u_irgB, Int.reduceLE, Int.reduceLT, Int.reduceNeg, u_unT, u_unL, u_unW, u_max, u_min, u_abs, u_tup, u_lst, u_lc, u_app0, u_app, u_ext0, u_ext, u_par2, u_par3, u_zip, u_aug0, u_aug, u_aug2, u_ch, u_ch1, u_ch2, u_ch3, e_int, ne_int, e_bl, ne_bl, q_aa, q_af, q_ac, q_fa, q_ff, q_fc, q_ca, q_cf, q_cc, is_non, is_int, isn_non, isn_int, ix_t0, ix_t1, ix_t2, ix_l0, ix_l1, x_asc, x_kco, x_ite, decide_eq_true_eq, Bool.not_eq_true', decide_eq_false_iff_not, u_srT, u_srL, u_srW, isT, seqV, tupV, lstV, u_join, Option.getD, e1', ih]
      | lst q => simp only [E_law_right_1, v_bin6, v_bin5, v_bin4, v_bin3, v_bin2, v_bin1, v_bin, v_un3, v_un2, v_un1, v_un, v_test2, v_test1, v_test, v_cons3, v_cons2, v_cons1, v_cons, v_star4, v_star3, v_star2, v_star1, v_star, v_tup2, v_tup1, v_tup, v_lst2, v_lst1, v_lst, v_callB3, v_callB2, v_callB1, v_callB, v_andT1, v_andT, v_orT1, v_orT, v_notT1, v_notT, v_and2, v_and1, v_and, v_or2, v_or1, v_or, v_not2, v_not1, v_not, v_if1, v_if, v_orL1, v_orL, v_seq1, v_seq, v_ifS1, v_ifS, v_ret2, v_ret1, v_ret, v_drop1, v_drop, v_asg3, v_asg2, v_asg1, v_asg, v_gset1, v_gset, v_gsub5, v_gsub4, v_gsub3, v_gsub2, v_gsub1, v_gsub, v_gsc1, v_gsc, v_gsn1, v_gsn, v_for1, v_for, v_forc2, v_forc1, v_forc, v_lcc2, v_lcc1, v_lcc, v_lcT3, v_lcT2, v_lcT1, v_lcT, v_lc4, v_lc1, v_lc, v_def4, v_def3, v_def2, v_def1, v_def, v_callV4, v_callV3, v_callV2, v_callV1, v_callV, v_callP4, v_callP3, v_callP2, v_callP1, v_callP, v_callKV5, v_callKV4, v_callKV3, v_callKV2, v_callKV1, v_callKV, v_callKP5, v_callKP4, v_callKP3, v_callKP2, v_callKP1, v_callKP, v_callIO5, v_callIO4, v_callIO3, v_callIO2, v_callIO1, v_callIO, v_app7, v_app6, v_app5, v_app4, v_app3, v_app2, v_app1, v_app, v_sl6, v_sl5, v_sl4, v_sl3, v_sl2, v_sl1, v_sl, v_oS2, v_oS1, v_oS, v_iseq3, v_iseq2, v_iseq1, v_iseq, v_ienum3, v_ienum2, v_ienum1, v_ienum, v_irg1, v_irg, v_rgTup3, v_rgTup2, v_rgTup1, v_rgTup, v_argsc2, v_argsc1, v_argsc, v_putc1, v_putc, v_takesc2, v_takesc1, v_takesc, v_contsc2, v_contsc1, v_contsc, v_backsI2, v_backsI1, v_backsI, v_binF7, v_binF6, v_binF5, v_binF4, v_binF3, v_binF2, v_binF1, v_binF, v_par22, v_par21, v_par2, v_par32, v_par31, v_par3, v_ext8, v_ext7, v_ext6, v_ext5, v_ext4, v_ext3, v_ext2, v_ext1, v_ext, v_zip2, v_zip1, v_zip, v_irgB3, v_irgB2, v_irgB1, v_irgB, v_rgLst3, v_rgLst2, v_rgLst1, v_rgLst, v_rgTupB5, v_rgTupB4, v_rgTupB3, v_rgTupB2, v_rgTupB1, v_rgTupB, v_rgLstB5, v_rgLstB4, v_rgLstB3, v_rgLstB2, v_rgLstB1, v_rgLstB, v_ok, v_c, v_nil, v_next, v_yes, v_oN, v_gtup, v_var, v_for0, v_lc0, v_args0, v_put0, v_takes0, v_conts0, v_backs0, w_add, w_sub, w_neg, w_lt, w_le, w_gt, w_ge, w_intI, w_intB, w_ix0, w_ix1, w_ix2, w_i0, w_i1, w_i2, pend, cont, take, frz, frzs, getP, setP, Res.of, boolOf, isPl, mutS, mutP, intOf, move, retOf, backs1, put1, fzT, ioOf, chk, early, shut, isTmp, flatB, scal, List.map_cons, List.map_nil, List.cons_append, List.nil_append, List.append_nil, List.replicate_succ, List.replicate_zero, List.replicate, List.length_cons, List.length_nil, List.getElem?_cons_zero, List.getElem?_cons_succ, List.set_cons_zero, List.set_cons_succ, List.all_cons, List.all_nil, List.contains_cons, List.contains_nil, List.elem_cons, List.elem_nil, List.isEmpty_nil, List.isEmpty_cons, Nat.reduceAdd, Nat.reduceSub, Nat.reduceBEq, Nat.reduceLT, Nat.reduceLeDiff, Nat.reduceEqDiff, decide_true, decide_false, Bool.and_true, Bool.true_and, Bool.or_true, Bool.true_or, Bool.or_false, Bool.false_or, Bool.and_false, Bool.false_and, Bool.not_true, Bool.not_false, Bool.false_eq_true, reduceIte, ite_true, ite_false, beq_self_eq_true, Nat.zero_add, reduceCtorEq, and_self, true_and, and_true, ge_iff_le, gt_iff_lt, Nat.succ_eq_add_one, Nat.add_one_sub_one, Nat.zero_lt_succ, Nat.lt_add_left_iff_pos, wipeE, restE, pick, List.filterMap_cons, List.filterMap_nil, u_irg, u_irgB, Int.reduceLE, Int.reduceLT, Int.reduceNeg, u_unT, u_unL, u_unW, u_max, u_min, u_abs, u_tup, u_lst, u_lc, u_app0, u_app, u_ext0, u_ext, u_par2, u_par3, u_zip, u_aug0, u_aug, u_aug2, u_ch, u_ch1, u_ch2, u_ch3, e_int, ne_int, e_bl, ne_bl, q_aa, q_af, q_ac, q_fa, q_ff, q_fc, q_ca, q_cf, q_cc, is_non, is_int, isn_non, isn_int, ix_t0, ix_t1, ix_t2, ix_l0, ix_l1, x_asc, x_kco, x_ite, decide_eq_true_eq, Bool.not_eq_true', decide_eq_false_iff_not, u_srT, u_srL, u_srW, isT, seqV, tupV, lstV, u_join, Option.getD, e1', ih]
theorem lf_ints (L : List Int) : (L.map D.int).all lfD = true := by
  rw [List.all_map]
  exact List.all_eq_true.mpr fun _ _ => rfl
theorem lend_is {A B : CS} {β : Bx} {t : Int} {R : D} {x : Int} {TW TW2 : List W} {TD : List D} {o4 o5 o4' : Option W} (fl : TD.all lfD = true) (h5 : Fo o5) (c : cSeq A B [some (bx β), some (.fz (.int t)), some (.lst TW), some (.lst TW2), o4, o5, some (.fz R), some (.fz (.int x)), none] = .ok (.nx, [some (bx β), some (.fz (.int t)), some (.fz (.lst TD)), some (.fz (.lst TD)), o4', o5, some (.fz R), some (.fz (.int x)), none])) :
    cLend 3 (kpBut [4]) A B [some (bx β), some (.fz (.int t)), some (.lst TW), some (.lst TW2), o4, o5, some (.fz R), some (.fz (.int x)), none] = .ok (.nx, [some (bx β), some (.fz (.int t)), some (.fz (.lst TD)), some (.lst (TD.map W.fz)), none, o5, some (.fz R), some (.fz (.int x)), none]) := by
  have j2 : slotJ (some (.lst TW)) (some (.fz (.lst TD))) = some (.fz (.lst TD)) := by
    show (if TD.all lfD = true then some (W.fz (.lst TD)) else none) = _
    rw [if_pos fl]
  have j5 : slotJ o5 o5 = o5 := by
    rcases h5 with rfl | ⟨d, rfl⟩ <;> rfl
  have je : joinE (kpBut [4]) 0 [some (bx β), some (.fz (.int t)), some (.lst TW), none, o4, o5, some (.fz R), some (.fz (.int x)), none] [some (bx β), some (.fz (.int t)), some (.fz (.lst TD)), some (.fz (.lst TD)), o4', o5, some (.fz R), some (.fz (.int x)), none] = [some (bx β), some (.fz (.int t)), slotJ (some (.lst TW)) (some (.fz (.lst TD))), none, none, slotJ o5 o5, some (.fz R), some (.fz (.int x)), none] := rfl
  unfold cLend
  rw [c, v_ok]
  show Res.bind (chk (true && (TD.all lfD && true))) _ = _
  rw [fl]
  show Res.ok (Fl.nx, (joinE (kpBut [4]) 0 [some (bx β), some (.fz (.int t)), some (.lst TW), none, o4, o5, some (.fz R), some (.fz (.int x)), none] [some (bx β), some (.fz (.int t)), some (.fz (.lst TD)), some (.fz (.lst TD)), o4', o5, some (.fz R), some (.fz (.int x)), none]).set 3 (some (.lst (TD.map W.fz)))) = _
  rw [je, j2, j5]
  rfl
theorem trk_last : ∀ (r : Row) (x : Int), ∃ A, trk r x = A ++ [r.foldl stp x]
  | [], x => ⟨[], rfl⟩
  | e :: r, x => by
    obtain ⟨A, h⟩ := trk_last r (stp x e)
    exact ⟨x :: A, by rw [trk, h, List.foldl_cons]; rfl⟩
theorem ix_last {r : Row} {x : Int} : fIdx (.fz (.lst ((trk r x).map D.int))) (.fz (.int (-1))) = .ok (.fz (.int (r.foldl stp x))) := by
  obtain ⟨A, h⟩ := trk_last r x
  rw [h]
  exact w_ix (ds := (A ++ [r.foldl stp x]).map D.int) (j := A.length) rfl (by unfold L2.ixN; rw [if_neg (by omega), if_pos (by rw [List.length_map, List.length_append]; simp only [List.length_cons, List.length_nil]; omega)]; rw [List.length_map, List.length_append]; simp only [List.length_cons, List.length_nil]; congr 1; omega) (by simp)
theorem ix_lastW {r : Row} {x : Int} : fIdx (cw (trk r x)) (.fz (.int (-1))) = .ok (.fz (.int (r.foldl stp x))) := by
  obtain ⟨A, h⟩ := trk_last r x
  rw [h]
  exact ix_m1
theorem R_pl {r : Row} (h : r.length ≤ 12) : PL 12 3 (eR false r) := ⟨by rw [List.length_map]; exact h, fun d hd => by
  obtain ⟨e, _, rfl⟩ := List.mem_map.mp hd
  refine ⟨by simp, fun q hq => ?_⟩
  simp only [List.mem_cons, List.not_mem_nil, or_false] at hq
  rcases hq with rfl | rfl
  · exact ok_wd
  · trivial⟩
theorem rtn_ok {β : Bx} {m : Nat} {t : Int} (g : Gd (m + 110) β) {o2 o3 o4 o5 o6 o7 : Option W} (h5 : Fo o5) : ∃ (β' : Bx) (y2 y3 y4 y5 y6 y7 : Option W), Gd m β' ∧ Fo y5 ∧ L_law_right_2 [some (bx β), some (.fz (.int t)), o2, o3, o4, o5, o6, o7, none] = .ok (.nx, [some (bx β'), some (.fz (.int t)), y2, y3, y4, y5, y6, y7, none]) := by
  obtain ⟨r, β1, g1, l1, e1⟩ := events_ok (m := m + 73) (g.le (by omega))
  obtain ⟨x, β2, g2, e2⟩ := number_ok (m := m + 71) g1
  have tr := track_ok (k := false) (r := r) (x := x) (by omega)
  have lv := levels_ok (k := false) (r := r) (x := x) (by omega)
  have lv2 := levels_ok (k := true) (r := r) (x := x) (by omega)
  have en := end_ok (k := false) (r := r) (x := x)
  have en2 := end_ok (k := true) (r := r) (x := x)
  obtain ⟨ws, so, fs⟩ := soft_ok (r := r) (by omega)
  have fT : frzs ((trk r x).map fun n => W.fz (.int n)) = (trk r x).map D.int := frzs_fz (fun n => D.int n) _
  have pT : pln 2 (.lst ((trk r x).map D.int)) := ⟨by rw [List.length_map, trk_len]; omega, fun d hd => by
    obtain ⟨n, _, rfl⟩ := List.mem_map.mp hd
    trivial⟩
  have s4 : F_law_same 40 [.fz (.lst [.lst ((trk r x).map D.int), .lst ((trk r x).map D.int), .int (r.foldl stp x)]), .fz (.lst [.lst ((trk r x).map D.int), .lst ((trk r x).map D.int), .int (r.foldl stp x)])] = .ok (.fz (.bl true), [.fz (.lst [.lst ((trk r x).map D.int), .lst ((trk r x).map D.int), .int (r.foldl stp x)]), .fz (.lst [.lst ((trk r x).map D.int), .lst ((trk r x).map D.int), .int (r.foldl stp x)])]) := same40 3 ⟨by simp, fun d hd => by
    simp only [List.mem_cons, List.not_mem_nil, or_false] at hd
    rcases hd with rfl | rfl | rfl
    · exact pT
    · exact pT
    · trivial⟩ (by decide)
  have s7 : F_law_same 40 [.fz (.lst [.lst ((trk r x).map D.int), .int (r.foldl stp x)]), .fz (.lst [.lst ((trk r x).map D.int), .int (r.foldl stp x)])] = .ok (.fz (.bl true), [.fz (.lst [.lst ((trk r x).map D.int), .int (r.foldl stp x)]), .fz (.lst [.lst ((trk r x).map D.int), .int (r.foldl stp x)])]) := same40 3 ⟨by simp, fun d hd => by
    simp only [List.mem_cons, List.not_mem_nil, or_false] at hd
    rcases hd with rfl | rfl
    · exact pT
    · trivial⟩ (by decide)
  have x4a := rt_4a (X := bx β2) (o1 := some (.fz (.int t))) (o2 := some (cw (trk r x))) (o4 := o4) (o5 := o5) fT fs so lv2 en
  obtain ⟨q4, x4b⟩ := rt_4b (X := bx β2) (o1 := some (.fz (.int t))) (o3 := some (.fz (.lst ((trk r x).map D.int)))) (o5 := o5) (o6 := some (.fz (eR false r))) (o7 := some (.fz (.int x))) fT fT ix_lastW s4
  have x4 := lend_is (β := β2) (t := t) (R := eR false r) (x := x) (o4 := o4) (o5 := o5) (lf_ints (trk r x)) h5 (seqN x4a x4b)
  have x5 := rt_5 (X := bx β2) (o1 := some (.fz (.int t))) (o2 := some (.fz (.lst ((trk r x).map D.int)))) (o4 := none) (o5 := o5) (o6 := some (.fz (eR false r))) (o7 := some (.fz (.int x))) (ws := ((trk r x).map D.int).map W.fz) (by rw [List.length_map, List.length_map, trk_len]; omega)
  have x6 := rt_6 (X := bx β2) (o1 := some (.fz (.int t))) (o2 := some (.fz (.lst ((trk r x).map D.int)))) (o3 := some (.lst (((trk r x).map D.int).map W.fz ++ [.fz (.str "more")]))) (o4 := none) (o5 := o5) fs so lv en2
  obtain ⟨q5, x7⟩ := rt_7 (X := bx β2) (o1 := some (.fz (.int t))) (o3 := some (.lst (((trk r x).map D.int).map W.fz ++ [.fz (.str "more")]))) (o5 := o5) (o6 := some (.fz (eR false r))) (o7 := some (.fz (.int x))) fT ix_last s7
  have hR := R_pl l1
  obtain ⟨WS, β3, g3, wl, wp, lc⟩ := bents_lc (o1 := some (.fz (.int t))) (o2 := some (.fz (.lst ((trk r x).map D.int)))) (o3 := some (.lst (((trk r x).map D.int).map W.fz ++ [.fz (.str "more")]))) (o4 := q5) (o5 := o5) (o7 := some (.fz (.int x))) hR ([0, 1, 2, 3].map D.int) m β2 (g2.le (by simp))
  have bl : (frzs WS).length = 4 := by
    rw [frzs_map, List.length_map, wl]; rfl
  have mem : ∀ d ∈ ([eR false r, D.lst (r.map (eE false))] ++ frzs WS) ++ (r.take 2).map (eE false), PL 20 10 d := fun d hd => by
    rcases List.mem_append.mp hd with hd | hd
    · rcases List.mem_append.mp hd with hd | hd
      · simp only [List.mem_cons, List.not_mem_nil, or_false] at hd
        rcases hd with rfl | rfl
        · exact hR.up (by decide) _ (by decide)
        · have : PL 12 3 (.lst (r.map (eE false))) := hR
          exact this.up (by decide) _ (by decide)
      · exact wp d hd
    · have : d ∈ r.map (eE false) := by
        obtain ⟨e, he, rfl⟩ := List.mem_map.mp hd
        exact List.mem_map.mpr ⟨e, List.mem_of_mem_take he, rfl⟩
      exact (hR.2 d this).up (by decide) _ (by decide)
  obtain ⟨y5, h5', lp⟩ := own_loop (X := bx β3) (o1 := some (.fz (.int t))) (o2 := some (.fz (.lst ((trk r x).map D.int)))) (o3 := some (.lst (((trk r x).map D.int).map W.fz ++ [.fz (.str "more")]))) (o4 := q5) (o6 := some (.fz (eR false r))) (o7 := some (.fz (.int x))) _ o5 h5 mem
  have a1 : fAdd (.fz (.lst [eR false r, .lst (r.map (eE false))])) (.fz (.lst (frzs WS))) = .ok (.lst (([eR false r, D.lst (r.map (eE false))] ++ frzs WS).map W.fz)) := by
    show (if ([eR false r, D.lst (r.map (eE false))] : List D).length + (frzs WS).length ≤ 16777216 then Res.ok (W.lst (([eR false r, D.lst (r.map (eE false))] ++ frzs WS).map W.fz)) else .err) = _
    rw [bl, if_pos (by simp only [List.length_cons, List.length_nil]; omega)]
  have tl : ((r.take 2).map (eE false)).length ≤ 12 := by rw [List.length_map, List.length_take]; omega
  have a2 : fAdd (.fz (.lst ([eR false r, D.lst (r.map (eE false))] ++ frzs WS))) (.fz (.lst ((r.take 2).map (eE false)))) = .ok (.lst ((([eR false r, D.lst (r.map (eE false))] ++ frzs WS) ++ (r.take 2).map (eE false)).map W.fz)) := by
    have z : ([eR false r, D.lst (r.map (eE false))] ++ frzs WS).length = 6 := by rw [List.length_append, bl]; rfl
    show (if ([eR false r, D.lst (r.map (eE false))] ++ frzs WS).length + ((r.take 2).map (eE false)).length ≤ 16777216 then Res.ok (W.lst ((([eR false r, D.lst (r.map (eE false))] ++ frzs WS) ++ (r.take 2).map (eE false)).map W.fz)) else .err) = _
    rw [if_pos (by rw [z]; omega)]
  have sl : fSl (.fz (eR false r)) none (some 2) = .ok (.fz (eR false (r.take 2))) := by
    have := slT_lo (ds := r.map (eE false)) (k := 2)
    rw [← List.map_take] at this
    exact this
  have x8 := rt_8 (X := bx β2) (X1 := bx β3) (RW := (r.map (eE false)).map W.fz) (RD := r.map (eE false)) (A := eR false r) (A2 := (r.take 2).map (eE false)) (show fList [.fz (eR false r)] = .ok (.lst ((r.map (eE false)).map W.fz)) from rfl) (frz_map _) lc rfl a1 sl (show fList [.fz (eR false (r.take 2))] = .ok (.lst (((r.take 2).map (eE false)).map W.fz)) from rfl) (frz_map _) (frz_map _) a2 (frz_map _) lp
  refine ⟨β3, some (.fz (.lst ((trk r x).map D.int))), some (.lst (((trk r x).map D.int).map W.fz ++ [.fz (.str "more")])), q5, y5, some (.fz (eR false r)), some (.fz (.int x)), g3, h5', ?_⟩
  exact seqN (rt_1 ⟨_, rfl⟩ ⟨_, rfl⟩ ⟨_, rfl⟩ e1 e2) (seqN (rt_2 tr) (seqN (rt_3 lv) (seqN x4 (seqN x5 (seqN x6 (seqN x7 x8))))))
theorem turns : ∀ (L : List Int) (m : Nat) (β : Bx) (o1 o2 o3 o4 o5 o6 o7 : Option W), Fo o5 → Gd (m + 110 * L.length) β → ∃ (β' : Bx) (y1 y2 y3 y4 y5 y6 y7 : Option W), Gd m β' ∧
    forL (gSet 1) L_law_right_2 (L.map D.int) [some (bx β), o1, o2, o3, o4, o5, o6, o7, none] = .ok (.nx, [some (bx β'), y1, y2, y3, y4, y5, y6, y7, none])
  | [], m, β, o1, o2, o3, o4, o5, o6, o7, _, g => ⟨β, o1, o2, o3, o4, o5, o6, o7, g, rfl⟩
  | n :: L, m, β, o1, o2, o3, o4, o5, o6, o7, h5, g => by
    rw [List.length_cons] at g
    obtain ⟨β1, x2, x3, x4, x5, x6, x7, g1, h5', e1⟩ := rtn_ok (m := m + 110 * L.length) (t := n) (o2 := o2) (o3 := o3) (o4 := o4) (o5 := o5) (o6 := o6) (o7 := o7) (g.le (by omega)) h5
    obtain ⟨β', y1, y2, y3, y4, y5, y6, y7, g', e'⟩ := turns L m β1 (some (.fz (.int n))) x2 x3 x4 x5 x6 x7 h5' g1
    refine ⟨β', y1, y2, y3, y4, y5, y6, y7, g', ?_⟩
    rw [List.map_cons]
    exact for_nx (show gSet 1 (.fz (.int n)) [some (bx β), o1, o2, o3, o4, o5, o6, o7, none] = .ok [some (bx β), some (.fz (.int n)), o2, o3, o4, o5, o6, o7, none] from rfl) e1 e'
theorem run1b {n : Nat} {c : CS} {B0 B1 w : W} {ρ : En} (hB0 : ∃ ws, B0 = .lst ws) (hB : ∃ ws, B1 = .lst ws) (h : c (some B0 :: List.replicate n none) = .ok (.ret w, some B1 :: ρ)) : runDef 1 (n + 1) (ioOf [0]) c [B0] = .ok (w, [B1]) := by
  obtain ⟨ws, rfl⟩ := hB
  obtain ⟨ws0, rfl⟩ := hB0
  have h2 : c ([W.lst ws0].map some ++ List.replicate (n + 1 - 1) none) = .ok (.ret w, some (.lst ws) :: ρ) := h
  rw [v_def, show chk (([W.lst ws0] : List W).length == 1) = .ok () from rfl, v_ok, v_def1, h2, v_ok, v_def2]
  rfl
theorem r_2 {LB : CS} {X : W} {o1 o2 o3 o4 o5 o6 o7 o8 : Option W} {ρ' : En} (lp : forL (gSet 1) LB ([0, 1, 2, 3, 4, 5].map D.int) [some X, o1, o2, o3, o4, o5, o6, o7, o8] = .ok (.nx, ρ')) : cFor (iRange1 (cC (.int 6))) (gSet 1) LB [some X, o1, o2, o3, o4, o5, o6, o7, o8] = .ok (.nx, ρ') := by
  have rg : rangeD 0 (6 : Int).toNat = [0, 1, 2, 3, 4, 5].map D.int := rfl
  generalize ([0, 1, 2, 3, 4, 5] : List Int).map D.int = L at *
  simp only [v_bin6, v_bin5, v_bin4, v_bin3, v_bin2, v_bin1, v_bin, v_un3, v_un2, v_un1, v_un, v_test2, v_test1, v_test, v_cons3, v_cons2, v_cons1, v_cons, v_star4, v_star3, v_star2, v_star1, v_star, v_tup2, v_tup1, v_tup, v_lst2, v_lst1, v_lst, v_callB3, v_callB2, v_callB1, v_callB, v_andT1, v_andT, v_orT1, v_orT, v_notT1, v_notT, v_and2, v_and1, v_and, v_or2, v_or1, v_or, v_not2, v_not1, v_not, v_if1, v_if, v_orL1, v_orL, v_seq1, v_seq, v_ifS1, v_ifS, v_ret2, v_ret1, v_ret, v_drop1, v_drop, v_asg3, v_asg2, v_asg1, v_asg, v_gset1, v_gset, v_gsub5, v_gsub4, v_gsub3, v_gsub2, v_gsub1, v_gsub, v_gsc1, v_gsc, v_gsn1, v_gsn, v_for1, v_for, v_forc2, v_forc1, v_lcc2, v_lcc1, v_lcc, v_lcT3, v_lcT2, v_lcT1, v_lcT, v_lc4, v_lc1, v_lc, v_def4, v_def3, v_def2, v_def1, v_def, v_callV4, v_callV3, v_callV2, v_callV1, v_callV, v_callP4, v_callP3, v_callP2, v_callP1, v_callP, v_callKV5, v_callKV4, v_callKV3, v_callKV2, v_callKV1, v_callKV, v_callKP5, v_callKP4, v_callKP3, v_callKP2, v_callKP1, v_callKP, v_callIO5, v_callIO4, v_callIO3, v_callIO2, v_callIO1, v_callIO, v_app7, v_app6, v_app5, v_app4, v_app3, v_app2, v_app1, v_app, v_sl6, v_sl5, v_sl4, v_sl3, v_sl2, v_sl1, v_sl, v_oS2, v_oS1, v_oS, v_iseq3, v_iseq2, v_iseq1, v_iseq, v_ienum3, v_ienum2, v_ienum1, v_ienum, v_irg1, v_irg, v_rgTup3, v_rgTup2, v_rgTup1, v_rgTup, v_argsc2, v_argsc1, v_argsc, v_putc1, v_putc, v_takesc2, v_takesc1, v_takesc, v_contsc2, v_contsc1, v_contsc, v_backsI2, v_backsI1, v_backsI, v_binF7, v_binF6, v_binF5, v_binF4, v_binF3, v_binF2, v_binF1, v_binF, v_par22, v_par21, v_par2, v_par32, v_par31, v_par3, v_ext8, v_ext7, v_ext6, v_ext5, v_ext4, v_ext3, v_ext2, v_ext1, v_ext, v_zip2, v_zip1, v_zip, v_irgB3, v_irgB2, v_irgB1, v_irgB, v_rgLst3, v_rgLst2, v_rgLst1, v_rgLst, v_rgTupB5, v_rgTupB4, v_rgTupB3, v_rgTupB2, v_rgTupB1, v_rgTupB, v_rgLstB5, v_rgLstB4, v_rgLstB3, v_rgLstB2, v_rgLstB1, v_rgLstB, v_ok, v_c, v_nil, v_next, v_yes, v_oN, v_gtup, v_var, v_for0, v_lc0, v_args0, v_put0, v_takes0, v_conts0, v_backs0, w_add, w_sub, w_neg, w_lt, w_le, w_gt, w_ge, w_intI, w_intB, w_ix0, w_ix1, w_ix2, w_i0, w_i1, w_i2, pend, cont, take, frz, frzs, getP, setP, Res.of, boolOf, isPl, mutS, mutP, intOf, move, retOf, backs1, put1, fzT, ioOf, chk, early, shut, isTmp, flatB, scal, List.map_cons, List.map_nil, List.cons_append, List.nil_append, List.append_nil, List.replicate_succ, List.replicate_zero, List.replicate, List.length_cons, List.length_nil, List.getElem?_cons_zero, List.getElem?_cons_succ, List.set_cons_zero, List.set_cons_succ, List.all_cons, List.all_nil, List.contains_cons, List.contains_nil, List.elem_cons, List.elem_nil, List.isEmpty_nil, List.isEmpty_cons, Nat.reduceAdd, Nat.reduceSub, Nat.reduceBEq, Nat.reduceLT, Nat.reduceLeDiff, Nat.reduceEqDiff, decide_true, decide_false, Bool.and_true, Bool.true_and, Bool.or_true, Bool.true_or, Bool.or_false, Bool.false_or, Bool.and_false, Bool.false_and, Bool.not_true, Bool.not_false, Bool.false_eq_true, reduceIte, ite_true, ite_false, beq_self_eq_true, Nat.zero_add, reduceCtorEq, and_self, true_and, and_true, ge_iff_le, gt_iff_lt, Nat.succ_eq_add_one, Nat.add_one_sub_one, Nat.zero_lt_succ, Nat.lt_add_left_iff_pos, wipeE, restE, pick, List.filterMap_cons, List.filterMap_nil, u_irg, u_irgB, Int.reduceLE, Int.reduceLT, Int.reduceNeg, u_unT, u_unL, u_unW, u_max, u_min, u_abs, u_tup, u_lst, u_lc, u_app0, u_app, u_ext0, u_ext, u_par2, u_par3, u_zip, u_aug0, u_aug, u_aug2, u_ch, u_ch1, u_ch2, u_ch3, e_int, ne_int, e_bl, ne_bl, q_aa, q_af, q_ac, q_fa, q_ff, q_fc, q_ca, q_cf, q_cc, is_non, is_int, isn_non, isn_int, ix_t0, ix_t1, ix_t2, ix_l0, ix_l1, x_asc, x_kco, x_ite, decide_eq_true_eq, Bool.not_eq_true', decide_eq_false_iff_not, u_srT, u_srL, u_srW, isT, seqV, tupV, lstV, u_join, Option.getD, rg, lp]
theorem right_ok {m : Nat} {β : Bx} (g : Gd (m + 660) β) : ∃ β' : Bx, Gd m β' ∧ F_law_right [bx β] = .ok (.fz (.bl true), [bx β']) := by
  obtain ⟨β', y1, y2, y3, y4, y5, y6, y7, g', e'⟩ := turns [0, 1, 2, 3, 4, 5] m β none none none none none none none (.inl rfl) (g.le (by simp))
  refine ⟨β', g', ?_⟩
  have e6 : ∀ ρ : En, cRet (cC (.bl true)) ρ = .ok (.ret (.fz (.bl true)), ρ) := fun ρ => by simp only [v_bin6, v_bin5, v_bin4, v_bin3, v_bin2, v_bin1, v_bin, v_un3, v_un2, v_un1, v_un, v_test2, v_test1, v_test, v_cons3, v_cons2, v_cons1, v_cons, v_star4, v_star3, v_star2, v_star1, v_star, v_tup2, v_tup1, v_tup, v_lst2, v_lst1, v_lst, v_callB3, v_callB2, v_callB1, v_callB, v_andT1, v_andT, v_orT1, v_orT, v_notT1, v_notT, v_and2, v_and1, v_and, v_or2, v_or1, v_or, v_not2, v_not1, v_not, v_if1, v_if, v_orL1, v_orL, v_seq1, v_seq, v_ifS1, v_ifS, v_ret2, v_ret1, v_ret, v_drop1, v_drop, v_asg3, v_asg2, v_asg1, v_asg, v_gset1, v_gset, v_gsub5, v_gsub4, v_gsub3, v_gsub2, v_gsub1, v_gsub, v_gsc1, v_gsc, v_gsn1, v_gsn, v_for1, v_for, v_forc2, v_forc1, v_forc, v_lcc2, v_lcc1, v_lcc, v_lcT3, v_lcT2, v_lcT1, v_lcT, v_lc4, v_lc1, v_lc, v_def4, v_def3, v_def2, v_def1, v_def, v_callV4, v_callV3, v_callV2, v_callV1, v_callV, v_callP4, v_callP3, v_callP2, v_callP1, v_callP, v_callKV5, v_callKV4, v_callKV3, v_callKV2, v_callKV1, v_callKV, v_callKP5, v_callKP4, v_callKP3, v_callKP2, v_callKP1, v_callKP, v_callIO5, v_callIO4, v_callIO3, v_callIO2, v_callIO1, v_callIO, v_app7, v_app6, v_app5, v_app4, v_app3, v_app2, v_app1, v_app, v_sl6, v_sl5, v_sl4, v_sl3, v_sl2, v_sl1, v_sl, v_oS2, v_oS1, v_oS, v_iseq3, v_iseq2, v_iseq1, v_iseq, v_ienum3, v_ienum2, v_ienum1, v_ienum, v_irg1, v_irg, v_rgTup3, v_rgTup2, v_rgTup1, v_rgTup, v_argsc2, v_argsc1, v_argsc, v_putc1, v_putc, v_takesc2, v_takesc1, v_takesc, v_contsc2, v_contsc1, v_contsc, v_backsI2, v_backsI1, v_backsI, v_binF7, v_binF6, v_binF5, v_binF4, v_binF3, v_binF2, v_binF1, v_binF, v_par22, v_par21, v_par2, v_par32, v_par31, v_par3, v_ext8, v_ext7, v_ext6, v_ext5, v_ext4, v_ext3, v_ext2, v_ext1, v_ext, v_zip2, v_zip1, v_zip, v_irgB3, v_irgB2, v_irgB1, v_irgB, v_rgLst3, v_rgLst2, v_rgLst1, v_rgLst, v_rgTupB5, v_rgTupB4, v_rgTupB3, v_rgTupB2, v_rgTupB1, v_rgTupB, v_rgLstB5, v_rgLstB4, v_rgLstB3, v_rgLstB2, v_rgLstB1, v_rgLstB, v_ok, v_c, v_nil, v_next, v_yes, v_oN, v_gtup, v_var, v_for0, v_lc0, v_args0, v_put0, v_takes0, v_conts0, v_backs0, w_add, w_sub, w_neg, w_lt, w_le, w_gt, w_ge, w_intI, w_intB, w_ix0, w_ix1, w_ix2, w_i0, w_i1, w_i2, pend, cont, take, frz, frzs, getP, setP, Res.of, boolOf, isPl, mutS, mutP, intOf, move, retOf, backs1, put1, fzT, ioOf, chk, early, shut, isTmp, flatB, scal, List.map_cons, List.map_nil, List.cons_append, List.nil_append, List.append_nil, List.replicate_succ, List.replicate_zero, List.replicate, List.length_cons, List.length_nil, List.getElem?_cons_zero, List.getElem?_cons_succ, List.set_cons_zero, List.set_cons_succ, List.all_cons, List.all_nil, List.contains_cons, List.contains_nil, List.elem_cons, List.elem_nil, List.isEmpty_nil, List.isEmpty_cons, Nat.reduceAdd, Nat.reduceSub, Nat.reduceBEq, Nat.reduceLT, Nat.reduceLeDiff, Nat.reduceEqDiff, decide_true, decide_false, Bool.and_true, Bool.true_and, Bool.or_true, Bool.true_or, Bool.or_false, Bool.false_or, Bool.and_false, Bool.false_and, Bool.not_true, Bool.not_false, Bool.false_eq_true, reduceIte, ite_true, ite_false, beq_self_eq_true, Nat.zero_add, reduceCtorEq, and_self, true_and, and_true, ge_iff_le, gt_iff_lt, Nat.succ_eq_add_one, Nat.add_one_sub_one, Nat.zero_lt_succ, Nat.lt_add_left_iff_pos, wipeE, restE, pick, List.filterMap_cons, List.filterMap_nil, u_irg, u_irgB, Int.reduceLE, Int.reduceLT, Int.reduceNeg, u_unT, u_unL, u_unW, u_max, u_min, u_abs, u_tup, u_lst, u_lc, u_app0, u_app, u_ext0, u_ext, u_par2, u_par3, u_zip, u_aug0, u_aug, u_aug2, u_ch, u_ch1, u_ch2, u_ch3, e_int, ne_int, e_bl, ne_bl, q_aa, q_af, q_ac, q_fa, q_ff, q_fc, q_ca, q_cf, q_cc, is_non, is_int, isn_non, isn_int, ix_t0, ix_t1, ix_t2, ix_l0, ix_l1, x_asc, x_kco, x_ite, decide_eq_true_eq, Bool.not_eq_true', decide_eq_false_iff_not, u_srT, u_srL, u_srW, isT, seqV, tupV, lstV, u_join, Option.getD]
  exact run1b (n := 8) ⟨_, rfl⟩ ⟨_, rfl⟩ (seqN (r_2 e') (e6 _))
end Gn
namespace Gn
open Mi PySem
theorem cT : chk true = .ok () := rfl
theorem len_cw (cs : List Int) : fLen [cw cs] = .ok (.fz (.int cs.length)) := by
    show (match unfz (cs.map fun n => W.fz (.int n)) with | some ds => Res.ok (W.fz (.int ds.length)) | none => .err) = _
    rw [unfz_cw]; show Res.ok (W.fz (.int (cs.map D.int).length)) = _; rw [List.length_map]
theorem run1 {n : Nat} {c : CS} {x : D} {w : W} {ρ : En} {y : Option W} (h : c (some (.fz x) :: List.replicate n none) = .ok (.ret w, y :: ρ)) : runDef 1 (n + 1) (ioOf []) c [.fz x] = .ok (w, [.fz x]) := by
  have h2 : c ([.fz x].map some ++ List.replicate (n + 1 - 1) none) = .ok (.ret w, y :: ρ) := h
  rw [v_def, show chk (([W.fz x] : List W).length == 1) = .ok () from rfl, v_ok, v_def1, h2, v_ok, v_def2]
  rfl
theorem rgD_nat {n : Nat} : rangeD 0 ((n : Int)).toNat = (List.range n).map fun i => D.int (0 + (i : Nat)) := by rw [Int.toNat_natCast]; rfl
theorem turn_lc {a b c : Option W} {m : Nat} {β : Bx} (g : Gd (m + 660) β) : ∃ β' : Bx, Gd m β' ∧
    lcL [4] (gSet 4) cYes Elaw_1 [.int 0] [a, b, c, some (bx β), none] = .ok ([W.fz (.bl true)], [a, b, c, some (bx β'), none]) := by
  obtain ⟨β', g', e⟩ := right_ok g
  refine ⟨β', g', ?_⟩
  simp only [Elaw_1, v_bin6, v_bin5, v_bin4, v_bin3, v_bin2, v_bin1, v_bin, v_un3, v_un2, v_un1, v_un, v_test2, v_test1, v_test, v_cons3, v_cons2, v_cons1, v_cons, v_star4, v_star3, v_star2, v_star1, v_star, v_tup2, v_tup1, v_tup, v_lst2, v_lst1, v_lst, v_callB3, v_callB2, v_callB1, v_callB, v_andT1, v_andT, v_orT1, v_orT, v_notT1, v_notT, v_and2, v_and1, v_and, v_or2, v_or1, v_or, v_not2, v_not1, v_not, v_if1, v_if, v_orL1, v_orL, v_seq1, v_seq, v_ifS1, v_ifS, v_ret2, v_ret1, v_ret, v_drop1, v_drop, v_asg3, v_asg2, v_asg1, v_asg, v_gset1, v_gset, v_gsub5, v_gsub4, v_gsub3, v_gsub2, v_gsub1, v_gsub, v_gsc1, v_gsc, v_gsn1, v_gsn, v_for1, v_for, v_forc2, v_forc1, v_forc, v_lcc2, v_lcc1, v_lcc, v_lcT3, v_lcT2, v_lcT1, v_lcT, v_lc4, v_lc1, v_lc, v_def4, v_def3, v_def2, v_def1, v_def, v_callV4, v_callV3, v_callV2, v_callV1, v_callV, v_callP4, v_callP3, v_callP2, v_callP1, v_callP, v_callKV5, v_callKV4, v_callKV3, v_callKV2, v_callKV1, v_callKV, v_callKP5, v_callKP4, v_callKP3, v_callKP2, v_callKP1, v_callKP, v_callIO5, v_callIO4, v_callIO3, v_callIO2, v_callIO1, v_callIO, v_app7, v_app6, v_app5, v_app4, v_app3, v_app2, v_app1, v_app, v_sl6, v_sl5, v_sl4, v_sl3, v_sl2, v_sl1, v_sl, v_oS2, v_oS1, v_oS, v_iseq3, v_iseq2, v_iseq1, v_iseq, v_ienum3, v_ienum2, v_ienum1, v_ienum, v_irg1, v_irg, v_rgTup3, v_rgTup2, v_rgTup1, v_rgTup, v_argsc2, v_argsc1, v_argsc, v_putc1, v_putc, v_takesc2, v_takesc1, v_takesc, v_contsc2, v_contsc1, v_contsc, v_backsI2, v_backsI1, v_backsI, v_binF7, v_binF6, v_binF5, v_binF4, v_binF3, v_binF2, v_binF1, v_binF, v_par22, v_par21, v_par2, v_par32, v_par31, v_par3, v_ext8, v_ext7, v_ext6, v_ext5, v_ext4, v_ext3, v_ext2, v_ext1, v_ext, v_zip2, v_zip1, v_zip, v_irgB3, v_irgB2, v_irgB1, v_irgB, v_rgLst3, v_rgLst2, v_rgLst1, v_rgLst, v_rgTupB5, v_rgTupB4, v_rgTupB3, v_rgTupB2, v_rgTupB1, v_rgTupB, v_rgLstB5, v_rgLstB4, v_rgLstB3, v_rgLstB2, v_rgLstB1, v_rgLstB, v_ok, v_c, v_nil, v_next, v_yes, v_oN, v_gtup, v_var, v_for0, v_lc0, v_args0, v_put0, v_takes0, v_conts0, v_backs0, w_add, w_sub, w_neg, w_lt, w_le, w_gt, w_ge, w_intI, w_intB, w_ix0, w_ix1, w_ix2, w_i0, w_i1, w_i2, pend, cont, take, frz, frzs, getP, setP, Res.of, boolOf, isPl, mutS, mutP, intOf, move, retOf, backs1, put1, fzT, ioOf, chk, early, shut, isTmp, flatB, scal, List.map_cons, List.map_nil, List.cons_append, List.nil_append, List.append_nil, List.replicate_succ, List.replicate_zero, List.replicate, List.length_cons, List.length_nil, List.getElem?_cons_zero, List.getElem?_cons_succ, List.set_cons_zero, List.set_cons_succ, List.all_cons, List.all_nil, List.contains_cons, List.contains_nil, List.elem_cons, List.elem_nil, List.isEmpty_nil, List.isEmpty_cons, Nat.reduceAdd, Nat.reduceSub, Nat.reduceBEq, Nat.reduceLT, Nat.reduceLeDiff, Nat.reduceEqDiff, decide_true, decide_false, Bool.and_true, Bool.true_and, Bool.or_true, Bool.true_or, Bool.or_false, Bool.false_or, Bool.and_false, Bool.false_and, Bool.not_true, Bool.not_false, Bool.false_eq_true, reduceIte, ite_true, ite_false, beq_self_eq_true, Nat.zero_add, reduceCtorEq, and_self, true_and, and_true, ge_iff_le, gt_iff_lt, Nat.succ_eq_add_one, Nat.add_one_sub_one, Nat.zero_lt_succ, Nat.lt_add_left_iff_pos, wipeE, restE, pick, List.filterMap_cons, List.filterMap_nil, u_irg, u_irgB, Int.reduceLE, Int.reduceLT, Int.reduceNeg, u_unT, u_unL, u_unW, u_max, u_min, u_abs, u_tup, u_lst, u_lc, u_app0, u_app, u_ext0, u_ext, u_par2, u_par3, u_zip, u_aug0, u_aug, u_aug2, u_ch, u_ch1, u_ch2, u_ch3, e_int, ne_int, e_bl, ne_bl, q_aa, q_af, q_ac, q_fa, q_ff, q_fc, q_ca, q_cf, q_cc, is_non, is_int, isn_non, isn_int, ix_t0, ix_t1, ix_t2, ix_l0, ix_l1, x_asc, x_kco, x_ite, decide_eq_true_eq, Bool.not_eq_true', decide_eq_false_iff_not, u_srT, u_srL, u_srW, isT, seqV, tupV, lstV, u_join, Option.getD, e]
theorem all1 : fAll [.fz (.lst [.bl true])] = .ok (.fz (.bl true)) := rfl
theorem law_body {s w1 : W} {cs : List Int} (h : w1 = cw cs ∨ w1 = .fz (.lst (cs.map D.int))) {i : Nat} (hi : i < cs.length) {o3 : Option W} : ∃ o3' : Option W, Llaw_1 [some s, some w1, some (.fz (.int (0 + (i : Nat)))), o3, none] = .ok (.nx, [some s, some (.fz (.lst (cs.map D.int))), some (.fz (.int (0 + (i : Nat)))), o3', none]) := by
  obtain ⟨β, b0, be⟩ := box_ok (cs := cs) (k := 0 + (i : Nat)) (by omega) (by omega)
  obtain ⟨β', g', el⟩ := turn_lc (m := 0) (β := β) (a := some s) (b := some (.fz (.lst (cs.map D.int)))) (c := some (.fz (.int (0 + (i : Nat))))) ⟨by omega, by rw [b0]; decide⟩
  refine ⟨some (bx β'), ?_⟩
  have hb : F_law_box [.fz (.lst (cs.map D.int)), .fz (.int (0 + (i : Nat)))] = .ok (bx β, [.fz (.lst (cs.map D.int)), .fz (.int (0 + (i : Nat)))]) := be
  have r1 : rangeD 0 (1 : Int).toNat = [.int 0] := rfl
  rcases h with h | h
  · subst h
    simp only [Llaw_1, v_bin6, v_bin5, v_bin4, v_bin3, v_bin2, v_bin1, v_bin, v_un3, v_un2, v_un1, v_un, v_test2, v_test1, v_test, v_cons3, v_cons2, v_cons1, v_cons, v_star4, v_star3, v_star2, v_star1, v_star, v_tup2, v_tup1, v_tup, v_lst2, v_lst1, v_lst, v_callB3, v_callB2, v_callB1, v_callB, v_andT1, v_andT, v_orT1, v_orT, v_notT1, v_notT, v_and2, v_and1, v_and, v_or2, v_or1, v_or, v_not2, v_not1, v_not, v_if1, v_if, v_orL1, v_orL, v_seq1, v_seq, v_ifS1, v_ifS, v_ret2, v_ret1, v_ret, v_drop1, v_drop, v_asg3, v_asg2, v_asg1, v_asg, v_gset1, v_gset, v_gsub5, v_gsub4, v_gsub3, v_gsub2, v_gsub1, v_gsub, v_gsc1, v_gsc, v_gsn1, v_gsn, v_for1, v_for, v_forc2, v_forc1, v_forc, v_lcc2, v_lcc1, v_lcT3, v_lcT2, v_lcT1, v_lcT, v_lc4, v_lc1, v_lc, v_def4, v_def3, v_def2, v_def1, v_def, v_callV4, v_callV3, v_callV2, v_callV1, v_callV, v_callP4, v_callP3, v_callP2, v_callP1, v_callP, v_callKV5, v_callKV4, v_callKV3, v_callKV2, v_callKV1, v_callKV, v_callKP5, v_callKP4, v_callKP3, v_callKP2, v_callKP1, v_callKP, v_callIO5, v_callIO4, v_callIO3, v_callIO2, v_callIO1, v_callIO, v_app7, v_app6, v_app5, v_app4, v_app3, v_app2, v_app1, v_app, v_sl6, v_sl5, v_sl4, v_sl3, v_sl2, v_sl1, v_sl, v_oS2, v_oS1, v_oS, v_iseq3, v_iseq2, v_iseq1, v_iseq, v_ienum3, v_ienum2, v_ienum1, v_ienum, v_irg1, v_irg, v_rgTup3, v_rgTup2, v_rgTup1, v_rgTup, v_argsc2, v_argsc1, v_argsc, v_putc1, v_putc, v_takesc2, v_takesc1, v_takesc, v_contsc2, v_contsc1, v_contsc, v_backsI2, v_backsI1, v_backsI, v_binF7, v_binF6, v_binF5, v_binF4, v_binF3, v_binF2, v_binF1, v_binF, v_par22, v_par21, v_par2, v_par32, v_par31, v_par3, v_ext8, v_ext7, v_ext6, v_ext5, v_ext4, v_ext3, v_ext2, v_ext1, v_ext, v_zip2, v_zip1, v_zip, v_irgB3, v_irgB2, v_irgB1, v_irgB, v_rgLst3, v_rgLst2, v_rgLst1, v_rgLst, v_rgTupB5, v_rgTupB4, v_rgTupB3, v_rgTupB2, v_rgTupB1, v_rgTupB, v_rgLstB5, v_rgLstB4, v_rgLstB3, v_rgLstB2, v_rgLstB1, v_rgLstB, v_ok, v_c, v_nil, v_next, v_yes, v_oN, v_gtup, v_var, v_for0, v_lc0, v_args0, v_put0, v_takes0, v_conts0, v_backs0, w_add, w_sub, w_neg, w_lt, w_le, w_gt, w_ge, w_intI, w_intB, w_ix0, w_ix1, w_ix2, w_i0, w_i1, w_i2, pend, cont, take, frz, frzs, getP, setP, Res.of, boolOf, isPl, mutS, mutP, intOf, move, retOf, backs1, put1, fzT, ioOf, chk, early, shut, isTmp, flatB, scal, List.map_cons, List.map_nil, List.cons_append, List.nil_append, List.append_nil, List.replicate_succ, List.replicate_zero, List.replicate, List.length_cons, List.length_nil, List.getElem?_cons_zero, List.getElem?_cons_succ, List.set_cons_zero, List.set_cons_succ, List.all_cons, List.all_nil, List.contains_cons, List.contains_nil, List.elem_cons, List.elem_nil, List.isEmpty_nil, List.isEmpty_cons, Nat.reduceAdd, Nat.reduceSub, Nat.reduceBEq, Nat.reduceLT, Nat.reduceLeDiff, Nat.reduceEqDiff, decide_true, decide_false, Bool.and_true, Bool.true_and, Bool.or_true, Bool.true_or, Bool.or_false, Bool.false_or, Bool.and_false, Bool.false_and, Bool.not_true, Bool.not_false, Bool.false_eq_true, reduceIte, ite_true, ite_false, beq_self_eq_true, Nat.zero_add, reduceCtorEq, and_self, true_and, and_true, ge_iff_le, gt_iff_lt, Nat.succ_eq_add_one, Nat.add_one_sub_one, Nat.zero_lt_succ, Nat.lt_add_left_iff_pos, wipeE, restE, pick, List.filterMap_cons, List.filterMap_nil, u_irg, u_irgB, Int.reduceLE, Int.reduceLT, Int.reduceNeg, u_unT, u_unL, u_unW, u_max, u_min, u_abs, u_tup, u_lst, u_lc, u_app0, u_app, u_ext0, u_ext, u_par2, u_par3, u_zip, u_aug0, u_aug, u_aug2, u_ch, u_ch1, u_ch2, u_ch3, e_int, ne_int, e_bl, ne_bl, q_aa, q_af, q_ac, q_fa, q_ff, q_fc, q_ca, q_cf, q_cc, is_non, is_int, isn_non, isn_int, ix_t0, ix_t1, ix_t2, ix_l0, ix_l1, x_asc, x_kco, x_ite, decide_eq_true_eq, Bool.not_eq_true', decide_eq_false_iff_not, u_srT, u_srL, u_srW, isT, seqV, tupV, lstV, u_join, Option.getD, frzs_cw, hb, el, all1, r1]
  · subst h
    simp only [Llaw_1, v_bin6, v_bin5, v_bin4, v_bin3, v_bin2, v_bin1, v_bin, v_un3, v_un2, v_un1, v_un, v_test2, v_test1, v_test, v_cons3, v_cons2, v_cons1, v_cons, v_star4, v_star3, v_star2, v_star1, v_star, v_tup2, v_tup1, v_tup, v_lst2, v_lst1, v_lst, v_callB3, v_callB2, v_callB1, v_callB, v_andT1, v_andT, v_orT1, v_orT, v_notT1, v_notT, v_and2, v_and1, v_and, v_or2, v_or1, v_or, v_not2, v_not1, v_not, v_if1, v_if, v_orL1, v_orL, v_seq1, v_seq, v_ifS1, v_ifS, v_ret2, v_ret1, v_ret, v_drop1, v_drop, v_asg3, v_asg2, v_asg1, v_asg, v_gset1, v_gset, v_gsub5, v_gsub4, v_gsub3, v_gsub2, v_gsub1, v_gsub, v_gsc1, v_gsc, v_gsn1, v_gsn, v_for1, v_for, v_forc2, v_forc1, v_forc, v_lcc2, v_lcc1, v_lcT3, v_lcT2, v_lcT1, v_lcT, v_lc4, v_lc1, v_lc, v_def4, v_def3, v_def2, v_def1, v_def, v_callV4, v_callV3, v_callV2, v_callV1, v_callV, v_callP4, v_callP3, v_callP2, v_callP1, v_callP, v_callKV5, v_callKV4, v_callKV3, v_callKV2, v_callKV1, v_callKV, v_callKP5, v_callKP4, v_callKP3, v_callKP2, v_callKP1, v_callKP, v_callIO5, v_callIO4, v_callIO3, v_callIO2, v_callIO1, v_callIO, v_app7, v_app6, v_app5, v_app4, v_app3, v_app2, v_app1, v_app, v_sl6, v_sl5, v_sl4, v_sl3, v_sl2, v_sl1, v_sl, v_oS2, v_oS1, v_oS, v_iseq3, v_iseq2, v_iseq1, v_iseq, v_ienum3, v_ienum2, v_ienum1, v_ienum, v_irg1, v_irg, v_rgTup3, v_rgTup2, v_rgTup1, v_rgTup, v_argsc2, v_argsc1, v_argsc, v_putc1, v_putc, v_takesc2, v_takesc1, v_takesc, v_contsc2, v_contsc1, v_contsc, v_backsI2, v_backsI1, v_backsI, v_binF7, v_binF6, v_binF5, v_binF4, v_binF3, v_binF2, v_binF1, v_binF, v_par22, v_par21, v_par2, v_par32, v_par31, v_par3, v_ext8, v_ext7, v_ext6, v_ext5, v_ext4, v_ext3, v_ext2, v_ext1, v_ext, v_zip2, v_zip1, v_zip, v_irgB3, v_irgB2, v_irgB1, v_irgB, v_rgLst3, v_rgLst2, v_rgLst1, v_rgLst, v_rgTupB5, v_rgTupB4, v_rgTupB3, v_rgTupB2, v_rgTupB1, v_rgTupB, v_rgLstB5, v_rgLstB4, v_rgLstB3, v_rgLstB2, v_rgLstB1, v_rgLstB, v_ok, v_c, v_nil, v_next, v_yes, v_oN, v_gtup, v_var, v_for0, v_lc0, v_args0, v_put0, v_takes0, v_conts0, v_backs0, w_add, w_sub, w_neg, w_lt, w_le, w_gt, w_ge, w_intI, w_intB, w_ix0, w_ix1, w_ix2, w_i0, w_i1, w_i2, pend, cont, take, frz, frzs, getP, setP, Res.of, boolOf, isPl, mutS, mutP, intOf, move, retOf, backs1, put1, fzT, ioOf, chk, early, shut, isTmp, flatB, scal, List.map_cons, List.map_nil, List.cons_append, List.nil_append, List.append_nil, List.replicate_succ, List.replicate_zero, List.replicate, List.length_cons, List.length_nil, List.getElem?_cons_zero, List.getElem?_cons_succ, List.set_cons_zero, List.set_cons_succ, List.all_cons, List.all_nil, List.contains_cons, List.contains_nil, List.elem_cons, List.elem_nil, List.isEmpty_nil, List.isEmpty_cons, Nat.reduceAdd, Nat.reduceSub, Nat.reduceBEq, Nat.reduceLT, Nat.reduceLeDiff, Nat.reduceEqDiff, decide_true, decide_false, Bool.and_true, Bool.true_and, Bool.or_true, Bool.true_or, Bool.or_false, Bool.false_or, Bool.and_false, Bool.false_and, Bool.not_true, Bool.not_false, Bool.false_eq_true, reduceIte, ite_true, ite_false, beq_self_eq_true, Nat.zero_add, reduceCtorEq, and_self, true_and, and_true, ge_iff_le, gt_iff_lt, Nat.succ_eq_add_one, Nat.add_one_sub_one, Nat.zero_lt_succ, Nat.lt_add_left_iff_pos, wipeE, restE, pick, List.filterMap_cons, List.filterMap_nil, u_irg, u_irgB, Int.reduceLE, Int.reduceLT, Int.reduceNeg, u_unT, u_unL, u_unW, u_max, u_min, u_abs, u_tup, u_lst, u_lc, u_app0, u_app, u_ext0, u_ext, u_par2, u_par3, u_zip, u_aug0, u_aug, u_aug2, u_ch, u_ch1, u_ch2, u_ch3, e_int, ne_int, e_bl, ne_bl, q_aa, q_af, q_ac, q_fa, q_ff, q_fc, q_ca, q_cf, q_cc, is_non, is_int, isn_non, isn_int, ix_t0, ix_t1, ix_t2, ix_l0, ix_l1, x_asc, x_kco, x_ite, decide_eq_true_eq, Bool.not_eq_true', decide_eq_false_iff_not, u_srT, u_srL, u_srW, isT, seqV, tupV, lstV, u_join, Option.getD, frzs_cw, hb, el, all1, r1]
theorem law_loop {s : W} {cs : List Int} : ∀ (l : List Nat) (w1 : W) (o2 o3 : Option W), (w1 = cw cs ∨ w1 = .fz (.lst (cs.map D.int))) → (∀ i ∈ l, i < cs.length) → ∃ (w1' : W) (o2' o3' : Option W),
    forL (gSet 2) Llaw_1 (l.map fun i => D.int (0 + (i : Nat))) [some s, some w1, o2, o3, none] = .ok (.nx, [some s, some w1', o2', o3', none])
  | [], w1, o2, o3, h, _ => ⟨w1, o2, o3, rfl⟩
  | i :: l, w1, o2, o3, h, hl => by
    obtain ⟨x3, e1⟩ := law_body (s := s) h (hl i (by simp)) (o3 := o3)
    obtain ⟨w1', o2', o3', e⟩ := law_loop (s := s) l (.fz (.lst (cs.map D.int))) (some (.fz (.int (0 + (i : Nat))))) x3 (.inr rfl) (fun j hj => hl j (by simp [hj]))
    refine ⟨w1', o2', o3', ?_⟩
    simp only [List.map_cons (f := fun i : Nat => D.int (0 + (i : Nat))), v_bin6, v_bin5, v_bin4, v_bin3, v_bin2, v_bin1, v_bin, v_un3, v_un2, v_un1, v_un, v_test2, v_test1, v_test, v_cons3, v_cons2, v_cons1, v_cons, v_star4, v_star3, v_star2, v_star1, v_star, v_tup2, v_tup1, v_tup, v_lst2, v_lst1, v_lst, v_callB3, v_callB2, v_callB1, v_callB, v_andT1, v_andT, v_orT1, v_orT, v_notT1, v_notT, v_and2, v_and1, v_and, v_or2, v_or1, v_or, v_not2, v_not1, v_not, v_if1, v_if, v_orL1, v_orL, v_seq1, v_seq, v_ifS1, v_ifS, v_ret2, v_ret1, v_ret, v_drop1, v_drop, v_asg3, v_asg2, v_asg1, v_asg, v_gset1, v_gset, v_gsub5, v_gsub4, v_gsub3, v_gsub2, v_gsub1, v_gsub, v_gsc1, v_gsc, v_gsn1, v_gsn, v_for1, v_for, v_forc2, v_forc1, v_forc, v_lcc2, v_lcc1, v_lcc, v_lcT3, v_lcT2, v_lcT1, v_lcT, v_lc4, v_lc1, v_lc, v_def4, v_def3, v_def2, v_def1, v_def, v_callV4, v_callV3, v_callV2, v_callV1, v_callV, v_callP4, v_callP3, v_callP2, v_callP1, v_callP, v_callKV5, v_callKV4, v_callKV3, v_callKV2, v_callKV1, v_callKV, v_callKP5, v_callKP4, v_callKP3, v_callKP2, v_callKP1, v_callKP, v_callIO5, v_callIO4, v_callIO3, v_callIO2, v_callIO1, v_callIO, v_app7, v_app6, v_app5, v_app4, v_app3, v_app2, v_app1, v_app, v_sl6, v_sl5, v_sl4, v_sl3, v_sl2, v_sl1, v_sl, v_oS2, v_oS1, v_oS, v_iseq3, v_iseq2, v_iseq1, v_iseq, v_ienum3, v_ienum2, v_ienum1, v_ienum, v_irg1, v_irg, v_rgTup3, v_rgTup2, v_rgTup1, v_rgTup, v_argsc2, v_argsc1, v_argsc, v_putc1, v_putc, v_takesc2, v_takesc1, v_takesc, v_contsc2, v_contsc1, v_contsc, v_backsI2, v_backsI1, v_backsI, v_binF7, v_binF6, v_binF5, v_binF4, v_binF3, v_binF2, v_binF1, v_binF, v_par22, v_par21, v_par2, v_par32, v_par31, v_par3, v_ext8, v_ext7, v_ext6, v_ext5, v_ext4, v_ext3, v_ext2, v_ext1, v_ext, v_zip2, v_zip1, v_zip, v_irgB3, v_irgB2, v_irgB1, v_irgB, v_rgLst3, v_rgLst2, v_rgLst1, v_rgLst, v_rgTupB5, v_rgTupB4, v_rgTupB3, v_rgTupB2, v_rgTupB1, v_rgTupB, v_rgLstB5, v_rgLstB4, v_rgLstB3, v_rgLstB2, v_rgLstB1, v_rgLstB, v_ok, v_c, v_nil, v_next, v_yes, v_oN, v_gtup, v_var, v_for0, v_lc0, v_args0, v_put0, v_takes0, v_conts0, v_backs0, w_add, w_sub, w_neg, w_lt, w_le, w_gt, w_ge, w_intI, w_intB, w_ix0, w_ix1, w_ix2, w_i0, w_i1, w_i2, pend, cont, take, frz, frzs, getP, setP, Res.of, boolOf, isPl, mutS, mutP, intOf, move, retOf, backs1, put1, fzT, ioOf, chk, early, shut, isTmp, flatB, scal, List.map_cons, List.map_nil, List.cons_append, List.nil_append, List.append_nil, List.replicate_succ, List.replicate_zero, List.replicate, List.length_cons, List.length_nil, List.getElem?_cons_zero, List.getElem?_cons_succ, List.set_cons_zero, List.set_cons_succ, List.all_cons, List.all_nil, List.contains_cons, List.contains_nil, List.elem_cons, List.elem_nil, List.isEmpty_nil, List.isEmpty_cons, Nat.reduceAdd, Nat.reduceSub, Nat.reduceBEq, Nat.reduceLT, Nat.reduceLeDiff, Nat.reduceEqDiff, decide_true, decide_false, Bool.and_true, Bool.true_and, Bool.or_true, Bool.true_or, Bool.or_false, Bool.false_or, Bool.and_false, Bool.false_and, Bool.not_true, Bool.not_false, Bool.false_eq_true, reduceIte, ite_true, ite_false, beq_self_eq_true, Nat.zero_add, reduceCtorEq, and_self, true_and, and_true, ge_iff_le, gt_iff_lt, Nat.succ_eq_add_one, Nat.add_one_sub_one, Nat.zero_lt_succ, Nat.lt_add_left_iff_pos, wipeE, restE, pick, List.filterMap_cons, List.filterMap_nil, u_irg, u_irgB, Int.reduceLE, Int.reduceLT, Int.reduceNeg, u_unT, u_unL, u_unW, u_max, u_min, u_abs, u_tup, u_lst, u_lc, u_app0, u_app, u_ext0, u_ext, u_par2, u_par3, u_zip, u_aug0, u_aug, u_aug2, u_ch, u_ch1, u_ch2, u_ch3, e_int, ne_int, e_bl, ne_bl, q_aa, q_af, q_ac, q_fa, q_ff, q_fc, q_ca, q_cf, q_cc, is_non, is_int, isn_non, isn_int, ix_t0, ix_t1, ix_t2, ix_l0, ix_l1, x_asc, x_kco, x_ite, decide_eq_true_eq, Bool.not_eq_true', decide_eq_false_iff_not, u_srT, u_srL, u_srW, isT, seqV, tupV, lstV, u_join, Option.getD, e1, e]
theorem law_s1 {s : W} {cs : List Int} (ce : F_law_cells [.fz (frz s), .fz (.int 3)] = .ok (cw cs, [.fz (frz s), .fz (.int 3)])) (hs : ∃ d, s = .fz d) : cAsg (gSet 1) (cCallP false F_law_cells (cCons true (cVar 0) (cCons true (cC (.int 3)) cNil))) [some s, none, none, none, none] = .ok (.nx, [some s, some (cw cs), none, none, none]) := by
  obtain ⟨d, rfl⟩ := hs
  simp only [Mi.frz] at ce
  simp only [v_bin6, v_bin5, v_bin4, v_bin3, v_bin2, v_bin1, v_bin, v_un3, v_un2, v_un1, v_un, v_test2, v_test1, v_test, v_cons3, v_cons2, v_cons1, v_cons, v_star4, v_star3, v_star2, v_star1, v_star, v_tup2, v_tup1, v_tup, v_lst2, v_lst1, v_lst, v_callB3, v_callB2, v_callB1, v_callB, v_andT1, v_andT, v_orT1, v_orT, v_notT1, v_notT, v_and2, v_and1, v_and, v_or2, v_or1, v_or, v_not2, v_not1, v_not, v_if1, v_if, v_orL1, v_orL, v_seq1, v_seq, v_ifS1, v_ifS, v_ret2, v_ret1, v_ret, v_drop1, v_drop, v_asg3, v_asg2, v_asg1, v_asg, v_gset1, v_gset, v_gsub5, v_gsub4, v_gsub3, v_gsub2, v_gsub1, v_gsub, v_gsc1, v_gsc, v_gsn1, v_gsn, v_for1, v_for, v_forc2, v_forc1, v_forc, v_lcc2, v_lcc1, v_lcc, v_lcT3, v_lcT2, v_lcT1, v_lcT, v_lc4, v_lc1, v_lc, v_def4, v_def3, v_def2, v_def1, v_def, v_callV4, v_callV3, v_callV2, v_callV1, v_callV, v_callP4, v_callP3, v_callP2, v_callP1, v_callP, v_callKV5, v_callKV4, v_callKV3, v_callKV2, v_callKV1, v_callKV, v_callKP5, v_callKP4, v_callKP3, v_callKP2, v_callKP1, v_callKP, v_callIO5, v_callIO4, v_callIO3, v_callIO2, v_callIO1, v_callIO, v_app7, v_app6, v_app5, v_app4, v_app3, v_app2, v_app1, v_app, v_sl6, v_sl5, v_sl4, v_sl3, v_sl2, v_sl1, v_sl, v_oS2, v_oS1, v_oS, v_iseq3, v_iseq2, v_iseq1, v_iseq, v_ienum3, v_ienum2, v_ienum1, v_ienum, v_irg1, v_irg, v_rgTup3, v_rgTup2, v_rgTup1, v_rgTup, v_argsc2, v_argsc1, v_argsc, v_putc1, v_putc, v_takesc2, v_takesc1, v_takesc, v_contsc2, v_contsc1, v_contsc, v_backsI2, v_backsI1, v_backsI, v_binF7, v_binF6, v_binF5, v_binF4, v_binF3, v_binF2, v_binF1, v_binF, v_par22, v_par21, v_par2, v_par32, v_par31, v_par3, v_ext8, v_ext7, v_ext6, v_ext5, v_ext4, v_ext3, v_ext2, v_ext1, v_ext, v_zip2, v_zip1, v_zip, v_irgB3, v_irgB2, v_irgB1, v_irgB, v_rgLst3, v_rgLst2, v_rgLst1, v_rgLst, v_rgTupB5, v_rgTupB4, v_rgTupB3, v_rgTupB2, v_rgTupB1, v_rgTupB, v_rgLstB5, v_rgLstB4, v_rgLstB3, v_rgLstB2, v_rgLstB1, v_rgLstB, v_ok, v_c, v_nil, v_next, v_yes, v_oN, v_gtup, v_var, v_for0, v_lc0, v_args0, v_put0, v_takes0, v_conts0, v_backs0, w_add, w_sub, w_neg, w_lt, w_le, w_gt, w_ge, w_intI, w_intB, w_ix0, w_ix1, w_ix2, w_i0, w_i1, w_i2, pend, cont, take, frz, frzs, getP, setP, Res.of, boolOf, isPl, mutS, mutP, intOf, move, retOf, backs1, put1, fzT, ioOf, chk, early, shut, isTmp, flatB, scal, List.map_cons, List.map_nil, List.cons_append, List.nil_append, List.append_nil, List.replicate_succ, List.replicate_zero, List.replicate, List.length_cons, List.length_nil, List.getElem?_cons_zero, List.getElem?_cons_succ, List.set_cons_zero, List.set_cons_succ, List.all_cons, List.all_nil, List.contains_cons, List.contains_nil, List.elem_cons, List.elem_nil, List.isEmpty_nil, List.isEmpty_cons, Nat.reduceAdd, Nat.reduceSub, Nat.reduceBEq, Nat.reduceLT, Nat.reduceLeDiff, Nat.reduceEqDiff, decide_true, decide_false, Bool.and_true, Bool.true_and, Bool.or_true, Bool.true_or, Bool.or_false, Bool.false_or, Bool.and_false, Bool.false_and, Bool.not_true, Bool.not_false, Bool.false_eq_true, reduceIte, ite_true, ite_false, beq_self_eq_true, Nat.zero_add, reduceCtorEq, and_self, true_and, and_true, ge_iff_le, gt_iff_lt, Nat.succ_eq_add_one, Nat.add_one_sub_one, Nat.zero_lt_succ, Nat.lt_add_left_iff_pos, wipeE, restE, pick, List.filterMap_cons, List.filterMap_nil, u_irg, u_irgB, Int.reduceLE, Int.reduceLT, Int.reduceNeg, u_unT, u_unL, u_unW, u_max, u_min, u_abs, u_tup, u_lst, u_lc, u_app0, u_app, u_ext0, u_ext, u_par2, u_par3, u_zip, u_aug0, u_aug, u_aug2, u_ch, u_ch1, u_ch2, u_ch3, e_int, ne_int, e_bl, ne_bl, q_aa, q_af, q_ac, q_fa, q_ff, q_fc, q_ca, q_cf, q_cc, is_non, is_int, isn_non, isn_int, ix_t0, ix_t1, ix_t2, ix_l0, ix_l1, x_asc, x_kco, x_ite, decide_eq_true_eq, Bool.not_eq_true', decide_eq_false_iff_not, u_srT, u_srL, u_srW, isT, seqV, tupV, lstV, u_join, Option.getD, ce]
theorem law_s2 {FH : Fn} (hh : FH [] = .ok (.fz (.bl true), [])) {a b c d e : Option W} : cIfS (cNotT (cTest (cCallP true FH cNil))) (cRet (cC (.bl false))) cNext [a, b, c, d, e] = .ok (.nx, [a, b, c, d, e]) := by
  simp only [v_bin6, v_bin5, v_bin4, v_bin3, v_bin2, v_bin1, v_bin, v_un3, v_un2, v_un1, v_un, v_test2, v_test1, v_test, v_cons3, v_cons2, v_cons1, v_cons, v_star4, v_star3, v_star2, v_star1, v_star, v_tup2, v_tup1, v_tup, v_lst2, v_lst1, v_lst, v_callB3, v_callB2, v_callB1, v_callB, v_andT1, v_andT, v_orT1, v_orT, v_notT1, v_notT, v_and2, v_and1, v_and, v_or2, v_or1, v_or, v_not2, v_not1, v_not, v_if1, v_if, v_orL1, v_orL, v_seq1, v_seq, v_ifS1, v_ifS, v_ret2, v_ret1, v_ret, v_drop1, v_drop, v_asg3, v_asg2, v_asg1, v_asg, v_gset1, v_gset, v_gsub5, v_gsub4, v_gsub3, v_gsub2, v_gsub1, v_gsub, v_gsc1, v_gsc, v_gsn1, v_gsn, v_for1, v_for, v_forc2, v_forc1, v_forc, v_lcc2, v_lcc1, v_lcc, v_lcT3, v_lcT2, v_lcT1, v_lcT, v_lc4, v_lc1, v_lc, v_def4, v_def3, v_def2, v_def1, v_def, v_callV4, v_callV3, v_callV2, v_callV1, v_callV, v_callP4, v_callP3, v_callP2, v_callP1, v_callP, v_callKV5, v_callKV4, v_callKV3, v_callKV2, v_callKV1, v_callKV, v_callKP5, v_callKP4, v_callKP3, v_callKP2, v_callKP1, v_callKP, v_callIO5, v_callIO4, v_callIO3, v_callIO2, v_callIO1, v_callIO, v_app7, v_app6, v_app5, v_app4, v_app3, v_app2, v_app1, v_app, v_sl6, v_sl5, v_sl4, v_sl3, v_sl2, v_sl1, v_sl, v_oS2, v_oS1, v_oS, v_iseq3, v_iseq2, v_iseq1, v_iseq, v_ienum3, v_ienum2, v_ienum1, v_ienum, v_irg1, v_irg, v_rgTup3, v_rgTup2, v_rgTup1, v_rgTup, v_argsc2, v_argsc1, v_argsc, v_putc1, v_putc, v_takesc2, v_takesc1, v_takesc, v_contsc2, v_contsc1, v_contsc, v_backsI2, v_backsI1, v_backsI, v_binF7, v_binF6, v_binF5, v_binF4, v_binF3, v_binF2, v_binF1, v_binF, v_par22, v_par21, v_par2, v_par32, v_par31, v_par3, v_ext8, v_ext7, v_ext6, v_ext5, v_ext4, v_ext3, v_ext2, v_ext1, v_ext, v_zip2, v_zip1, v_zip, v_irgB3, v_irgB2, v_irgB1, v_irgB, v_rgLst3, v_rgLst2, v_rgLst1, v_rgLst, v_rgTupB5, v_rgTupB4, v_rgTupB3, v_rgTupB2, v_rgTupB1, v_rgTupB, v_rgLstB5, v_rgLstB4, v_rgLstB3, v_rgLstB2, v_rgLstB1, v_rgLstB, v_ok, v_c, v_nil, v_next, v_yes, v_oN, v_gtup, v_var, v_for0, v_lc0, v_args0, v_put0, v_takes0, v_conts0, v_backs0, w_add, w_sub, w_neg, w_lt, w_le, w_gt, w_ge, w_intI, w_intB, w_ix0, w_ix1, w_ix2, w_i0, w_i1, w_i2, pend, cont, take, frz, frzs, getP, setP, Res.of, boolOf, isPl, mutS, mutP, intOf, move, retOf, backs1, put1, fzT, ioOf, chk, early, shut, isTmp, flatB, scal, List.map_cons, List.map_nil, List.cons_append, List.nil_append, List.append_nil, List.replicate_succ, List.replicate_zero, List.replicate, List.length_cons, List.length_nil, List.getElem?_cons_zero, List.getElem?_cons_succ, List.set_cons_zero, List.set_cons_succ, List.all_cons, List.all_nil, List.contains_cons, List.contains_nil, List.elem_cons, List.elem_nil, List.isEmpty_nil, List.isEmpty_cons, Nat.reduceAdd, Nat.reduceSub, Nat.reduceBEq, Nat.reduceLT, Nat.reduceLeDiff, Nat.reduceEqDiff, decide_true, decide_false, Bool.and_true, Bool.true_and, Bool.or_true, Bool.true_or, Bool.or_false, Bool.false_or, Bool.and_false, Bool.false_and, Bool.not_true, Bool.not_false, Bool.false_eq_true, reduceIte, ite_true, ite_false, beq_self_eq_true, Nat.zero_add, reduceCtorEq, and_self, true_and, and_true, ge_iff_le, gt_iff_lt, Nat.succ_eq_add_one, Nat.add_one_sub_one, Nat.zero_lt_succ, Nat.lt_add_left_iff_pos, wipeE, restE, pick, List.filterMap_cons, List.filterMap_nil, u_irg, u_irgB, Int.reduceLE, Int.reduceLT, Int.reduceNeg, u_unT, u_unL, u_unW, u_max, u_min, u_abs, u_tup, u_lst, u_lc, u_app0, u_app, u_ext0, u_ext, u_par2, u_par3, u_zip, u_aug0, u_aug, u_aug2, u_ch, u_ch1, u_ch2, u_ch3, e_int, ne_int, e_bl, ne_bl, q_aa, q_af, q_ac, q_fa, q_ff, q_fc, q_ca, q_cf, q_cc, is_non, is_int, isn_non, isn_int, ix_t0, ix_t1, ix_t2, ix_l0, ix_l1, x_asc, x_kco, x_ite, decide_eq_true_eq, Bool.not_eq_true', decide_eq_false_iff_not, u_srT, u_srL, u_srW, isT, seqV, tupV, lstV, u_join, Option.getD, hh]
theorem rng_ok {s : W} {cs : List Int} (h : cs.length < 100) : iRange1 (cCallB fLen (cCons true (cVar 1) cNil)) [some s, some (cw cs), none, none, none] = .ok (rangeD 0 ((cs.length : Int)).toNat, [some s, some (cw cs), none, none, none]) := by
  have cb : decide (-(2 ^ 62) ≤ ((cs.length : Nat) : Int) ∧ ((cs.length : Nat) : Int) < 2 ^ 62) = true := decide_eq_true (by omega)
  have c0 : cCallB fLen (cCons true (cVar 1) cNil) [some s, some (cw cs), none, none, none] = .ok (.tmp (.fz (.int cs.length)), [some s, some (cw cs), none, none, none]) := by
    simp only [v_bin6, v_bin5, v_bin4, v_bin3, v_bin2, v_bin1, v_bin, v_un3, v_un2, v_un1, v_un, v_test2, v_test1, v_test, v_cons3, v_cons2, v_cons1, v_cons, v_star4, v_star3, v_star2, v_star1, v_star, v_tup2, v_tup1, v_tup, v_lst2, v_lst1, v_lst, v_callB3, v_callB2, v_callB1, v_callB, v_andT1, v_andT, v_orT1, v_orT, v_notT1, v_notT, v_and2, v_and1, v_and, v_or2, v_or1, v_or, v_not2, v_not1, v_not, v_if1, v_if, v_orL1, v_orL, v_seq1, v_seq, v_ifS1, v_ifS, v_ret2, v_ret1, v_ret, v_drop1, v_drop, v_asg3, v_asg2, v_asg1, v_asg, v_gset1, v_gset, v_gsub5, v_gsub4, v_gsub3, v_gsub2, v_gsub1, v_gsub, v_gsc1, v_gsc, v_gsn1, v_gsn, v_for1, v_for, v_forc2, v_forc1, v_forc, v_lcc2, v_lcc1, v_lcc, v_lcT3, v_lcT2, v_lcT1, v_lcT, v_lc4, v_lc1, v_lc, v_def4, v_def3, v_def2, v_def1, v_def, v_callV4, v_callV3, v_callV2, v_callV1, v_callV, v_callP4, v_callP3, v_callP2, v_callP1, v_callP, v_callKV5, v_callKV4, v_callKV3, v_callKV2, v_callKV1, v_callKV, v_callKP5, v_callKP4, v_callKP3, v_callKP2, v_callKP1, v_callKP, v_callIO5, v_callIO4, v_callIO3, v_callIO2, v_callIO1, v_callIO, v_app7, v_app6, v_app5, v_app4, v_app3, v_app2, v_app1, v_app, v_sl6, v_sl5, v_sl4, v_sl3, v_sl2, v_sl1, v_sl, v_oS2, v_oS1, v_oS, v_iseq3, v_iseq2, v_iseq1, v_iseq, v_ienum3, v_ienum2, v_ienum1, v_ienum, v_irg1, v_irg, v_rgTup3, v_rgTup2, v_rgTup1, v_rgTup, v_argsc2, v_argsc1, v_argsc, v_putc1, v_putc, v_takesc2, v_takesc1, v_takesc, v_contsc2, v_contsc1, v_contsc, v_backsI2, v_backsI1, v_backsI, v_binF7, v_binF6, v_binF5, v_binF4, v_binF3, v_binF2, v_binF1, v_binF, v_par22, v_par21, v_par2, v_par32, v_par31, v_par3, v_ext8, v_ext7, v_ext6, v_ext5, v_ext4, v_ext3, v_ext2, v_ext1, v_ext, v_zip2, v_zip1, v_zip, v_irgB3, v_irgB2, v_irgB1, v_irgB, v_rgLst3, v_rgLst2, v_rgLst1, v_rgLst, v_rgTupB5, v_rgTupB4, v_rgTupB3, v_rgTupB2, v_rgTupB1, v_rgTupB, v_rgLstB5, v_rgLstB4, v_rgLstB3, v_rgLstB2, v_rgLstB1, v_rgLstB, v_ok, v_c, v_nil, v_next, v_yes, v_oN, v_gtup, v_var, v_for0, v_lc0, v_args0, v_put0, v_takes0, v_conts0, v_backs0, w_add, w_sub, w_neg, w_lt, w_le, w_gt, w_ge, w_intI, w_intB, w_ix0, w_ix1, w_ix2, w_i0, w_i1, w_i2, pend, cont, take, frz, frzs, getP, setP, Res.of, boolOf, isPl, mutS, mutP, intOf, move, retOf, backs1, put1, fzT, ioOf, chk, early, shut, isTmp, flatB, scal, List.map_cons, List.map_nil, List.cons_append, List.nil_append, List.append_nil, List.replicate_succ, List.replicate_zero, List.replicate, List.length_cons, List.length_nil, List.getElem?_cons_zero, List.getElem?_cons_succ, List.set_cons_zero, List.set_cons_succ, List.all_cons, List.all_nil, List.contains_cons, List.contains_nil, List.elem_cons, List.elem_nil, List.isEmpty_nil, List.isEmpty_cons, Nat.reduceAdd, Nat.reduceSub, Nat.reduceBEq, Nat.reduceLT, Nat.reduceLeDiff, Nat.reduceEqDiff, decide_true, decide_false, Bool.and_true, Bool.true_and, Bool.or_true, Bool.true_or, Bool.or_false, Bool.false_or, Bool.and_false, Bool.false_and, Bool.not_true, Bool.not_false, Bool.false_eq_true, reduceIte, ite_true, ite_false, beq_self_eq_true, Nat.zero_add, reduceCtorEq, and_self, true_and, and_true, ge_iff_le, gt_iff_lt, Nat.succ_eq_add_one, Nat.add_one_sub_one, Nat.zero_lt_succ, Nat.lt_add_left_iff_pos, wipeE, restE, pick, List.filterMap_cons, List.filterMap_nil, u_irg, u_irgB, Int.reduceLE, Int.reduceLT, Int.reduceNeg, u_unT, u_unL, u_unW, u_max, u_min, u_abs, u_tup, u_lst, u_lc, u_app0, u_app, u_ext0, u_ext, u_par2, u_par3, u_zip, u_aug0, u_aug, u_aug2, u_ch, u_ch1, u_ch2, u_ch3, e_int, ne_int, e_bl, ne_bl, q_aa, q_af, q_ac, q_fa, q_ff, q_fc, q_ca, q_cf, q_cc, is_non, is_int, isn_non, isn_int, ix_t0, ix_t1, ix_t2, ix_l0, ix_l1, x_asc, x_kco, x_ite, decide_eq_true_eq, Bool.not_eq_true', decide_eq_false_iff_not, u_srT, u_srL, u_srW, isT, seqV, tupV, lstV, u_join, Option.getD, len_cw]
  have c1 : intOf (.tmp (.fz (.int cs.length))) = .ok (cs.length : Int) := rfl
  rw [v_irg, c0, v_ok, v_irg1, c1, v_ok, v_irg2, cb, cT, v_ok, v_irg3]
theorem law_all (ns : List Int) (hn : ns.length ≤ 63) : ∃ bk, Flaw [.fz (.scr (ns.map D.int))] = .ok (.fz (.bl true), bk) := by
  obtain ⟨cs, c0, c1, ce⟩ := cells_ok (ns := ns) (t := 3) (by decide) (by decide) hn
  have ce' : F_law_cells [.fz (.scr (ns.map D.int)), .fz (.int 3)] = .ok (cw cs, [.fz (.scr (ns.map D.int)), .fz (.int 3)]) := ce
  obtain ⟨w1', o2', o3', e⟩ := law_loop (s := .fz (.scr (ns.map D.int))) (cs := cs) (List.range cs.length) (cw cs) none none (.inl rfl) (fun i hi => List.mem_range.mp hi)
  have lp : cFor (iRange1 (cCallB fLen (cCons true (cVar 1) cNil))) (gSet 2) Llaw_1 [some (.fz (.scr (ns.map D.int))), some (cw cs), none, none, none] = .ok (.nx, [some (.fz (.scr (ns.map D.int))), some w1', o2', o3', none]) := by
    rw [v_for, rng_ok (by omega), v_ok, v_for1, rgD_nat]; exact e
  have h : mlaw [some (.fz (.scr (ns.map D.int))), none, none, none, none] = .ok (.ret (.fz (.bl true)), [some (.fz (.scr (ns.map D.int))), some w1', o2', o3', none]) :=
    seqN (law_s2 hand) (seqN (law_s1 ce' ⟨_, rfl⟩) (seqN lp rfl))
  exact ⟨_, run1 (n := 4) h⟩
end Gn
theorem PySem.Challenge.cw_boundedlevels_k28_events_rows_and_their_holds : PySem.Challenge.rw_boundedlevels_k28_events_rows_and_their.Holds :=
  Gn.law_holds Gn.law_all
