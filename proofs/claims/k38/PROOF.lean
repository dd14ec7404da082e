import PyProof.Rows.All
import HandS.ForMost
import HandS.Star
import HandS.Defaults
import HandS.Slots
import HandS.SlotsOwn
import HandS.Wide
import HandS.TupAny
import HandS.TupMul
import HandS.IsInst
import HandS.Flow
import KE.GoesEnum
import HandS.Zip
import HandS.Conv
import HandS.Style
import HandS.NoneIn
import KE.KOpsOwn
import HandS.HeadHook1
import HandS.HeadHook2
import HandS.Head2
import HandS.Set
import HandS.Strs
import HandS.SetFor
import HandS.SortInts
import HandS.Exc
import HandS.ExcOwn
import HandS.ExcInit
import HandS.ExcField
import KE.KExcIs
import HandS.TryOnly
import HandS.ExcValue
import HandS.Iter
import HandS.HeadHook3
import HandS.TupSets
import HandS.Deep
import HandS.MakeKw
import HandS.ListItems
import HandS.TupLe
import HandS.FStr
import HandS.SortRule
import HandS.ReplaceLit
import HandS.More
import HandS.SortOrd
import KE.SortData
import KE.GoesNew
import HandS.MakeKwOnly
import KE.KCallOwn
import HandS.Flt
import HandS.TupLen
import HandS.Rev
import HandS.WordsDict
import PySem.Challenge.RW_boundedlevels_k38_weavings_of_streams
import Wide.All
import OpenK.AllK
import Wide.FinOn
import KE.KStateDown
import Lean
import HandS.Ends
import HandS.Head0
import HandS.Head1
import HandS.HeadEnd
set_option Elab.async false
set_option linter.all false
set_option maxRecDepth 100000
set_option maxHeartbeats 0
namespace Mi
open PySem PySem.Spec PyProof.Rows L2
structure DefX where
  pl : PySem.W.Frag → Addr
  nm : Str
  ql : Str
  ar : Arguments
  bd : List Stmt
  sc : Scope
  df : List V := []
def xObs (K : PySem.W.Frag) (a : Addr) : He.FnW := match K.lookup a with
  | some ⟨_, _, .func g, _⟩ => some (g.name, g.qualname, g.params, g.body, g.scope, g.globals, g.closure, g.builtins)
  | _ => none
def xVal (d : DefX) : He.FnW := some (d.nm, d.ql, d.ar, .stmts d.bd, d.sc, mainGlobals, [], builtinsNs)
def xOk (K : PySem.W.Frag) (d : DefX) : Bool := PySem.W.keepIn K (.ref (d.pl K)) && match K.lookup (d.pl K) with
  | some ⟨_, _, .func g, _⟩ => PySem.W.codeIn K g.code d.ql && (He.dflB K g.defaults d.df && He.kwdB K g.kwdefaults [])
  | _ => false
abbrev AlX : Type := Bool × List He.FnW
def obsX (fa : List He.Fa) (fx : List DefX) (xb : PySem.W.Frag → Bool) (K : PySem.W.Frag) : AlX := ((fa.all fun f => f.ok K) && (fx.all (xOk K) && xb K), fx.map fun d => xObs K (d.pl K))
def valX (fx : List DefX) : AlX := (true, fx.map xVal)
def SaysX (fa : List He.Fa) (fx : List DefX) (xb : PySem.W.Frag → Bool) (K : PySem.W.Frag) : Prop := obsX fa fx xb K = valX fx
def obsXG (n : Nat) (fa : List He.Fa) (fx : List DefX) (xb : PySem.W.Frag → Bool) (g : Addr → Option Obj) : AlX := obsX fa fx xb (He.frG g (He.asD g n))
def hookX (n : Nat) (fa : List He.Fa) (fx : List DefX) (xb : PySem.W.Frag → Bool) : PySem.W.Hook where
  α := AlX
  obs s := obsXG n fa fx xb s.heap.get?
  val _ := valX fx
  says _ h := ∃ K : PySem.W.Frag, K.In h ∧ SaysX fa fx xb K
  of _ _ e := ⟨_, He.frG_in, e⟩
  keeps _ _ _ := fun ⟨K, hK, c⟩ k => ⟨K, hK.keeps k, c⟩
end Mi
namespace Gn
open Mi PySem PySem.Spec PyProof.Rows L2
def top (i : Nat) : Stmt := PySem.Challenge.pw_boundedlevels_k38_weavings_of_streams.main.body.getD i (.Pass ⟨0, 0, 0, 0⟩)
def D_law_box : DefX := ⟨fun K => He.ga K "_law_box", "_law_box", "_law_box", defArgs (top 7), defBody (top 7), defScope (top 7), []⟩
def D_law_lists : DefX := ⟨fun K => He.ga K "_law_lists", "_law_lists", "_law_lists", defArgs (top 13), defBody (top 13), defScope (top 13), []⟩
def D_law_same : DefX := ⟨fun K => He.ga K "_law_same", "_law_same", "_law_same", defArgs (top 12), defBody (top 12), defScope (top 12), []⟩
def Dis_number : DefX := ⟨fun K => He.ga K "is_number", "is_number", "is_number", defArgs (top 1), defBody (top 1), defScope (top 1), []⟩
def Dis_weaving : DefX := ⟨fun K => He.ga K "is_weaving", "is_weaving", "is_weaving", defArgs (top 4), defBody (top 4), defScope (top 4), []⟩
def Dtupled : DefX := ⟨fun K => He.ga K "tupled", "tupled", "tupled", defArgs (top 2), defBody (top 2), defScope (top 2), []⟩
def Dwoven_row : DefX := ⟨fun K => He.ga K "woven_row", "woven_row", "woven_row", defArgs (top 5), defBody (top 5), defScope (top 5), []⟩
def D_law_by_hand_right : DefX := ⟨fun K => He.ga K "_law_by_hand_right", "_law_by_hand_right", "_law_by_hand_right", defArgs (top 20), defBody (top 20), defScope (top 20), []⟩
def D_law_cells : DefX := ⟨fun K => He.ga K "_law_cells", "_law_cells", "_law_cells", defArgs (top 9), defBody (top 9), defScope (top 9), []⟩
def D_law_take : DefX := ⟨fun K => He.ga K "_law_take", "_law_take", "_law_take", defArgs (top 8), defBody (top 8), defScope (top 8), []⟩
def D_law_of : DefX := ⟨fun K => He.ga K "_law_of", "_law_of", "_law_of", defArgs (top 10), defBody (top 10), defScope (top 10), []⟩
def D_law_bent : DefX := ⟨fun K => He.ga K "_law_bent", "_law_bent", "_law_bent", defArgs (top 19), defBody (top 19), defScope (top 19), []⟩
def D_law_is_meant : DefX := ⟨fun K => He.ga K "_law_is_meant", "_law_is_meant", "_law_is_meant", defArgs (top 18), defBody (top 18), defScope (top 18), []⟩
def D_law_made : DefX := ⟨fun K => He.ga K "_law_made", "_law_made", "_law_made", defArgs (top 17), defBody (top 17), defScope (top 17), []⟩
def D_law_pick : DefX := ⟨fun K => He.ga K "_law_pick", "_law_pick", "_law_pick", defArgs (top 11), defBody (top 11), defScope (top 11), []⟩
def D_law_event : DefX := ⟨fun K => He.ga K "_law_event", "_law_event", "_law_event", defArgs (top 14), defBody (top 14), defScope (top 14), []⟩
def D_law_grown : DefX := ⟨fun K => He.ga K "_law_grown", "_law_grown", "_law_grown", defArgs (top 15), defBody (top 15), defScope (top 15), []⟩
def D_law_streams : DefX := ⟨fun K => He.ga K "_law_streams", "_law_streams", "_law_streams", defArgs (top 16), defBody (top 16), defScope (top 16), []⟩
def D_law_right : DefX := ⟨fun K => He.ga K "_law_right", "_law_right", "_law_right", defArgs (top 21), defBody (top 21), defScope (top 21), []⟩
def Dlaw : DefX := ⟨fun K => He.ga K "law", "law", "law", defArgs (top 22), defBody (top 22), defScope (top 22), []⟩
def fnl : List DefX := [D_law_box, D_law_lists, D_law_same, Dis_number, Dis_weaving, Dtupled, Dwoven_row, D_law_by_hand_right, D_law_cells, D_law_take, D_law_of, D_law_bent, D_law_is_meant, D_law_made, D_law_pick, D_law_event, D_law_grown, D_law_streams, D_law_right, Dlaw]
def fal : List He.Fa := [.glo "_law_box", .glo "_law_lists", .glo "_law_same", .glo "is_number", .glo "is_weaving", .glo "tupled", .glo "woven_row", .glo "_law_by_hand_right", .glo "_law_cells", .glo "_law_take", .glo "_law_of", .glo "_law_bent", .glo "_law_is_meant", .glo "_law_made", .glo "_law_pick", .glo "_law_event", .glo "_law_grown", .glo "_law_streams", .glo "_law_right", .glo "law", .free "abs", .free "all", .free "any", .free "bool", .free "enumerate", .free "int", .free "isinstance", .free "len", .free "list", .free "max", .free "min", .free "range", .free "reversed", .free "set", .free "sorted", .free "str", .free "sum", .free "tuple", .free "zip"]
def xb : PySem.W.Frag → Bool := fun _ => true
abbrev Rr : PySem.W.OpenRow := PySem.W.OpenLaw.row PySem.Challenge.rw_boundedlevels_k38_weavings_of_streams
abbrev hk : PySem.W.Hook := hookX 4 fal fnl xb
def ob (s : PySem.W.SharedT) : AlX := obsXG 4 fal fnl xb (HandSHeadRun.getT s)
theorem hrun (w : World) : HandSHeadRun.RunEq Rr (PySem.W.view Rr.prog [22]) hk ob 2700 ["is_number", "tupled", "is_weaving", "woven_row", "_law_box", "_law_take", "_law_cells", "_law_of", "_law_pick", "_law_same", "_law_lists", "_law_event", "_law_grown", "_law_streams", "_law_made", "_law_is_meant", "_law_bent", "_law_by_hand_right", "_law_right"] w := by
  intro os
  kernel_rfl
end Gn
namespace Mi
open PySem PySem.Spec PyProof.Rows L2
inductive D where
  | non | bl (b : Bool) | int (i : Int) | str (s : Str)
  | tup (xs : List D) | lst (xs : List D) | obj (c : Nat) (fs : List D)
  /-- the script: a list that is only read -/
  | scr (xs : List D)
  /-- a caught exception of a class of the text, with those of its fields that hold numbers -/
  | exc (c : Nat) (fs : List (Str × Int))
  /-- .. with those of its fields that hold texts -/
  | exs (c : Nat) (fs : List (Str × Str))
  /-- a dict that is only read: its keys, what they lead to -/
  | dct (ks : List Key) (ds : List D)
  /-- .. whose keys are tuples -/
  | dtt (ks : List (List Key)) (ds : List D)
  /-- a tuple that is tracked: it may be a key -/
  | ktp (ks : List Key)
  /-- a tuple with no dict of its own -/
  | tpn (xs : List D)
structure Cfg where
  K : PySem.W.Frag
  cl : Nat → Addr
abbrev AP := Addr → Prop
abbrev Sg := L2.St
def Keep (H : Hp) (O : AP) (H' : Hp) (O' : AP) : Prop := ∀ a o, H a = some o → ¬ O a → H' a = some o ∧ ¬ O' a
def Tp (C : Cfg) (H : Hp) (O : AP) (a : Addr) (xs : List V) : Prop :=
  (Rd H a (.tup xs) ∧ ¬ O a) ∨
    ∃ (o : Obj) (its : Array Value) (n : Nat), C.K.lookup a = some o ∧ o.cls = .type "tuple" ∧ o.data = .seq its n ∧ its.size ≤ sizeLine ∧ Vals xs its.toList
theorem Tp.sq {C : Cfg} {H : Hp} {O : AP} {a : Addr} {xs : List V} (h : Tp C H O a xs) : SqT C.K H a xs := by
  rcases h with ⟨h, _⟩ | h
  · exact .inl h
  · exact .inr h
theorem Rd.keep {H H' : Hp} {O O' : AP} {a : Addr} {u : HO} (k : Keep H O H' O') (h : Rd H a u) (n : ¬ O a) : Rd H' a u ∧ ¬ O' a := by
  rcases h with h | ⟨o, h⟩
  · obtain ⟨q, r⟩ := k _ _ h n; exact ⟨.inl q, r⟩
  · obtain ⟨q, r⟩ := k _ _ h n; exact ⟨.inr ⟨o, q⟩, r⟩
theorem Tp.keep {C : Cfg} {H H' : Hp} {O O' : AP} {a : Addr} {xs : List V} (k : Keep H O H' O') (h : Tp C H O a xs) : Tp C H' O' a xs := by
  rcases h with ⟨h, n⟩ | h
  · exact .inl (Rd.keep k h n)
  · exact .inr h
def Sc (C : Cfg) (H : Hp) (O : AP) (a : Addr) (xs : List V) : Prop :=
  (Rd H a (.lst xs) ∧ ¬ O a) ∨
    ∃ (o : Obj) (its : Array Value) (n : Nat), C.K.lookup a = some o ∧ o.cls = .type "list" ∧ o.dict = none ∧ o.data = .seq its n ∧ its.size ≤ sizeLine ∧ Vals xs its.toList
theorem Sc.sq {C : Cfg} {H : Hp} {O : AP} {a : Addr} {xs : List V} (h : Sc C H O a xs) : SqL C.K H a xs := by
  rcases h with ⟨h, _⟩ | h
  · exact .inl h
  · exact .inr h
theorem Sc.keep {C : Cfg} {H H' : Hp} {O O' : AP} {a : Addr} {xs : List V} (k : Keep H O H' O') (h : Sc C H O a xs) : Sc C H' O' a xs := by
  rcases h with ⟨h, n⟩ | h
  · exact .inl (Rd.keep k h n)
  · exact .inr h
def exk (a C dd : Addr) : HO := .ext fun h => ∃ (oe : Obj) (vs : Array Value), h.get? a = some oe ∧ oe.cls = .ref C ∧ oe.dict = some dd ∧ oe.data = .fields vs
def hole (c i : Nat) : Bool := decide (i + 1 = c / 100)
def Cov (c : Nat) (xs : List V) (vs : List (Option V)) : Prop := ∀ i x, hole c i = false → xs[i]? = some x → vs[i]? = some (some x)
def Slo (C : Cfg) (H : Hp) (a : Addr) (c : Nat) (dx : Addr) (xs : List V) : Prop := ∃ vs, H a = some (SlX.SlO a (C.cl c) dx vs) ∧ Cov c xs vs
mutual
def RepD (C : Cfg) (H : Hp) (O : AP) : D → V → Prop
  | .non, v => v = .non
  | .bl b, v => v = .bl b
  | .int i, v => v = .int i
  | .str s, v => v = .str s
  | .tup ds, v => ∃ a xs, v = .ref a ∧ Tp C H O a xs ∧ RepDs C H O ds xs
  | .lst ds, v => ∃ a xs, v = .ref a ∧ H a = some (.lst xs) ∧ ¬ O a ∧ RepDs C H O ds xs
  | .scr ds, v => ∃ a xs, v = .ref a ∧ Sc C H O a xs ∧ RepDs C H O ds xs
  | .obj c fs, v => ∃ a dx xs, v = .ref a ∧ H dx = some (.xd []) ∧ dx ≠ a ∧ Slo C H a c dx xs ∧ ¬ O a ∧ ¬ O dx ∧ RepDs C H O fs xs
  | .exc c fs, v => ∃ (a dd : Addr) (gs : List (Str × V)), v = .ref a ∧ H a = some (exk a (C.cl c) dd) ∧ H dd = some (.xd gs) ∧ ¬ O a ∧ ¬ O dd ∧ ∀ p ∈ fs, gs.lookup p.1 = some (V.int p.2)
  | .exs c fs, v => ∃ (a dd : Addr) (gs : List (Str × V)), v = .ref a ∧ H a = some (exk a (C.cl c) dd) ∧ H dd = some (.xd gs) ∧ ¬ O a ∧ ¬ O dd ∧ ∀ p ∈ fs, gs.lookup p.1 = some (V.str p.2)
  | .dct ks ds, v => ∃ a xs, v = .ref a ∧ H a = some (.dK (ks.zip xs)) ∧ ¬ O a ∧ RepDs C H O ds xs
  | .dtt ks ds, v => ∃ a xs, v = .ref a ∧ H a = some (.dT (ks.zip xs)) ∧ ¬ O a ∧ RepDs C H O ds xs
  | .ktp ks, v => ∃ a, v = .ref a ∧ H a = some (.tup (ks.map kV)) ∧ ¬ O a
  | .tpn ds, v => ∃ (a : Addr) (o : Obj) (xs : List V), v = .ref a ∧ H a = some (.frz o (.tup xs)) ∧ o.dict = none ∧ ¬ O a ∧ RepDs C H O ds xs
def RepDs (C : Cfg) (H : Hp) (O : AP) : List D → List V → Prop
  | [], xs => xs = []
  | d :: ds, xs => ∃ x r, xs = x :: r ∧ RepD C H O d x ∧ RepDs C H O ds r
end
mutual
theorem RepD.keep {C : Cfg} {H H' : Hp} {O O' : AP} (k : Keep H O H' O') : ∀ (d : D) (v : V), RepD C H O d v → RepD C H' O' d v
  | .non, v, h => h
  | .bl b, v, h => h
  | .int i, v, h => h
  | .str s, v, h => h
  | .tup ds, v, h => by
    obtain ⟨a, xs, e, t, r⟩ := h
    exact ⟨a, xs, e, t.keep k, RepDs.keep k ds xs r⟩
  | .lst ds, v, h => by
    obtain ⟨a, xs, e, t, n, r⟩ := h
    obtain ⟨t', n'⟩ := k _ _ t n
    exact ⟨a, xs, e, t', n', RepDs.keep k ds xs r⟩
  | .scr ds, v, h => by
    obtain ⟨a, xs, e, t, r⟩ := h
    exact ⟨a, xs, e, t.keep k, RepDs.keep k ds xs r⟩
  | .obj c fs, v, h => by
    obtain ⟨a, dx, xs, e, h1, h2, ⟨vs, h3, cv⟩, n1, n2, r⟩ := h
    exact ⟨a, dx, xs, e, (k _ _ h1 n2).1, h2, ⟨vs, (k _ _ h3 n1).1, cv⟩, (k _ _ h3 n1).2, (k _ _ h1 n2).2, RepDs.keep k fs xs r⟩
  | .exc c fs, v, h => by
    obtain ⟨a, dd, gs, e, h1, h2, n1, n2, r⟩ := h
    exact ⟨a, dd, gs, e, (k _ _ h1 n1).1, (k _ _ h2 n2).1, (k _ _ h1 n1).2, (k _ _ h2 n2).2, r⟩
  | .exs c fs, v, h => by
    obtain ⟨a, dd, gs, e, h1, h2, n1, n2, r⟩ := h
    exact ⟨a, dd, gs, e, (k _ _ h1 n1).1, (k _ _ h2 n2).1, (k _ _ h1 n1).2, (k _ _ h2 n2).2, r⟩
  | .dct ks ds, v, h => by
    obtain ⟨a, xs, e, t, n, r⟩ := h
    obtain ⟨t', n'⟩ := k _ _ t n
    exact ⟨a, xs, e, t', n', RepDs.keep k ds xs r⟩
  | .dtt ks ds, v, h => by
    obtain ⟨a, xs, e, t, n, r⟩ := h
    obtain ⟨t', n'⟩ := k _ _ t n
    exact ⟨a, xs, e, t', n', RepDs.keep k ds xs r⟩
  | .ktp ks, v, h => by
    obtain ⟨a, e, t, n⟩ := h
    obtain ⟨t', n'⟩ := k _ _ t n
    exact ⟨a, e, t', n'⟩
  | .tpn ds, v, h => by
    obtain ⟨a, o, xs, e, t, d, n, r⟩ := h
    obtain ⟨t', n'⟩ := k _ _ t n
    exact ⟨a, o, xs, e, t', d, n', RepDs.keep k ds xs r⟩
theorem RepDs.keep {C : Cfg} {H H' : Hp} {O O' : AP} (k : Keep H O H' O') : ∀ (ds : List D) (xs : List V), RepDs C H O ds xs → RepDs C H' O' ds xs
  | [], xs, h => h
  | d :: ds, xs, h => by
    obtain ⟨x, r, e, h1, h2⟩ := h
    exact ⟨x, r, e, RepD.keep k d x h1, RepDs.keep k ds r h2⟩
end
theorem RepDs.length {C : Cfg} {H : Hp} {O : AP} : ∀ {ds : List D} {xs : List V}, RepDs C H O ds xs → xs.length = ds.length
  | [], _, h => by rw [show _ = [] from h]; rfl
  | d :: ds, xs, h => by
    obtain ⟨x, r, e, _, h2⟩ := h
    rw [e, List.length_cons, List.length_cons, RepDs.length h2]
theorem RepDs.get {C : Cfg} {H : Hp} {O : AP} : ∀ {ds : List D} {xs : List V} {i : Nat} {d : D}, RepDs C H O ds xs → ds[i]? = some d → ∃ x, xs[i]? = some x ∧ RepD C H O d x
  | [], _, _, _, _, e => by simp at e
  | d :: ds, xs, 0, d', h, e => by
    obtain ⟨x, r, e1, h1, h2⟩ := h
    simp at e; subst e; subst e1
    exact ⟨x, by simp, h1⟩
  | d :: ds, xs, i + 1, d', h, e => by
    obtain ⟨x, r, e1, h1, h2⟩ := h
    subst e1
    obtain ⟨y, q1, q2⟩ := RepDs.get (i := i) h2 (by simpa using e)
    exact ⟨y, by simpa using q1, q2⟩
theorem RepDs.nil {C : Cfg} {H : Hp} {O : AP} : RepDs C H O [] [] := rfl
theorem RepDs.cons {C : Cfg} {H : Hp} {O : AP} {d : D} {x : V} {ds : List D} {xs : List V} (h : RepD C H O d x) (r : RepDs C H O ds xs) : RepDs C H O (d :: ds) (x :: xs) := ⟨x, xs, rfl, h, r⟩
theorem RepDs.append {C : Cfg} {H : Hp} {O : AP} : ∀ {ds : List D} {xs : List V} {es : List D} {ys : List V}, RepDs C H O ds xs → RepDs C H O es ys → RepDs C H O (ds ++ es) (xs ++ ys)
  | [], xs, es, ys, h, g => by rw [show xs = [] from h]; exact g
  | d :: ds, xs, es, ys, h, g => by
    obtain ⟨x, r, e, h1, h2⟩ := h
    subst e
    exact .cons h1 (RepDs.append h2 g)
theorem RepDs.take {C : Cfg} {H : Hp} {O : AP} : ∀ {ds : List D} {xs : List V} (n : Nat), RepDs C H O ds xs → RepDs C H O (ds.take n) (xs.take n)
  | [], xs, n, h => by rw [show xs = [] from h]; simp [RepDs]
  | d :: ds, xs, 0, h => by simp [RepDs]
  | d :: ds, xs, n + 1, h => by
    obtain ⟨x, r, e, h1, h2⟩ := h
    subst e
    exact .cons h1 (RepDs.take n h2)
theorem RepDs.drop {C : Cfg} {H : Hp} {O : AP} : ∀ {ds : List D} {xs : List V} (n : Nat), RepDs C H O ds xs → RepDs C H O (ds.drop n) (xs.drop n)
  | [], xs, n, h => by rw [show xs = [] from h]; simp [RepDs]
  | d :: ds, xs, 0, h => by simpa using h
  | d :: ds, xs, n + 1, h => by
    obtain ⟨x, r, e, h1, h2⟩ := h
    subst e
    simpa using RepDs.drop n h2
inductive DM where
  | k (ks : List Key) (ds : List D)
  | t (ks : List (List Key)) (ds : List D)
def DM.frz : DM → D
  | .k ks ds => .dct ks ds
  | .t ks ds => .dtt ks ds
def RepM (C : Cfg) (H : Hp) (O : AP) : DM → Addr → Prop
  | .k ks ds, a => ∃ xs, H a = some (.dK (ks.zip xs)) ∧ xs.length = ks.length ∧ RepDs C H O ds xs
  | .t ks ds, a => ∃ xs, H a = some (.dT (ks.zip xs)) ∧ xs.length = ks.length ∧ RepDs C H O ds xs
theorem RepM.ex {C : Cfg} {H : Hp} {O : AP} {m : DM} {a : Addr} (h : RepM C H O m a) : ∃ o, H a = some o := by
  cases m with
  | k ks ds => obtain ⟨xs, e, _⟩ := h; exact ⟨_, e⟩
  | t ks ds => obtain ⟨xs, e, _⟩ := h; exact ⟨_, e⟩
theorem RepM.keep {C : Cfg} {H H' : Hp} {O O' : AP} {m : DM} {a : Addr} (k : Keep H O H' O') (ha : ∀ o, H a = some o → H' a = some o) (h : RepM C H O m a) : RepM C H' O' m a := by
  cases m with
  | k ks ds => obtain ⟨xs, e, l, r⟩ := h; exact ⟨xs, ha _ e, l, RepDs.keep k ds xs r⟩
  | t ks ds => obtain ⟨xs, e, l, r⟩ := h; exact ⟨xs, ha _ e, l, RepDs.keep k ds xs r⟩
theorem RepM.frz {C : Cfg} {H : Hp} {O O' : AP} {m : DM} {a : Addr} (k : ∀ b, O' b → O b) (n : ¬ O' a) (h : RepM C H O m a) : RepD C H O' m.frz (.ref a) := by
  have kp : Keep H O H O' := fun b o e nb => ⟨e, fun q => nb (k b q)⟩
  cases m with
  | k ks ds => obtain ⟨xs, e, l, r⟩ := h; exact ⟨a, xs, rfl, e, n, RepDs.keep kp ds xs r⟩
  | t ks ds => obtain ⟨xs, e, l, r⟩ := h; exact ⟨a, xs, rfl, e, n, RepDs.keep kp ds xs r⟩
inductive W where
  | fz (d : D)
  | lst (ws : List W)
  /-- an object with slots that one place alone holds -/
  | ob (c : Nat) (fs : List D)
  | di (m : DM)
mutual
def frz : W → D
  | .fz d => d
  | .lst ws => .lst (frzs ws)
  | .ob c fs => .obj c fs
  | .di m => m.frz
def frzs : List W → List D
  | [] => []
  | w :: ws => frz w :: frzs ws
end
theorem frzs_map : ∀ ws : List W, frzs ws = ws.map frz
  | [] => rfl
  | w :: ws => by rw [frzs, frzs_map ws]; rfl
theorem frzs_fz : ∀ ds : List D, frzs (ds.map W.fz) = ds
  | [] => rfl
  | d :: ds => by show frz (.fz d) :: frzs (ds.map W.fz) = _; rw [frzs_fz ds]; rfl
mutual
def RepW (C : Cfg) (H : Hp) (O : AP) : W → V → List Addr → Prop
  | .fz d, v, L => L = [] ∧ RepD C H O d v
  | .lst ws, v, L => ∃ a xs L', v = .ref a ∧ H a = some (.lst xs) ∧ O a ∧ L = a :: L' ∧ RepWs C H O ws xs L'
  | .ob c fs, v, L => ∃ a dx xs, v = .ref a ∧ H dx = some (.xd []) ∧ dx ≠ a ∧ Slo C H a c dx xs ∧ O a ∧ ¬ O dx ∧ L = [a] ∧ RepDs C H O fs xs
  | .di m, v, L => ∃ a, v = .ref a ∧ O a ∧ L = [a] ∧ RepM C H O m a
def RepWs (C : Cfg) (H : Hp) (O : AP) : List W → List V → List Addr → Prop
  | [], xs, L => xs = [] ∧ L = []
  | w :: ws, xs, L => ∃ x r L1 L2, xs = x :: r ∧ L = L1 ++ L2 ∧ RepW C H O w x L1 ∧ RepWs C H O ws r L2
end
structure KeepL (H : Hp) (O : AP) (H' : Hp) (O' : AP) (L : List Addr) : Prop where
  k : Keep H O H' O'
  l : ∀ a ∈ L, ∀ o, H a = some o → H' a = some o ∧ O' a
theorem KeepL.sub {H H' : Hp} {O O' : AP} {L L' : List Addr} (h : KeepL H O H' O' L) (s : ∀ a ∈ L', a ∈ L) : KeepL H O H' O' L' := ⟨h.k, fun a ha o e => h.l a (s a ha) o e⟩
mutual
theorem RepW.keep {C : Cfg} {H H' : Hp} {O O' : AP} : ∀ (w : W) (v : V) (L : List Addr), KeepL H O H' O' L → RepW C H O w v L → RepW C H' O' w v L
  | .fz d, v, L, k, h => ⟨h.1, RepD.keep k.k d v h.2⟩
  | .lst ws, v, L, k, h => by
    obtain ⟨a, xs, L', e, h1, h2, h3, r⟩ := h
    subst h3
    obtain ⟨q1, q2⟩ := k.l a (by simp) _ h1
    exact ⟨a, xs, L', e, q1, q2, rfl, RepWs.keep ws xs L' (k.sub fun b hb => by simp [hb]) r⟩
  | .ob c fs, v, L, k, h => by
    obtain ⟨a, dx, xs, e, h1, h2, ⟨vs, h3, cv⟩, h4, h5, h6, r⟩ := h
    subst h6
    obtain ⟨q1, q2⟩ := k.l a (by simp) _ h3
    obtain ⟨p1, p2⟩ := k.k _ _ h1 h5
    exact ⟨a, dx, xs, e, p1, h2, ⟨vs, q1, cv⟩, q2, p2, rfl, RepDs.keep k.k fs xs r⟩
  | .di m, v, L, k, h => by
    obtain ⟨a, e, h1, h2, r⟩ := h
    subst h2
    obtain ⟨o, eo⟩ := r.ex
    obtain ⟨q1, q2⟩ := k.l a (by simp) o eo
    exact ⟨a, e, q2, rfl, r.keep k.k fun o eo => (k.l a (by simp) o eo).1⟩
theorem RepWs.keep {C : Cfg} {H H' : Hp} {O O' : AP} : ∀ (ws : List W) (xs : List V) (L : List Addr), KeepL H O H' O' L → RepWs C H O ws xs L → RepWs C H' O' ws xs L
  | [], xs, L, k, h => h
  | w :: ws, xs, L, k, h => by
    obtain ⟨x, r, L1, L2, e, e2, h1, h2⟩ := h
    subst e2
    exact ⟨x, r, L1, L2, e, rfl, RepW.keep w x L1 (k.sub fun b hb => by simp [hb]) h1, RepWs.keep ws r L2 (k.sub fun b hb => by simp [hb]) h2⟩
end
mutual
theorem RepW.own {C : Cfg} {H : Hp} {O : AP} : ∀ (w : W) (v : V) (L : List Addr), RepW C H O w v L → ∀ a ∈ L, O a ∧ ∃ xs, H a = some xs
  | .fz d, v, L, h, a, ha => by rw [h.1] at ha; simp at ha
  | .ob c fs, v, L, h, a, ha => by
    obtain ⟨b, dx, xs, e, h1, h2, ⟨vs, h3, cv⟩, h4, h5, h6, r⟩ := h
    subst h6
    rcases List.mem_singleton.mp ha with rfl
    exact ⟨h4, _, h3⟩
  | .di m, v, L, h, a, ha => by
    obtain ⟨b, e, h1, h2, r⟩ := h
    subst h2
    rcases List.mem_singleton.mp ha with rfl
    exact ⟨h1, r.ex⟩
  | .lst ws, v, L, h, a, ha => by
    obtain ⟨b, xs, L', e, h1, h2, h3, r⟩ := h
    subst h3
    rcases List.mem_cons.mp ha with rfl | ha
    · exact ⟨h2, _, h1⟩
    · exact RepWs.own ws xs L' r a ha
theorem RepWs.own {C : Cfg} {H : Hp} {O : AP} : ∀ (ws : List W) (xs : List V) (L : List Addr), RepWs C H O ws xs L → ∀ a ∈ L, O a ∧ ∃ xs, H a = some xs
  | [], xs, L, h, a, ha => by rw [h.2] at ha; simp at ha
  | w :: ws, xs, L, h, a, ha => by
    obtain ⟨x, r, L1, L2, e, e2, h1, h2⟩ := h
    subst e2
    rcases List.mem_append.mp ha with ha | ha
    · exact RepW.own w x L1 h1 a ha
    · exact RepWs.own ws r L2 h2 a ha
end
mutual
theorem RepW.frz {C : Cfg} {H : Hp} {O O' : AP} : ∀ (w : W) (v : V) (L : List Addr), (∀ a, O' a → O a ∧ a ∉ L) → RepW C H O w v L → RepD C H O' (frz w) v
  | .fz d, v, L, k, h => RepD.keep (fun a o e n => ⟨e, fun q => n (k a q).1⟩) d v h.2
  | .lst ws, v, L, k, h => by
    obtain ⟨a, xs, L', e, h1, h2, h3, r⟩ := h
    subst h3
    exact ⟨a, xs, e, h1, fun q => (k a q).2 (by simp), RepWs.frz ws xs L' (fun b q => ⟨(k b q).1, fun z => (k b q).2 (by simp [z])⟩) r⟩
  | .ob c fs, v, L, k, h => by
    obtain ⟨a, dx, xs, e, h1, h2, h3, h4, h5, h6, r⟩ := h
    subst h6
    exact ⟨a, dx, xs, e, h1, h2, h3, fun q => (k a q).2 (by simp), fun q => h5 (k dx q).1, RepDs.keep (fun a o e n => ⟨e, fun q => n (k a q).1⟩) fs xs r⟩
  | .di m, v, L, k, h => by
    obtain ⟨a, e, h1, h2, r⟩ := h
    subst e
    subst h2
    exact r.frz (fun b q => (k b q).1) fun q => (k a q).2 (by simp)
theorem RepWs.frz {C : Cfg} {H : Hp} {O O' : AP} : ∀ (ws : List W) (xs : List V) (L : List Addr), (∀ a, O' a → O a ∧ a ∉ L) → RepWs C H O ws xs L → RepDs C H O' (frzs ws) xs
  | [], xs, L, k, h => h.1
  | w :: ws, xs, L, k, h => by
    obtain ⟨x, r, L1, L2, e, e2, h1, h2⟩ := h
    subst e2
    exact ⟨x, r, e, RepW.frz w x L1 (fun b q => ⟨(k b q).1, fun z => (k b q).2 (by simp [z])⟩) h1, RepWs.frz ws r L2 (fun b q => ⟨(k b q).1, fun z => (k b q).2 (by simp [z])⟩) h2⟩
end
theorem RepWs.length {C : Cfg} {H : Hp} {O : AP} : ∀ {ws : List W} {xs : List V} {L : List Addr}, RepWs C H O ws xs L → xs.length = ws.length
  | [], _, _, h => by rw [h.1]; rfl
  | w :: ws, xs, L, h => by
    obtain ⟨x, r, _, _, e, _, _, h2⟩ := h
    rw [e, List.length_cons, List.length_cons, RepWs.length h2]
theorem RepWs.append {C : Cfg} {H : Hp} {O : AP} : ∀ {ws us : List W} {xs ys : List V} {L M : List Addr}, RepWs C H O ws xs L → RepWs C H O us ys M → RepWs C H O (ws ++ us) (xs ++ ys) (L ++ M)
  | [], us, xs, ys, L, M, h, g => by rw [h.1, h.2]; exact g
  | w :: ws, us, xs, ys, L, M, h, g => by
    obtain ⟨x, r, L1, L2, e, e2, h1, h2⟩ := h
    subst e; subst e2
    exact ⟨x, r ++ ys, L1, L2 ++ M, rfl, by rw [List.append_assoc], h1, RepWs.append h2 g⟩
theorem RepWs.one {C : Cfg} {H : Hp} {O : AP} {w : W} {x : V} {L : List Addr} (h : RepW C H O w x L) : RepWs C H O [w] [x] L := ⟨x, [], L, [], rfl, by simp, h, rfl, rfl⟩
theorem RepWs.ofD {C : Cfg} {H : Hp} {O : AP} : ∀ {ds : List D} {xs : List V}, RepDs C H O ds xs → RepWs C H O (ds.map W.fz) xs []
  | [], xs, h => ⟨h, rfl⟩
  | d :: ds, xs, h => by
    obtain ⟨x, r, e, h1, h2⟩ := h
    exact ⟨x, r, [], [], e, rfl, ⟨rfl, h1⟩, RepWs.ofD h2⟩
theorem RepWs.toD {C : Cfg} {H : Hp} {O : AP} : ∀ {ds : List D} {xs : List V} {L : List Addr}, RepWs C H O (ds.map W.fz) xs L → RepDs C H O ds xs ∧ L = []
  | [], xs, L, h => h
  | d :: ds, xs, L, h => by
    obtain ⟨x, r, L1, L2, e, e2, h1, h2⟩ := h
    obtain ⟨q1, q2⟩ := RepWs.toD h2
    exact ⟨⟨x, r, e, h1.2, q1⟩, by rw [e2, h1.1, q2]; rfl⟩
abbrev En := List (Option W)
def SlotR (C : Cfg) (H : Hp) (O : AP) : Option W → Option V → List Addr → Prop
  | none, _, L => L = []
  | some w, y, L => ∃ v, y = some v ∧ RepW C H O w v L
def EnvR (C : Cfg) (H : Hp) (O : AP) : En → Sg → List Addr → Prop
  | [], σ, L => σ = [] ∧ L = []
  | x :: ρ, σ, L => ∃ y r L1 L2, σ = y :: r ∧ L = L1 ++ L2 ∧ SlotR C H O x y L1 ∧ EnvR C H O ρ r L2
theorem SlotR.keep {C : Cfg} {H H' : Hp} {O O' : AP} {x : Option W} {y : Option V} {L : List Addr} (k : KeepL H O H' O' L) (h : SlotR C H O x y L) : SlotR C H' O' x y L := by
  cases x with
  | none => exact h
  | some w => obtain ⟨v, e, r⟩ := h; exact ⟨v, e, RepW.keep w v L k r⟩
theorem EnvR.keep {C : Cfg} {H H' : Hp} {O O' : AP} : ∀ {ρ : En} {σ : Sg} {L : List Addr}, KeepL H O H' O' L → EnvR C H O ρ σ L → EnvR C H' O' ρ σ L
  | [], σ, L, k, h => h
  | x :: ρ, σ, L, k, h => by
    obtain ⟨y, r, L1, L2, e, e2, h1, h2⟩ := h
    subst e2
    exact ⟨y, r, L1, L2, e, rfl, h1.keep (k.sub fun b hb => by simp [hb]), EnvR.keep (k.sub fun b hb => by simp [hb]) h2⟩
theorem EnvR.own {C : Cfg} {H : Hp} {O : AP} : ∀ {ρ : En} {σ : Sg} {L : List Addr}, EnvR C H O ρ σ L → ∀ a ∈ L, O a ∧ ∃ xs, H a = some xs
  | [], σ, L, h, a, ha => by rw [h.2] at ha; simp at ha
  | x :: ρ, σ, L, h, a, ha => by
    obtain ⟨y, r, L1, L2, e, e2, h1, h2⟩ := h
    subst e2
    rcases List.mem_append.mp ha with ha | ha
    · cases x with
      | none => rw [show L1 = [] from h1] at ha; simp at ha
      | some w => obtain ⟨v, _, r'⟩ := h1; exact RepW.own w v L1 r' a ha
    · exact EnvR.own h2 a ha
theorem EnvR.length {C : Cfg} {H : Hp} {O : AP} : ∀ {ρ : En} {σ : Sg} {L : List Addr}, EnvR C H O ρ σ L → σ.length = ρ.length
  | [], _, _, h => by rw [h.1]; rfl
  | x :: ρ, σ, L, h => by
    obtain ⟨y, r, L1, L2, e, e2, h1, h2⟩ := h
    rw [e, List.length_cons, List.length_cons, EnvR.length h2]
theorem EnvR.focus {C : Cfg} {H : Hp} {O : AP} : ∀ {ρ : En} {σ : Sg} {L : List Addr} {i : Nat} {x : Option W}, EnvR C H O ρ σ L → ρ[i]? = some x →
    ∃ y L1 L0, σ[i]? = some y ∧ SlotR C H O x y L1 ∧ L.Perm (L1 ++ L0) ∧
      ∀ (H' : Hp) (O' : AP) (x' : Option W) (y' : Option V) (L1' : List Addr), KeepL H O H' O' L0 → SlotR C H' O' x' y' L1' → ∃ L', L'.Perm (L1' ++ L0) ∧ EnvR C H' O' (ρ.set i x') (σ.set i y') L'
  | [], _, _, _, _, _, e => by simp at e
  | x :: ρ, σ, L, 0, x0, h, e => by
    obtain ⟨y, r, L1, L2, e1, e2, h1, h2⟩ := h
    simp at e
    subst e; subst e1; subst e2
    refine ⟨y, L1, L2, by simp, h1, .refl _, fun H' O' x' y' L1' k s => ⟨L1' ++ L2, .refl _, ?_⟩⟩
    exact ⟨y', r, L1', L2, rfl, rfl, s, EnvR.keep k h2⟩
  | x :: ρ, σ, L, i + 1, x0, h, e => by
    obtain ⟨y, r, L1, L2, e1, e2, h1, h2⟩ := h
    subst e1; subst e2
    obtain ⟨y0, M1, M0, q1, q2, q3, q4⟩ := EnvR.focus (i := i) h2 (by simpa using e)
    refine ⟨y0, M1, L1 ++ M0, by simpa using q1, q2, ?_, fun H' O' x' y' L1' k s => ?_⟩
    · refine (List.Perm.append_left L1 q3).trans ?_
      rw [← List.append_assoc, ← List.append_assoc]
      exact List.Perm.append_right M0 List.perm_append_comm
    · obtain ⟨L', p, z⟩ := q4 H' O' x' y' L1' (k.sub fun b hb => by simp [hb]) s
      refine ⟨L1 ++ L', ?_, ⟨y, r.set i y', L1, L', by simp, rfl, h1.keep (k.sub fun b hb => by simp [hb]), z⟩⟩
      refine (List.Perm.append_left L1 p).trans ?_
      rw [← List.append_assoc, ← List.append_assoc]
      exact List.Perm.append_right M0 List.perm_append_comm
theorem EnvR.nones {C : Cfg} {H : Hp} {O : AP} : ∀ (n : Nat) (σ : Sg), σ.length = n → EnvR C H O (List.replicate n none) σ []
  | 0, σ, h => by
    cases σ with
    | nil => exact ⟨rfl, rfl⟩
    | cons x r => simp at h
  | n + 1, σ, h => by
    cases σ with
    | nil => simp at h
    | cons x r => exact ⟨x, r, [], [], rfl, rfl, rfl, EnvR.nones n r (by simpa using h)⟩
structure Stp (H : Hp) (O : AP) (L : List Addr) (H' : Hp) (O' : AP) (L' : List Addr) : Prop where
  fr : ∀ a o, H a = some o → a ∉ L → H' a = some o
  nw : ∀ a, O' a → O a ∨ H a = none
  ol : ∀ a o, H a = some o → O a → a ∉ L → O' a
  ll : ∀ a ∈ L', a ∈ L ∨ H a = none
  dm : ∀ a o, H a = some o → ∃ o', H' a = some o'
theorem Stp.refl (H : Hp) (O : AP) (L : List Addr) : Stp H O L H O L := ⟨fun _ _ h _ => h, fun _ h => .inl h, fun _ _ _ h _ => h, fun _ h => .inl h, fun _ o h => ⟨o, h⟩⟩
theorem Stp.none_of {H H' : Hp} {O O' : AP} {L L' : List Addr} (s : Stp H O L H' O' L') {a : Addr} (h : H' a = none) : H a = none := by
  cases e : H a with
  | none => rfl
  | some o => obtain ⟨o', q⟩ := s.dm a o e; rw [h] at q; cases q
theorem Stp.trans {H H1 H2 : Hp} {O O1 O2 : AP} {L L1 L2 : List Addr} (a : Stp H O L H1 O1 L1) (b : Stp H1 O1 L1 H2 O2 L2) : Stp H O L H2 O2 L2 where
  fr := fun c o e n => b.fr c o (a.fr c o e n) fun z => by
    rcases a.ll c z with q | q
    · exact n q
    · rw [e] at q; cases q
  nw := fun c q => by
    rcases b.nw c q with q | q
    · exact a.nw c q
    · exact .inr (a.none_of q)
  ol := fun c o e q n => b.ol c o (a.fr c o e n) (a.ol c o e q n) fun z => by
    rcases a.ll c z with r | r
    · exact n r
    · rw [e] at r; cases r
  ll := fun c z => by
    rcases b.ll c z with q | q
    · exact a.ll c q
    · exact .inr (a.none_of q)
  dm := fun c o e => by
    obtain ⟨o', q⟩ := a.dm c o e
    exact b.dm c o' q
end Mi
namespace Mi
open PySem PySem.Spec PyProof.Rows L2
inductive Res (α : Type) where
  | ok (a : α) | err
def Res.bind {α β : Type} : Res α → (α → Res β) → Res β
  | .ok a, f => f a
  | .err, _ => .err
@[simp] theorem Res.bind_ok {α β : Type} (a : α) (f : α → Res β) : (Res.ok a).bind f = f a := rfl
@[simp] theorem Res.bind_err {α β : Type} (f : α → Res β) : (Res.err : Res α).bind f = .err := rfl
theorem Res.of_bind {α β : Type} {r : Res α} {f : α → Res β} {b : β} (h : r.bind f = .ok b) : ∃ a, r = .ok a ∧ f a = .ok b := by
  cases r with
  | ok a => exact ⟨a, rfl, h⟩
  | err => cases h
def Res.of {α : Type} : Option α → Res α
  | some a => .ok a
  | none => .err
theorem Res.of_ok {α : Type} {o : Option α} {a : α} (h : Res.of o = .ok a) : o = some a := by
  cases o with
  | none => cases h
  | some b => cases h; rfl
def chk : Bool → Res Unit
  | true => .ok ()
  | false => .err
@[simp] theorem chk_true : chk true = .ok () := rfl
theorem chk_ok {b : Bool} {u : Unit} (h : chk b = .ok u) : b = true := by
  cases b with
  | true => rfl
  | false => cases h
theorem chk_dec {p : Prop} [Decidable p] {u : Unit} (h : chk (decide p) = .ok u) : p := of_decide_eq_true (chk_ok h)
def getP : W → List Nat → Option W
  | w, [] => some w
  | .lst ws, k :: p => match ws[k]? with
    | some w1 => getP w1 p
    | none => none
  | .fz _, _ :: _ => none
  | .ob _ _, _ :: _ => none
  | .di _, _ :: _ => none
def setP : W → List Nat → W → W
  | _, [], w' => w'
  | .lst ws, k :: p, w' => match ws[k]? with
    | some w1 => .lst (ws.set k (setP w1 p w'))
    | none => .lst ws
  | .fz d, _ :: _, _ => .fz d
  | .ob c fs, _ :: _, _ => .ob c fs
  | .di m, _ :: _, _ => .di m
def PathR (H : Hp) : W → V → List Nat → V → Prop
  | _, v, [], v' => v' = v
  | .lst ws, v, k :: p, v' => ∃ a xs x w1, v = .ref a ∧ H a = some (.lst xs) ∧ xs[k]? = some x ∧ ws[k]? = some w1 ∧ PathR H w1 x p v'
  | .fz _, _, _ :: _, _ => False
  | .ob _ _, _, _ :: _, _ => False
  | .di _, _, _ :: _, _ => False
theorem PathR.ext {H H' : Hp} (h : ∀ a o, H a = some o → H' a = some o) : ∀ (p : List Nat) (w : W) (v v' : V), PathR H w v p v' → PathR H' w v p v'
  | [], w, v, v', q => by cases w <;> exact q
  | k :: p, .fz _, v, v', q => q.elim
  | k :: p, .ob _ _, v, v', q => q.elim
  | k :: p, .di _, v, v', q => q.elim
  | k :: p, .lst ws, v, v', q => by
    obtain ⟨a, xs, x, w1, e, h1, h2, h3, r⟩ := q
    exact ⟨a, xs, x, w1, e, h _ _ h1, h2, h3, PathR.ext h p w1 x v' r⟩
theorem RepWs.focus {C : Cfg} {H : Hp} {O : AP} : ∀ {ws : List W} {xs : List V} {L : List Addr} {i : Nat} {w : W}, RepWs C H O ws xs L → ws[i]? = some w →
    ∃ x L1 L0, xs[i]? = some x ∧ RepW C H O w x L1 ∧ L.Perm (L1 ++ L0) ∧
      ∀ (H' : Hp) (O' : AP) (w' : W) (x' : V) (L1' : List Addr), KeepL H O H' O' L0 → RepW C H' O' w' x' L1' → ∃ L', L'.Perm (L1' ++ L0) ∧ RepWs C H' O' (ws.set i w') (xs.set i x') L'
  | [], _, _, _, _, _, e => by simp at e
  | w :: ws, xs, L, 0, w0, h, e => by
    obtain ⟨x, r, L1, L2, e1, e2, h1, h2⟩ := h
    simp at e
    subst e; subst e1; subst e2
    exact ⟨x, L1, L2, by simp, h1, .refl _, fun H' O' w' x' L1' k s => ⟨L1' ++ L2, .refl _, x', r, L1', L2, rfl, rfl, s, RepWs.keep ws r L2 k h2⟩⟩
  | w :: ws, xs, L, i + 1, w0, h, e => by
    obtain ⟨x, r, L1, L2, e1, e2, h1, h2⟩ := h
    subst e1; subst e2
    obtain ⟨y0, M1, M0, q1, q2, q3, q4⟩ := RepWs.focus (i := i) h2 (by simpa using e)
    refine ⟨y0, M1, L1 ++ M0, by simpa using q1, q2, ?_, fun H' O' w' x' L1' k s => ?_⟩
    · refine (List.Perm.append_left L1 q3).trans ?_
      rw [← List.append_assoc, ← List.append_assoc]
      exact List.Perm.append_right M0 List.perm_append_comm
    · obtain ⟨L', p, z⟩ := q4 H' O' w' x' L1' (k.sub fun b hb => by simp [hb]) s
      refine ⟨L1 ++ L', ?_, ⟨x, r.set i x', L1, L', by simp, rfl, RepW.keep w x L1 (k.sub fun b hb => by simp [hb]) h1, z⟩⟩
      refine (List.Perm.append_left L1 p).trans ?_
      rw [← List.append_assoc, ← List.append_assoc]
      exact List.Perm.append_right M0 List.perm_append_comm
theorem set_same {α : Type} : ∀ {l : List α} {i : Nat} {x : α}, l[i]? = some x → l.set i x = l
  | [], _, _, h => by simp at h
  | y :: r, 0, x, h => by simp at h; simp [h]
  | y :: r, i + 1, x, h => by simp only [List.set_cons_succ]; rw [set_same (i := i) (by simpa using h)]
theorem RepW.path {C : Cfg} {H : Hp} {O : AP} : ∀ {p : List Nat} {w : W} {v v' : V} {L : List Addr} {w1 : W}, RepW C H O w v L → L.Nodup → PathR H w v p v' → getP w p = some w1 →
    ∃ L1 L0, RepW C H O w1 v' L1 ∧ L.Perm (L1 ++ L0) ∧
      ∀ (H' : Hp) (O' : AP) (w1' : W) (L1' : List Addr), KeepL H O H' O' L0 → RepW C H' O' w1' v' L1' → ∃ L', L'.Perm (L1' ++ L0) ∧ RepW C H' O' (setP w p w1') v L'
  | [], w, v, v', L, w1, h, nd, q, e => by
    have e1 : w1 = w := by cases w <;> (simp [getP] at e; exact e.symm)
    have e2 : v' = v := by cases w <;> exact q
    subst e1; subst e2
    refine ⟨L, [], h, by simp, fun H' O' w1' L1' k s => ⟨L1', by simp, ?_⟩⟩
    cases w1 <;> exact s
  | k :: p, .fz d, v, v', L, w1, h, nd, q, e => q.elim
  | k :: p, .ob _ _, v, v', L, w1, h, nd, q, e => q.elim
  | k :: p, .di _, v, v', L, w1, h, nd, q, e => q.elim
  | k :: p, .lst ws, v, v', L, w1, h, nd, q, e => by
    obtain ⟨a, xs, L', e1, h1, h2, h3, r⟩ := h
    obtain ⟨a', xs', x, w2, e1', h1', h2', h3', q⟩ := q
    subst e1; cases e1'
    rw [h1] at h1'; cases h1'
    subst h3
    obtain ⟨x0, M1, M0, g1, g2, g3, g4⟩ := r.focus h3'
    rw [h2'] at g1; cases g1
    have nd' : L'.Nodup := (List.nodup_cons.mp nd).2
    have ndM : (M1 ++ M0).Nodup := g3.nodup_iff.mp nd'
    have e' : getP w2 p = some w1 := by simpa [getP, h3'] using e
    obtain ⟨N1, N0, f1, f2, f3⟩ := RepW.path g2 (List.nodup_append.mp ndM).1 q e'
    refine ⟨N1, a :: (N0 ++ M0), f1, ?_, fun H' O' w1' L1' kk s => ?_⟩
    · refine ((g3.trans (f2.append_right M0)).cons a).trans ?_
      rw [List.append_assoc]
      exact (List.perm_middle (l₁ := N1) (a := a) (l₂ := N0 ++ M0)).symm
    · obtain ⟨P1, p1, p2⟩ := f3 H' O' w1' L1' (kk.sub fun b hb => by simp [hb]) s
      obtain ⟨P2, p3, p4⟩ := g4 H' O' (setP w2 p w1') x P1 (kk.sub fun b hb => by simp [hb]) p2
      obtain ⟨z1, z2⟩ := kk.l a (by simp) _ h1
      rw [set_same h2'] at p4
      have es : setP (W.lst ws) (k :: p) w1' = .lst (ws.set k (setP w2 p w1')) := by simp [setP, h3']
      rw [es]
      refine ⟨a :: P2, ?_, a, xs, P2, rfl, z1, z2, rfl, p4⟩
      refine ((p3.trans (p1.append_right M0)).cons a).trans ?_
      rw [List.append_assoc]
      exact (List.perm_middle (l₁ := L1') (a := a) (l₂ := N0 ++ M0)).symm
inductive B where
  | tmp (w : W) | bor (i : Nat) (p : List Nat)
def BR (C : Cfg) (H : Hp) (O : AP) (ρ : En) (σ : Sg) : B → V → List Addr → Prop
  | .tmp w, v, L => RepW C H O w v L
  | .bor i p, v, L => L = [] ∧ ∃ v0, σ[i]? = some (some v0) ∧ (p = [] → v = v0) ∧ (p ≠ [] → ∃ w0, ρ[i]? = some (some w0) ∧ PathR H w0 v0 p v)
abbrev CE := En → Res (B × En)
def cont : B → En → Res W
  | .tmp w, _ => .ok (.fz (frz w))
  | .bor i p, ρ => match ρ[i]? with
    | some (some w) => Res.of (getP w p)
    | _ => .err
def take : B → En → Res (W × En)
  | .tmp w, ρ => .ok (w, ρ)
  | .bor i p, ρ => match ρ[i]? with
    | some (some w) => (Res.of (getP w p)).bind fun w1 => .ok (.fz (frz w1), ρ.set i (some (setP w p (.fz (frz w1)))))
    | _ => .err
structure PostE (C : Cfg) (σ : Sg) (H : Hp) (O : AP) (L : List Addr) (ρ : En) (qt : Bool) (b : B) (ρ' : En) (v : V) (H' : Hp) (O' : AP) (L' Lb : List Addr) : Prop where
  env : EnvR C H' O' ρ' σ L'
  br : BR C H' O' ρ' σ b v Lb
  nd : (L' ++ Lb).Nodup
  st : Stp H O L H' O' (L' ++ Lb)
  qu : qt = true → ρ' = ρ ∧ ∀ a o, H a = some o → H' a = some o
def tE (C : Cfg) (qt : Bool) (c : CE) : TE := fun σ H Q => ∃ O L ρ b ρ', EnvR C H O ρ σ L ∧ L.Nodup ∧ c ρ = .ok (b, ρ') ∧ ∀ v H' O' L' Lb, PostE C σ H O L ρ qt b ρ' v H' O' L' Lb → Q v H'
def SE (X : Cx) (cl : Nat → Addr) (qt : Bool) (e : Expr) (c : CE) : Prop := PE X e (tE ⟨X.K, cl⟩ qt c)
theorem PE.imp {X : Cx} {e : Expr} {t t' : TE} (h : PE X e t) (k : ∀ σ H Q, t' σ H Q → t σ H Q) : PE X e t' := ⟨fun pins s σ H Q I q => h.run pins s σ H Q I (k σ H Q q)⟩
theorem PT.imp {X : Cx} {e : Expr} {t t' : TT} (h : PT X e t) (k : ∀ σ H Q, t' σ H Q → t σ H Q) : PT X e t' := ⟨fun pins s σ H Q I q => h.run pins s σ H Q I (k σ H Q q)⟩
theorem PW.imp {X : Cx} {e : Expr} {t t' : TT} (h : PW X e t) (k : ∀ σ H Q, t' σ H Q → t σ H Q) : PW X e t' := ⟨fun wh pins s σ H Q I q => h.run wh pins s σ H Q I (k σ H Q q)⟩
theorem PA.imp {X : Cx} {e : List Expr} {t t' : TA} (h : PA X e t) (k : ∀ σ H Q, t' σ H Q → t σ H Q) : PA X e t' := ⟨fun pos pins s σ H Q I q => h.run pos pins s σ H Q I (k σ H Q q)⟩
theorem PS.imp {X : Cx} {st : Stmt} {t t' : TS} (h : PS X st t) (k : ∀ D σ H, t' D σ H → t D σ H) : PS X st t' := ⟨fun pins s σ H D I q => h.run pins s σ H D I (k D σ H q)⟩
theorem PSs.imp {X : Cx} {st : List Stmt} {t t' : TS} (h : PSs X st t) (k : ∀ D σ H, t' D σ H → t D σ H) : PSs X st t' := ⟨fun pins s σ H D I q => h.run pins s σ H D I (k D σ H q)⟩
theorem PG.imp {X : Cx} {e : Expr} {t t' : TG} (h : PG X e t) (k : ∀ v σ H Q, t' v σ H Q → t v σ H Q) : PG X e t' := ⟨fun pins s σ H v u Q I r q => h.run pins s σ H v u Q I r (k v σ H Q q)⟩
theorem PI.imp {X : Cx} {tg e : Expr} {t t' : TI} (h : PI X tg e t) (k : ∀ σ H R, t' σ H R → t σ H R) : PI X tg e t' := ⟨fun pins s σ H R I q => h.run pins s σ H R I (k σ H R q)⟩
section
variable {C : Cfg} {H H1 H2 H' : Hp} {O O1 O2 O' : AP} {L L1 L2 L' M T : List Addr} {ρ ρ1 : En} {σ : Sg}
theorem Stp.frame (s : Stp H O L H' O' M) (T : List Addr) : Stp H O (L ++ T) H' O' (M ++ T) :=
  ⟨fun a o e n => s.fr a o e fun z => n (by simp [z]), s.nw, fun a o e q n => s.ol a o e q fun z => n (by simp [z]), fun a h => by
    rcases List.mem_append.mp h with h | h
    · rcases s.ll a h with q | q
      · exact .inl (by simp [q])
      · exact .inr q
    · exact .inl (by simp [h]), s.dm⟩
theorem Stp.perm (s : Stp H O L H' O' M) (p : ∀ a, a ∈ T → a ∈ M) : Stp H O L H' O' T := ⟨s.fr, s.nw, s.ol, fun a h => s.ll a (p a h), s.dm⟩
def Less (O : AP) (T : List Addr) : AP := fun a => O a ∧ a ∉ T
theorem Stp.drop (s : Stp H O L H' O' (M ++ T)) : Stp H O L H' (Less O' T) M :=
  ⟨s.fr, fun a q => s.nw a q.1, fun a o e q n => ⟨s.ol a o e q n, fun z => by
    rcases s.ll a (by simp [z]) with r | r
    · exact n r
    · rw [e] at r; cases r⟩, fun a h => s.ll a (by simp [h]), s.dm⟩
theorem keep_less (d : ∀ a ∈ L, a ∉ T) (own : ∀ a ∈ L, O a) : KeepL H O H (Less O T) L := ⟨fun a o e n => ⟨e, fun q => n q.1⟩, fun a ha o e => ⟨e, own a ha, d a ha⟩⟩
theorem EnvR.less (h : EnvR C H O ρ σ L) (d : ∀ a ∈ L, a ∉ T) : EnvR C H (Less O T) ρ σ L := EnvR.keep (keep_less d fun a ha => (h.own a ha).1) h
theorem Stp.keep (s : Stp H O L H' O' M) (own : ∀ a ∈ L, O a) : Keep H O H' O' := fun a o e n => ⟨s.fr a o e fun z => n (own a z), fun q => by
  rcases s.nw a q with r | r
  · exact n r
  · rw [e] at r; cases r⟩
theorem Stp.keepL (s : Stp H O L H' O' M) (own : ∀ a ∈ L, O a) (hT : ∀ a ∈ T, O a) (d : ∀ a ∈ T, a ∉ L) : KeepL H O H' O' T := ⟨s.keep own, fun a ha o e => ⟨s.fr a o e (d a ha), s.ol a o e (hT a ha) (d a ha)⟩⟩
theorem nodup_frame (s : Stp H O L H' O' M) (nM : M.Nodup) (nT : T.Nodup) (hT : ∀ a ∈ T, ∃ o, H a = some o) (d : ∀ a ∈ T, a ∉ L) : (M ++ T).Nodup := by
  refine List.nodup_append.mpr ⟨nM, nT, fun a ha b hb e => ?_⟩
  subst e
  rcases s.ll a ha with q | q
  · exact d a hb q
  · obtain ⟨o, e⟩ := hT a hb; rw [e] at q; cases q
structure Gr (H : Hp) (O : AP) (H' : Hp) (O' : AP) (Lw : List Addr) : Prop where
  ex : ∀ a o, H a = some o → H' a = some o
  o1 : ∀ a, O' a → O a ∨ a ∈ Lw
  o2 : ∀ a o, H a = some o → O a → O' a
  nw : ∀ a ∈ Lw, H a = none
  nd : Lw.Nodup
theorem Gr.refl (H : Hp) (O : AP) : Gr H O H O [] := ⟨fun _ _ h => h, fun _ q => .inl q, fun _ _ _ q => q, fun _ h => by simp at h, List.nodup_nil⟩
theorem Gr.stp (g : Gr H O H' O' T) : Stp H O L H' O' (L ++ T) := ⟨fun a o e _ => g.ex a o e, fun a q => by
    rcases g.o1 a q with q | q
    · exact .inl q
    · exact .inr (g.nw a q), fun a o e q _ => g.o2 a o e q, fun a h => by
    rcases List.mem_append.mp h with h | h
    · exact .inl h
    · exact .inr (g.nw a h), fun a o e => ⟨o, g.ex a o e⟩⟩
theorem Gr.keep (g : Gr H O H' O' T) : Keep H O H' O' := fun a o e n => ⟨g.ex a o e, fun q => by
  rcases g.o1 a q with q | q
  · exact n q
  · rw [g.nw a q] at e; cases e⟩
theorem Gr.keepL (g : Gr H O H' O' T) (own : ∀ a ∈ L, O a) : KeepL H O H' O' L := ⟨g.keep, fun a ha o e => ⟨g.ex a o e, g.o2 a o e (own a ha)⟩⟩
theorem EnvR.grow (g : Gr H O H' O' T) (h : EnvR C H O ρ σ L) : EnvR C H' O' ρ σ L := EnvR.keep (g.keepL fun a ha => (h.own a ha).1) h
theorem Gr.new {p : Addr} {o : HO} (h : H p = none) : Gr H O (upd H p o) (Less O [p]) [] where
  ex := fun a u e => by rw [upd_ne (ne_of_none e h)]; exact e
  o1 := fun a q => .inl q.1
  o2 := fun a o e q => ⟨q, fun z => by
    have z' : a = p := by simpa using z
    rw [z', h] at e
    cases e⟩
  nw := fun _ z => by simp at z
  nd := List.nodup_nil
theorem Gr.newO {p : Addr} {o : HO} (h : H p = none) : Gr H O (upd H p o) (fun a => O a ∨ a = p) [p] where
  ex := fun a u e => by rw [upd_ne (ne_of_none e h)]; exact e
  o1 := fun a q => q.elim .inl fun z => .inr (by simp [z])
  o2 := fun a o e q => .inl q
  nw := fun a z => by simp at z; rw [z]; exact h
  nd := by simp
end
end Mi
namespace Mi
open PySem PySem.Spec PyProof.Rows L2
section
variable {C : Cfg} {H H1 H2 H' : Hp} {O O1 O2 O' : AP} {L L1 L2 L' La Lb M T : List Addr} {ρ ρ1 ρ2 : En} {σ : Sg} {i : Nat} {p : List Nat} {v : V} {w w1 : W} {b : B} {qb : Bool}
theorem env_path (e : EnvR C H O ρ σ L) (nd : L.Nodup) (hb : BR C H O ρ σ (.bor i p) v Lb) (hi : ρ[i]? = some (some w)) (g : getP w p = some w1) :
    ∃ L1 L0, RepW C H O w1 v L1 ∧ L.Perm (L1 ++ L0) ∧ ∀ H' O' w1' L1', KeepL H O H' O' L0 → RepW C H' O' w1' v L1' → ∃ L', L'.Perm (L1' ++ L0) ∧ EnvR C H' O' (ρ.set i (some (setP w p w1'))) σ L' := by
  obtain ⟨y, M1, M0, q1, ⟨v0, q2, q3⟩, q4, q5⟩ := e.focus hi
  obtain ⟨_, v0', h1, h2, h3⟩ := hb
  rw [q1, q2] at h1; cases h1
  subst q2
  have hp : PathR H w v0 p v := by
    cases p with
    | nil => rw [h2 rfl]; cases w <;> rfl
    | cons k r =>
      obtain ⟨w0, e1, e2⟩ := h3 (by simp)
      rw [hi] at e1; cases e1
      exact e2
  have nM : (M1 ++ M0).Nodup := q4.nodup_iff.mp nd
  obtain ⟨N1, N0, f1, f2, f3⟩ := RepW.path q3 (List.nodup_append.mp nM).1 hp g
  refine ⟨N1, N0 ++ M0, f1, ?_, fun H' O' w1' L1' k r => ?_⟩
  · rw [← List.append_assoc]; exact q4.trans (f2.append_right M0)
  · obtain ⟨P1, p1, p2⟩ := f3 H' O' w1' L1' (k.sub fun a ha => by simp [ha]) r
    obtain ⟨L', p3, p4⟩ := q5 H' O' (some (setP w p w1')) (some v0) P1 (k.sub fun a ha => by simp [ha]) ⟨v0, rfl, p2⟩
    rw [set_same q1] at p4
    exact ⟨L', by rw [← List.append_assoc]; exact p3.trans (p1.append_right M0), p4⟩
theorem cont_rep (h : BR C H O ρ σ b v Lb) (e : EnvR C H O ρ σ L) (nd : L.Nodup) (d : ∀ a ∈ L, a ∉ T) (s : ∀ a ∈ Lb, a ∈ T) (c : cont b ρ = .ok w) : ∃ Lw, RepW C H (Less O T) w v Lw ∧ ∀ a ∈ Lw, a ∈ L := by
  cases b with
  | tmp w0 =>
    have e1 : w = .fz (frz w0) := by simp [cont] at c; exact c.symm
    subst e1
    exact ⟨[], ⟨rfl, RepW.frz w0 v Lb (fun a q => ⟨q.1, fun z => q.2 (s a z)⟩) h⟩, fun a z => by simp at z⟩
  | bor i p =>
    simp only [cont] at c
    cases hi : ρ[i]? with
    | none => rw [hi] at c; cases c
    | some x =>
      rw [hi] at c
      cases x with
      | none => cases c
      | some w0 =>
        obtain ⟨M1, M0, r1, r2, _⟩ := env_path e nd h hi (Res.of_ok c)
        exact ⟨M1, RepW.keep w v M1 (keep_less (fun a ha => d a (r2.mem_iff.mpr (by simp [ha]))) fun a ha => (RepW.own w v M1 r1 a ha).1) r1, fun a ha => r2.mem_iff.mpr (by simp [ha])⟩
def pend (qb : Bool) : B → Res Unit
  | .bor _ (_ :: _) => if qb then .ok () else .err
  | _ => .ok ()
theorem BR.pend {va : V} {b' : B} {vb : V} {Lb' : List Addr} (h : BR C H1 O1 ρ1 σ b va La) (own : ∀ a ∈ L1, O1 a) (nd : (L1 ++ La).Nodup) (P : PostE C σ H1 O1 L1 ρ1 qb b' ρ2 vb H2 O2 L2 Lb') (k : pend qb b = .ok ()) :
    BR C H2 O2 ρ2 σ b va La ∧ (L2 ++ Lb' ++ La).Nodup := by
  cases b with
  | tmp w =>
    have h : RepW C H1 O1 w va La := h
    have d : ∀ a ∈ La, a ∉ L1 := fun a ha z => (List.nodup_append.mp nd).2.2 a z a ha rfl
    have ow := RepW.own w va La h
    exact ⟨RepW.keep w va La (P.st.keepL own (fun a ha => (ow a ha).1) d) h, nodup_frame P.st P.nd (List.nodup_append.mp nd).2.1 (fun a ha => let ⟨_, xs, e⟩ := ow a ha; ⟨_, e⟩) d⟩
  | bor i p =>
    obtain ⟨e, v0, h1, h2, h3⟩ := h
    subst e
    refine ⟨⟨rfl, v0, h1, h2, fun hp => ?_⟩, by rw [List.append_nil]; exact P.nd⟩
    cases p with
    | nil => exact absurd rfl hp
    | cons j r =>
      have hq : qb = true := by
        cases qb with
        | true => rfl
        | false => simp [Mi.pend] at k
      obtain ⟨e1, e2⟩ := P.qu hq
      obtain ⟨w0, g1, g2⟩ := h3 hp
      exact ⟨w0, by rw [e1]; exact g1, PathR.ext e2 _ _ _ _ g2⟩
theorem post_of {qt : Bool} {Lw : List Addr} (env : EnvR C H2 O2 ρ2 σ L2) (nd : (L2 ++ T).Nodup) (st : Stp H O L H2 O2 (L2 ++ T)) (qu : qt = true → ρ2 = ρ ∧ ∀ a o, H a = some o → H2 a = some o)
    (g : Gr H2 (Less O2 T) H' O' Lw) (r : RepW C H' O' w v Lw) : PostE C σ H O L ρ qt (.tmp w) ρ2 v H' O' L2 Lw := by
  have d : ∀ a ∈ L2, a ∉ T := fun a ha z => (List.nodup_append.mp nd).2.2 a ha a z rfl
  have env2 := env.less d
  refine ⟨env2.grow g, r, ?_, st.drop.trans g.stp, fun q => ⟨(qu q).1, fun a o e => g.ex a o ((qu q).2 a o e)⟩⟩
  refine List.nodup_append.mpr ⟨(List.nodup_append.mp nd).1, g.nd, fun a ha b hb e => ?_⟩
  subst e
  obtain ⟨_, xs, e⟩ := env2.own a ha
  rw [g.nw a hb] at e; cases e
end
def OpS (C : Cfg) (r : R2) (f : W → W → Res W) : Prop := ∀ (H : Hp) (O : AP) (x y : V) (wx wy w : W) (Lx Ly : List Addr) (Q : VK), RepW C H O wx x Lx → RepW C H O wy y Ly → f wx wy = .ok w →
  (∀ v H' O' Lw, RepW C H' O' w v Lw → Gr H O H' O' Lw → Q v H') → r x y H Q
def cBin (f : W → W → Res W) (qb : Bool) (ca cb : CE) : CE := fun ρ =>
  (ca ρ).bind fun (a, ρ1) => (pend qb a).bind fun _ => (cb ρ1).bind fun (b, ρ2) => (cont a ρ2).bind fun x => (cont b ρ2).bind fun y => (f x y).bind fun w => .ok (.tmp w, ρ2)
theorem bin_core {C : Cfg} {r : R2} {f : W → W → Res W} {qa qb : Bool} {ca cb : CE} (hs : OpS C r f) {σ : Sg} {H : Hp} {Q : VK} (h : tE C (qa && qb) (cBin f qb ca cb) σ H Q) : tOp r (tE C qa ca) (tE C qb cb) σ H Q := by
  obtain ⟨O, L, ρ, b0, ρ', env, nd, c, q⟩ := h
  obtain ⟨⟨a, ρ1⟩, c1, c⟩ := Res.of_bind c
  obtain ⟨⟨⟩, c2, c⟩ := Res.of_bind c
  obtain ⟨⟨b, ρ2⟩, c3, c⟩ := Res.of_bind c
  obtain ⟨x, c4, c⟩ := Res.of_bind c
  obtain ⟨y, c5, c⟩ := Res.of_bind c
  obtain ⟨w, c6, c⟩ := Res.of_bind c
  cases c
  refine ⟨O, L, ρ, a, ρ1, env, nd, c1, fun va H1 O1 L1 La P1 => ?_⟩
  have own1 : ∀ z ∈ L1, O1 z := fun z hz => (P1.env.own z hz).1
  refine ⟨O1, L1, ρ1, b, ρ', P1.env, (List.nodup_append.mp P1.nd).1, c3, fun vb H2 O2 L2 Lb P2 => ?_⟩
  obtain ⟨ba, nd2⟩ := P1.br.pend own1 P1.nd P2 c2
  have nd3 : (L2 ++ (Lb ++ La)).Nodup := by rw [← List.append_assoc]; exact nd2
  have ndL := (List.nodup_append.mp nd3).1
  have d : ∀ z ∈ L2, z ∉ Lb ++ La := fun z hz q => (List.nodup_append.mp nd3).2.2 z hz z q rfl
  obtain ⟨Lx, rx, _⟩ := cont_rep (T := Lb ++ La) ba P2.env ndL d (fun z hz => by simp [hz]) c4
  obtain ⟨Ly, ry, _⟩ := cont_rep (T := Lb ++ La) P2.br P2.env ndL d (fun z hz => by simp [hz]) c5
  refine hs H2 (Less O2 (Lb ++ La)) va vb x y w Lx Ly _ rx ry c6 fun v H' O' Lw rw' g => ?_
  refine q v H' O' L2 Lw (post_of P2.env nd3 ?_ (fun hq => ?_) g rw')
  · refine (P1.st.trans (P2.st.frame La)).perm fun z hz => ?_
    rw [List.append_assoc]; exact hz
  · have hq' : qa = true ∧ qb = true := by simpa using hq
    exact ⟨(P2.qu hq'.2).1.trans (P1.qu hq'.1).1, fun z o e => (P2.qu hq'.2).2 z o ((P1.qu hq'.1).2 z o e)⟩
def UnS (C : Cfg) (r : V → Hp → VK → Prop) (f : W → Res W) : Prop := ∀ (H : Hp) (O : AP) (x : V) (wx w : W) (Lx : List Addr) (Q : VK), RepW C H O wx x Lx → f wx = .ok w →
  (∀ v H' O' Lw, RepW C H' O' w v Lw → Gr H O H' O' Lw → Q v H') → r x H Q
def cUn (f : W → Res W) (ca : CE) : CE := fun ρ => (ca ρ).bind fun (a, ρ1) => (cont a ρ1).bind fun x => (f x).bind fun w => .ok (.tmp w, ρ1)
theorem un_core {C : Cfg} {r : V → Hp → VK → Prop} {f : W → Res W} {qa : Bool} {ca : CE} (hs : UnS C r f) {σ : Sg} {H : Hp} {Q : VK} (h : tE C qa (cUn f ca) σ H Q) : tUn r (tE C qa ca) σ H Q := by
  obtain ⟨O, L, ρ, b0, ρ', env, nd, c, q⟩ := h
  obtain ⟨⟨a, ρ1⟩, c1, c⟩ := Res.of_bind c
  obtain ⟨x, c4, c⟩ := Res.of_bind c
  obtain ⟨w, c6, c⟩ := Res.of_bind c
  cases c
  refine ⟨O, L, ρ, a, ρ', env, nd, c1, fun va H1 O1 L1 La P1 => ?_⟩
  have d : ∀ z ∈ L1, z ∉ La := fun z hz q => (List.nodup_append.mp P1.nd).2.2 z hz z q rfl
  obtain ⟨Lx, rx, _⟩ := cont_rep (T := La) P1.br P1.env (List.nodup_append.mp P1.nd).1 d (fun z hz => hz) c4
  exact hs H1 (Less O1 La) va x w Lx _ rx c6 fun v H' O' Lw rw' g => q v H' O' L1 Lw (post_of P1.env P1.nd P1.st P1.qu g rw')
abbrev CT := En → Res (Bool × En)
structure PostT (C : Cfg) (σ : Sg) (H : Hp) (O : AP) (L : List Addr) (ρ : En) (qt : Bool) (ρ' : En) (H' : Hp) (O' : AP) (L' : List Addr) : Prop where
  env : EnvR C H' O' ρ' σ L'
  nd : L'.Nodup
  st : Stp H O L H' O' L'
  qu : qt = true → ρ' = ρ ∧ ∀ a o, H a = some o → H' a = some o
def tT (C : Cfg) (qt : Bool) (c : CT) : TT := fun σ H Q => ∃ O L ρ k ρ', EnvR C H O ρ σ L ∧ L.Nodup ∧ c ρ = .ok (k, ρ') ∧ ∀ H' O' L', PostT C σ H O L ρ qt ρ' H' O' L' → Q k H'
def ST (X : Cx) (cl : Nat → Addr) (qt : Bool) (e : Expr) (c : CT) : Prop := PT X e (tT ⟨X.K, cl⟩ qt c)
def boolOf : B → Res Bool
  | .tmp (.fz (.bl k)) => .ok k
  | _ => .err
def cTest (c : CE) : CT := fun ρ => (c ρ).bind fun (b, ρ') => (boolOf b).bind fun k => .ok (k, ρ')
theorem boolOf_ok {b : B} {k : Bool} (h : boolOf b = .ok k) : b = .tmp (.fz (.bl k)) := by
  unfold boolOf at h
  split at h
  · cases h; rfl
  · cases h
theorem test_core {C : Cfg} {qt : Bool} {c : CE} {σ : Sg} {H : Hp} {Q : Bool → Hp → Prop} (h : tT C qt (cTest c) σ H Q) : tE C qt c σ H (fun x H' => ∃ k, x = .bl k ∧ Q k H') := by
  obtain ⟨O, L, ρ, k, ρ', env, nd, c0, q⟩ := h
  obtain ⟨⟨b, ρ1⟩, c1, c0⟩ := Res.of_bind c0
  obtain ⟨k', c2, c0⟩ := Res.of_bind c0
  cases c0
  have eb := boolOf_ok c2
  subst eb
  refine ⟨O, L, ρ, _, ρ', env, nd, c1, fun v H' O' L' Lb P => ?_⟩
  obtain ⟨e1, e2⟩ := P.br
  subst e1
  have nd' := P.nd
  have st' := P.st
  rw [List.append_nil] at nd' st'
  exact ⟨k, e2, q H' O' L' ⟨P.env, nd', st', P.qu⟩⟩
section
variable {X : Cx} {cl : Nat → Addr} {a b c : Expr} {ca cb cc : CE} {qa qb qc : Bool} {pos : Pos}
theorem se_bin {op : Operator} {r : R2} {f : W → W → Res W} (ho : OpR X (binaryOp op) r) (hs : OpS ⟨X.K, cl⟩ r f) (ha : SE X cl qa a ca) (hb : SE X cl qb b cb) : SE X cl (qa && qb) (.BinOp a op b pos) (cBin f qb ca cb) :=
  PE.imp (pe_op ho ha hb) fun σ H Q h => bin_core hs h
theorem se_cmp {op : CmpOp} {r : R2} {f : W → W → Res W} (ho : OpR X (compareOp op) r) (hs : OpS ⟨X.K, cl⟩ r f) (ha : SE X cl qa a ca) (hb : SE X cl qb b cb) (hm : behindInMarks op b = false) : SE X cl (qa && qb) (.Compare a [op] [b] pos) (cBin f qb ca cb) :=
  PE.imp (pe_cmpR ho ha hb hm) fun σ H Q h => bin_core hs h
theorem st_cmp {op : CmpOp} {r : R2} {f : W → W → Res W} (ho : OpR X (compareOp op) r) (hs : OpS ⟨X.K, cl⟩ r f) (ha : SE X cl qa a ca) (hb : SE X cl qb b cb) (hm : behindInMarks op b = false) : ST X cl (qa && qb) (.Compare a [op] [b] pos) (cTest (cBin f qb ca cb)) :=
  PT.imp (pt_cmpR ho ha hb hm) fun σ H Q h => bin_core hs (test_core h)
theorem se_un {op : UnaryOp} {r : V → Hp → VK → Prop} {f : W → Res W} (ho : UnR X (unaryOp op) r) (hs : UnS ⟨X.K, cl⟩ r f) (ha : SE X cl qa a ca) : SE X cl qa (.UnaryOp op a pos) (cUn f ca) :=
  PE.imp (pe_un ho ha) fun σ H Q h => un_core hs h
theorem st_val (ha : SE X cl qa a ca) (he : ∀ whole, isTrue a X.env whole = (do let v ← whole; standAt a.pos; holding [v] (truthy v)) := by intro _; rfl) : ST X cl qa a (cTest ca) :=
  PT.imp (pt_val ha he) fun σ H Q h => test_core h
def cVar (i : Nat) : CE := fun ρ => match ρ[i]? with
  | some (some (.fz d)) => .ok (.tmp (.fz d), ρ)
  | some (some (.lst _)) => .ok (.bor i [], ρ)
  | some (some (.ob _ _)) => .ok (.bor i [], ρ)
  | some (some (.di _)) => .ok (.bor i [], ρ)
  | _ => .err
def cC (d : D) : CE := fun ρ => .ok (.tmp (.fz d), ρ)
theorem PostE.same {C : Cfg} {σ : Sg} {H : Hp} {O : AP} {L : List Addr} {ρ : En} {b : B} {v : V} (env : EnvR C H O ρ σ L) (nd : L.Nodup) (r : BR C H O ρ σ b v []) : PostE C σ H O L ρ true b ρ v H O L [] :=
  ⟨env, r, by rw [List.append_nil]; exact nd, by rw [List.append_nil]; exact Stp.refl _ _ _, fun _ => ⟨rfl, fun _ _ e => e⟩⟩
theorem se_var {i : Nat} {x : Str} (hN : X.N[i]? = some x) (hv : Vis X.env.scope x) (hd : (x == ("__debug__" : Str)) = false := by decide) (hcd : (x == ("__classdict__" : Str)) = false := by decide) : SE X cl true (.Name x pos) (cVar i) := by
  refine PE.imp (pe_var hN hv hd hcd) fun σ H Q h => ?_
  obtain ⟨O, L, ρ, b, ρ', env, nd, c, q⟩ := h
  unfold cVar at c
  cases hi : ρ[i]? with
  | none => rw [hi] at c; cases c
  | some x =>
    rw [hi] at c
    cases x with
    | none => cases c
    | some w =>
      obtain ⟨y, M1, M0, q1, ⟨v, q2, q3⟩, q4, q5⟩ := env.focus hi
      subst q2
      refine ⟨v, q1, ?_⟩
      cases w with
      | fz d =>
        cases c
        obtain ⟨e, r⟩ := q3
        exact q v H O L [] (PostE.same env nd ⟨rfl, r⟩)
      | lst ws =>
        cases c
        exact q v H O L [] (PostE.same env nd ⟨rfl, v, q1, fun _ => rfl, fun z => absurd rfl z⟩)
      | ob _ _ =>
        cases c
        exact q v H O L [] (PostE.same env nd ⟨rfl, v, q1, fun _ => rfl, fun z => absurd rfl z⟩)
      | di _ =>
        cases c
        exact q v H O L [] (PostE.same env nd ⟨rfl, v, q1, fun _ => rfl, fun z => absurd rfl z⟩)
theorem se_c {e : Expr} {v : V} {d : D} (h : PE X e (tC v)) (r : ∀ H O, RepD ⟨X.K, cl⟩ H O d v) : SE X cl true e (cC d) := by
  refine PE.imp h fun σ H Q h => ?_
  obtain ⟨O, L, ρ, b, ρ', env, nd, c, q⟩ := h
  cases c
  exact q v H O L [] (PostE.same env nd ⟨rfl, r H O⟩)
theorem se_int {i : Int} {j : Nat} : SE X cl true (.Constant (.int i) j pos) (cC (.int i)) := se_c pe_int fun _ _ => rfl
theorem se_bl {b : Bool} {j : Nat} : SE X cl true (.Constant (.bool b) j pos) (cC (.bl b)) := se_c pe_bl fun _ _ => rfl
theorem se_non {j : Nat} : SE X cl true (.Constant .none j pos) (cC .non) := se_c pe_non fun _ _ => rfl
theorem se_str {x : Str} {j : Nat} : SE X cl true (.Constant (.str x) j pos) (cC (.str x)) := se_c pe_str fun _ _ => rfl
end
section
variable {C : Cfg} {X : Cx}
theorem OpS.or {r r' : R2} {f : W → W → Res W} {g : W → W → Res W} (h : OpS C r f) (h' : OpS C r' g) (k : W → W → Bool) : OpS C (fun x y H Q => r x y H Q ∨ r' x y H Q) (fun x y => if k x y then f x y else g x y) := by
  intro H O x y wx wy w Lx Ly Q rx ry e q
  dsimp only at e
  cases hk : k wx wy with
  | true => rw [hk] at e; exact .inl (h H O x y wx wy w Lx Ly Q rx ry (by simpa using e) q)
  | false => rw [hk] at e; exact .inr (h' H O x y wx wy w Lx Ly Q rx ry (by simpa using e) q)
def fI (g : Int → Int → Res D) : W → W → Res W
  | .fz (.int i), .fz (.int j) => (g i j).bind fun d => .ok (.fz d)
  | _, _ => .err
theorem fI_ok {g : Int → Int → Res D} {x y w : W} (h : fI g x y = .ok w) : ∃ i j d, x = .fz (.int i) ∧ y = .fz (.int j) ∧ g i j = .ok d ∧ w = .fz d := by
  unfold fI at h
  split at h
  · obtain ⟨d, h1, h2⟩ := Res.of_bind h
    cases h2
    exact ⟨_, _, d, rfl, rfl, h1, rfl⟩
  · cases h
theorem gr_same {H : Hp} {O : AP} {d : D} {v : V} {Q : VK} (r : RepD C H O d v) (q : ∀ v H' O' Lw, RepW C H' O' (.fz d) v Lw → Gr H O H' O' Lw → Q v H') : Q v H := q v H O [] ⟨rfl, r⟩ (Gr.refl H O)
theorem ops_I {P : Int → Int → Prop} [∀ i j, Decidable (P i j)] {g : Int → Int → V} {gd : Int → Int → D} (hg : ∀ i j H O, RepD C H O (gd i j) (g i j)) : OpS C (rI P g) (fI fun i j => if P i j then .ok (gd i j) else .err) := by
  intro H O x y wx wy w Lx Ly Q rx ry e q
  obtain ⟨i, j, d, rfl, rfl, e1, rfl⟩ := fI_ok e
  by_cases hp : P i j
  · rw [if_pos hp] at e1; cases e1
    exact ⟨i, j, rx.2, ry.2, hp, gr_same (hg i j H O) q⟩
  · rw [if_neg hp] at e1; cases e1
theorem ops_I0 {g : Int → Int → V} {gd : Int → Int → D} (hg : ∀ i j H O, RepD C H O (gd i j) (g i j)) : OpS C (rI0 g) (fI fun i j => .ok (gd i j)) := by
  intro H O x y wx wy w Lx Ly Q rx ry e q
  obtain ⟨i, j, d, rfl, rfl, e1, rfl⟩ := fI_ok e
  cases e1
  exact ⟨i, j, rx.2, ry.2, gr_same (hg i j H O) q⟩
instance {i j : Int} : Decidable (CMulW i j) := inferInstanceAs (Decidable (_ < _))
instance {i j : Int} : Decidable (CMul i j) := inferInstanceAs (Decidable (_ ∨ _))
instance {i j : Int} : Decidable (CDivW i j) := inferInstanceAs (Decidable (_ ∧ _))
instance {i j : Int} : Decidable (CPow i j) := inferInstanceAs (Decidable (_ ∧ _))
end
end Mi
namespace Mi
open PySem PySem.Spec PyProof.Rows L2
section
variable {C : Cfg} {H H1 H2 H' : Hp} {O O1 O2 O' : AP} {L L1 L2 L' La Lb M T : List Addr} {ρ ρ1 ρ2 ρ' : En} {σ : Sg} {i : Nat} {p : List Nat} {v : V} {w w1 : W} {b : B} {qb : Bool}
theorem take_rep (h : BR C H O ρ σ b v Lb) (e : EnvR C H O ρ σ L) (nd : (L ++ Lb).Nodup) (c : take b ρ = .ok (w, ρ')) :
    ∃ O' L' Lw, EnvR C H O' ρ' σ L' ∧ RepW C H O' w v Lw ∧ (L' ++ Lw).Nodup ∧ (∀ a, O' a → O a) ∧ (∀ a, a ∈ L' ++ Lw → a ∈ L ++ Lb) ∧ ∀ a, O a → a ∉ L ++ Lb → O' a := by
  cases b with
  | tmp w0 =>
    cases c
    exact ⟨O, L, Lb, e, h, nd, fun _ q => q, fun _ q => q, fun _ q _ => q⟩
  | bor i p =>
    simp only [take] at c
    cases hi : ρ[i]? with
    | none => rw [hi] at c; cases c
    | some x =>
      rw [hi] at c
      cases x with
      | none => cases c
      | some w0 =>
        obtain ⟨w1, c1, c⟩ := Res.of_bind c
        cases c
        have nd1 := (List.nodup_append.mp nd).1
        obtain ⟨M1, M0, r1, r2, r3⟩ := env_path e nd1 h hi (Res.of_ok c1)
        have ndM : (M1 ++ M0).Nodup := r2.nodup_iff.mp nd1
        have d0 : ∀ a ∈ M0, a ∉ M1 := fun a ha z => (List.nodup_append.mp ndM).2.2 a z a ha rfl
        have rd : RepD C H (Less O M1) (frz w1) v := RepW.frz w1 v M1 (fun a q => q) r1
        have own : ∀ a ∈ M0, O a := fun a ha => (e.own a (r2.mem_iff.mpr (by simp [ha]))).1
        obtain ⟨L', p1, p2⟩ := r3 H (Less O M1) (.fz (frz w1)) [] (keep_less d0 own) ⟨rfl, rd⟩
        refine ⟨Less O M1, L', [], p2, ⟨rfl, rd⟩, ?_, fun a q => q.1, fun a q => ?_, fun a q n => ⟨q, fun z => n ?_⟩⟩
        · rw [List.append_nil]
          exact p1.nodup_iff.mpr (List.nodup_append.mp ndM).2.1
        · rw [List.append_nil] at q
          exact List.mem_append_left _ (r2.mem_iff.mpr (by simpa using Or.inr (p1.mem_iff.mp q)))
        · exact List.mem_append_left _ (r2.mem_iff.mpr (by simp [z]))
theorem Stp.ofO (h : ∀ a, O' a → O a) (k : ∀ a, a ∈ L' → a ∈ L) (g : ∀ a, O a → a ∉ L → O' a) : Stp H O L H O' L' :=
  ⟨fun _ _ e _ => e, fun a q => .inl (h a q), fun a _ _ q n => g a q n, fun a q => .inl (k a q), fun a o e => ⟨o, e⟩⟩
def BRs (C : Cfg) (H : Hp) (O : AP) (ρ : En) (σ : Sg) : List B → List V → List Addr → Prop
  | [], vs, L => vs = [] ∧ L = []
  | b :: bs, vs, L => ∃ v r L1 L2, vs = v :: r ∧ L = L1 ++ L2 ∧ BR C H O ρ σ b v L1 ∧ BRs C H O ρ σ bs r L2
def flatB : B → Bool
  | .bor _ (_ :: _) => false
  | _ => true
theorem BR.keep {bb : B} {vv : V} (f : flatB bb = true) (h : BR C H O ρ σ bb vv T) (k : KeepL H O H' O' T) : BR C H' O' ρ' σ bb vv T := by
  cases bb with
  | tmp w => exact RepW.keep w vv T k h
  | bor i p =>
    obtain ⟨e, v0, h1, h2, h3⟩ := h
    cases p with
    | nil => exact ⟨e, v0, h1, h2, fun z => absurd rfl z⟩
    | cons j r => cases f
theorem BRs.own : ∀ {bs : List B} {vs : List V} {L : List Addr}, BRs C H O ρ σ bs vs L → ∀ a ∈ L, O a ∧ ∃ xs, H a = some xs
  | [], vs, L, h, a, ha => by rw [h.2] at ha; simp at ha
  | b :: bs, vs, L, h, a, ha => by
    obtain ⟨v, r, L1, L2, e, e2, h1, h2⟩ := h
    subst e2
    rcases List.mem_append.mp ha with ha | ha
    · cases b with
      | tmp w => exact RepW.own w v L1 h1 a ha
      | bor i p => rw [h1.1] at ha; simp at ha
    · exact BRs.own h2 a ha
end
abbrev CBs := En → Res (List B × En)
structure PostB (C : Cfg) (σ : Sg) (H : Hp) (O : AP) (L : List Addr) (ρ : En) (qt : Bool) (bs : List B) (ρ' : En) (vs : List V) (H' : Hp) (O' : AP) (L' Lb : List Addr) : Prop where
  env : EnvR C H' O' ρ' σ L'
  br : BRs C H' O' ρ' σ bs vs Lb
  nd : (L' ++ Lb).Nodup
  st : Stp H O L H' O' (L' ++ Lb)
  qu : qt = true → ρ' = ρ ∧ ∀ a o, H a = some o → H' a = some o
def tB (C : Cfg) (qt : Bool) (c : CBs) : TA := fun σ H Q => ∃ O L ρ bs ρ', EnvR C H O ρ σ L ∧ L.Nodup ∧ c ρ = .ok (bs, ρ') ∧ ∀ vs H' O' L' Lb, PostB C σ H O L ρ qt bs ρ' vs H' O' L' Lb → Q vs H'
def SB (X : Cx) (cl : Nat → Addr) (qt : Bool) (es : List Expr) (c : CBs) : Prop := PA X es (tB ⟨X.K, cl⟩ qt c)
def cNil : CBs := fun ρ => .ok ([], ρ)
def early (qb : Bool) : B → En → Res (B × En)
  | .bor i (k :: p), ρ => if qb then .ok (.bor i (k :: p), ρ) else (take (.bor i (k :: p)) ρ).bind fun (w, ρ') => .ok (.tmp w, ρ')
  | b, ρ => .ok (b, ρ)
def cCons (qb : Bool) (ca : CE) (cb : CBs) : CBs := fun ρ =>
  (ca ρ).bind fun (a, ρ1) => (early qb a ρ1).bind fun (a, ρ1) => (cb ρ1).bind fun (bs, ρ2) => .ok (a :: bs, ρ2)
def cStar (ca : CE) (cb : CBs) (sq : W → Option (List D)) : CBs := fun ρ =>
  (ca ρ).bind fun (a, ρ1) => (cont a ρ1).bind fun x => (Res.of (sq x)).bind fun ds => (cb ρ1).bind fun (bs, ρ2) => .ok (ds.map (fun d => B.tmp (.fz d)) ++ bs, ρ2)
section
variable {X : Cx} {cl : Nat → Addr} {e : Expr} {es : List Expr} {ca : CE} {cb : CBs} {qa qb : Bool}
theorem sb_nil : SB X cl true [] cNil := by
  refine PA.imp pa_nil fun σ H Q h => ?_
  obtain ⟨O, L, ρ, bs, ρ', env, nd, c, q⟩ := h
  cases c
  exact q [] H O L [] ⟨env, ⟨rfl, rfl⟩, by rw [List.append_nil]; exact nd, by rw [List.append_nil]; exact Stp.refl _ _ _, fun _ => ⟨rfl, fun _ _ e => e⟩⟩
theorem early_flat {b b' : B} {ρ ρ' : En} (h : early qb b ρ = .ok (b', ρ')) : (b' = b ∧ ρ' = ρ ∧ (qb = true ∨ flatB b = true)) ∨ (qb = false ∧ ∃ w, take b ρ = .ok (w, ρ') ∧ b' = .tmp w) := by
  cases b with
  | tmp w => simp [early] at h; exact .inl ⟨h.1.symm, h.2.symm, .inr rfl⟩
  | bor i p =>
    cases p with
    | nil => simp [early] at h; exact .inl ⟨h.1.symm, h.2.symm, .inr rfl⟩
    | cons k p =>
      cases qb with
      | true => simp [early] at h; exact .inl ⟨h.1.symm, h.2.symm, .inl rfl⟩
      | false =>
        simp only [early] at h
        obtain ⟨⟨w, ρ2⟩, h1, h2⟩ := Res.of_bind h
        cases h2
        exact .inr ⟨rfl, w, h1, rfl⟩
theorem cons_core {C : Cfg} {σ : Sg} {H : Hp} {Q : List V → Hp → Prop} (h : tB C (qa && qb) (cCons qb ca cb) σ H Q) : tCons (tE C qa ca) (tB C qb cb) σ H Q := by
  obtain ⟨O, L, ρ, bs0, ρ', env, nd, c, q⟩ := h
  obtain ⟨⟨a, ρ1⟩, c1, c⟩ := Res.of_bind c
  obtain ⟨⟨a1, ρ1'⟩, c2, c⟩ := Res.of_bind c
  obtain ⟨⟨bs, ρ2⟩, c3, c⟩ := Res.of_bind c
  cases c
  refine ⟨O, L, ρ, a, ρ1, env, nd, c1, fun va H1 O1 L1 La P1 => ?_⟩
  -- behind the operand: either it is pending as it is, or it was taken over
  obtain ⟨O1', L1', La', env1, br1, nd1, st1, fl, qu1⟩ : ∃ O1' L1' La', EnvR C H1 O1' ρ1' σ L1' ∧ BR C H1 O1' ρ1' σ a1 va La' ∧ (L1' ++ La').Nodup ∧ Stp H1 O1 (L1 ++ La) H1 O1' (L1' ++ La') ∧ (qb = true ∨ flatB a1 = true) ∧ (qb = true → ρ1' = ρ1) := by
    rcases early_flat c2 with ⟨e1, e2, f⟩ | ⟨hq, w, t, e1⟩
    · subst e1; subst e2
      exact ⟨O1, L1, La, P1.env, P1.br, P1.nd, Stp.refl _ _ _, f, fun _ => rfl⟩
    · subst e1
      obtain ⟨O', L', Lw, g1, g2, g3, g4, g5, g6⟩ := take_rep P1.br P1.env P1.nd t
      exact ⟨O', L', Lw, g1, g2, g3, Stp.ofO g4 g5 g6, .inr rfl, fun z => by rw [hq] at z; cases z⟩
  have own1 : ∀ z ∈ L1', O1' z := fun z hz => (env1.own z hz).1
  have ndd := List.nodup_append.mp nd1
  refine ⟨O1', L1', ρ1', bs, ρ', env1, ndd.1, c3, fun vb H2 O2 L2 Lb P2 => ?_⟩
  have d : ∀ z ∈ La', z ∉ L1' := fun z hz q => ndd.2.2 z q z hz rfl
  have owA : ∀ z ∈ La', O1' z ∧ ∃ xs, H1 z = some xs := by
    cases a1 with
    | tmp w => exact RepW.own w va La' br1
    | bor i p => intro z hz; rw [br1.1] at hz; simp at hz
  have kL : KeepL H1 O1' H2 O2 La' := P2.st.keepL own1 (fun z hz => (owA z hz).1) d
  have br2 : BR C H2 O2 ρ' σ a1 va La' := by
    rcases fl with hq | f
    · cases hf : flatB a1 with
      | true => exact br1.keep hf kL
      | false =>
        cases a1 with
        | tmp w => cases hf
        | bor i p =>
          obtain ⟨e, v0, h1, h2, h3⟩ := br1
          obtain ⟨g1, g2⟩ := P2.qu hq
          refine ⟨e, v0, h1, h2, fun hp => ?_⟩
          obtain ⟨w0, k1, k2⟩ := h3 hp
          exact ⟨w0, by rw [g1]; exact k1, PathR.ext g2 _ _ _ _ k2⟩
    · exact br1.keep f kL
  have nd2 : (L2 ++ Lb ++ La').Nodup := nodup_frame P2.st P2.nd ndd.2.1 (fun z hz => let ⟨_, xs, e⟩ := owA z hz; ⟨_, e⟩) d
  have pm : (L2 ++ Lb ++ La').Perm (L2 ++ (La' ++ Lb)) := by
    rw [List.append_assoc]; exact List.Perm.append_left L2 List.perm_append_comm
  refine q (va :: vb) H2 O2 L2 (La' ++ Lb) ⟨P2.env, ⟨va, vb, La', Lb, rfl, rfl, br2, P2.br⟩, pm.nodup_iff.mp nd2, ?_, fun hq => ?_⟩
  · exact ((P1.st.trans st1).trans (P2.st.frame La')).perm fun z hz => pm.mem_iff.mpr hz
  · have hq' : qa = true ∧ qb = true := by simpa using hq
    obtain ⟨g1, g2⟩ := P1.qu hq'.1
    obtain ⟨g3, g4⟩ := P2.qu hq'.2
    exact ⟨g3.trans ((qu1 hq'.2).trans g1), fun z o e => g4 z o (g2 z o e)⟩
theorem sb_cons (ha : SE X cl qa e ca) (hb : SB X cl qb es cb) (hs : starEach (e :: es) X.env = (false, eval e X.env) :: starEach es X.env := by rfl) : SB X cl (qa && qb) (e :: es) (cCons qb ca cb) :=
  PA.imp (pa_cons ha hb hs) fun σ H Q h => cons_core h
end
end Mi
namespace Mi
open PySem PySem.Spec PyProof.Rows L2
def unfz : List W → Option (List D)
  | [] => some []
  | .fz d :: ws => match unfz ws with
    | some ds => some (d :: ds)
    | none => none
  | .lst _ :: _ => none
  | .ob _ _ :: _ => none
  | .di _ :: _ => none
theorem unfz_map : ∀ {ws : List W} {ds : List D}, unfz ws = some ds → ws = ds.map W.fz
  | [], ds, h => by cases h; rfl
  | .fz d :: ws, ds, h => by
    simp only [unfz] at h
    cases e : unfz ws with
    | none => rw [e] at h; cases h
    | some es => rw [e] at h; cases h; rw [unfz_map e]; rfl
  | .lst _ :: _, ds, h => by cases h
  | .ob _ _ :: _, ds, h => by cases h
  | .di _ :: _, ds, h => by cases h
@[simp] theorem unfz_fz : ∀ ds : List D, unfz (ds.map W.fz) = some ds
  | [] => rfl
  | d :: ds => by simp only [List.map_cons, unfz]; rw [unfz_fz ds]
def lstV : W → Option (List D)
  | .fz (.lst ds) => some ds
  | .lst ws => unfz ws
  | _ => none
def tupV : W → Option (List D)
  | .fz (.tup ds) => some ds
  | _ => none
def seqV : W → Option (List D)
  | .fz (.lst ds) => some ds
  | .fz (.tup ds) => some ds
  | .fz (.scr ds) => some ds
  | .lst ws => unfz ws
  | _ => none
section
variable {C : Cfg} {H H' : Hp} {O O' : AP} {w : W} {x : V} {L : List Addr} {ds : List D}
theorem lstV_rep (h : RepW C H O w x L) (e : lstV w = some ds) : ∃ a xs, x = .ref a ∧ H a = some (.lst xs) ∧ RepDs C H O ds xs := by
  cases w with
  | fz d =>
    cases d with
    | lst es =>
      cases e
      obtain ⟨_, a, xs, e1, h1, h2, r⟩ := h
      exact ⟨a, xs, e1, h1, r⟩
    | _ => cases e
  | lst ws =>
    have e' := unfz_map (show unfz ws = some ds from e)
    subst e'
    obtain ⟨a, xs, L', e1, h1, h2, h3, r⟩ := h
    exact ⟨a, xs, e1, h1, (RepWs.toD r).1⟩
  | ob _ _ => cases e
  | di _ => cases e
theorem tupV_rep (h : RepW C H O w x L) (e : tupV w = some ds) : ∃ a xs, x = .ref a ∧ Tp C H O a xs ∧ RepDs C H O ds xs := by
  cases w with
  | fz d =>
    cases d with
    | tup es =>
      cases e
      obtain ⟨_, a, xs, e1, h1, r⟩ := h
      exact ⟨a, xs, e1, h1, r⟩
    | _ => cases e
  | lst ws => cases e
  | ob _ _ => cases e
  | di _ => cases e
theorem seqV_rep (h : RepW C H O w x L) (e : seqV w = some ds) : ∃ a xs, x = .ref a ∧ (SqL C.K H a xs ∨ SqT C.K H a xs) ∧ RepDs C H O ds xs := by
  cases w with
  | fz d =>
    cases d with
    | lst es =>
      obtain ⟨a, xs, e1, h1, r⟩ := lstV_rep (ds := ds) h e
      exact ⟨a, xs, e1, .inl (SqL.of h1), r⟩
    | tup es =>
      obtain ⟨a, xs, e1, h1, r⟩ := tupV_rep (ds := ds) h e
      exact ⟨a, xs, e1, .inr h1.sq, r⟩
    | scr es =>
      cases e
      obtain ⟨_, a, xs, e1, h1, r⟩ := h
      exact ⟨a, xs, e1, .inl h1.sq, r⟩
    | _ => cases e
  | lst ws =>
    obtain ⟨a, xs, e1, h1, r⟩ := lstV_rep (ds := ds) h e
    exact ⟨a, xs, e1, .inl (SqL.of h1), r⟩
  | ob _ _ => cases e
  | di _ => cases e
theorem new_tup {p : Addr} {xs : List V} (hp : H p = none) (r : RepDs C H O ds xs) : RepW C (upd H p (.tup xs)) (Less O [p]) (.fz (.tup ds)) (.ref p) [] := by
  refine ⟨rfl, p, xs, rfl, .inl ⟨.inl upd_same, fun q => q.2 (by simp)⟩, RepDs.keep (Gr.new (o := .tup xs) hp).keep ds xs r⟩
theorem new_lst {p : Addr} {xs : List V} (hp : H p = none) (r : RepDs C H O ds xs) : RepW C (upd H p (.lst xs)) (fun a => O a ∨ a = p) (.lst (ds.map W.fz)) (.ref p) [p] := by
  exact ⟨p, xs, [], rfl, upd_same, .inr rfl, rfl, RepWs.ofD (RepDs.keep (Gr.newO (o := .lst xs) hp).keep ds xs r)⟩
end
section
variable {X : Cx} {cl : Nat → Addr} {e : Expr} {es : List Expr} {ca : CE} {cb : CBs} {qa qb : Bool} {pos : Pos}
end
def takes : List B → En → Res (List W × En)
  | [], ρ => .ok ([], ρ)
  | b :: bs, ρ => (take b ρ).bind fun (w, ρ1) => (takes bs ρ1).bind fun (ws, ρ2) => .ok (w :: ws, ρ2)
def isTmp : B → Bool
  | .tmp _ => true
  | _ => false
section
variable {C : Cfg} {H : Hp} {σ : Sg}
theorem BRs.keep {ρ ρ' : En} {O O' : AP} : ∀ {bs : List B} {vs : List V} {L : List Addr}, bs.all flatB = true → KeepL H O H O' L → BRs C H O ρ σ bs vs L → BRs C H O' ρ' σ bs vs L
  | [], vs, L, f, k, h => h
  | b :: bs, vs, L, f, k, h => by
    obtain ⟨v, r, L1, L2, e, e2, h1, h2⟩ := h
    subst e2
    have f' : flatB b = true ∧ bs.all flatB = true := by simpa using f
    exact ⟨v, r, L1, L2, e, rfl, h1.keep f'.1 (k.sub fun a ha => by simp [ha]), BRs.keep f'.2 (k.sub fun a ha => by simp [ha]) h2⟩
theorem takes_rep : ∀ {bs : List B} {vs : List V} {ws : List W} {ρ ρ' : En} {O : AP} {L Lb : List Addr}, BRs C H O ρ σ bs vs Lb → EnvR C H O ρ σ L → (L ++ Lb).Nodup → bs.all flatB = true → takes bs ρ = .ok (ws, ρ') →
    ∃ O' L' Lw, EnvR C H O' ρ' σ L' ∧ RepWs C H O' ws vs Lw ∧ (L' ++ Lw).Nodup ∧ (∀ a, O' a → O a) ∧ (∀ a, a ∈ L' ++ Lw → a ∈ L ++ Lb) ∧ (∀ a, O a → a ∉ L ++ Lb → O' a) ∧ (bs.all isTmp = true → ρ' = ρ)
  | [], vs, ws, ρ, ρ', O, L, Lb, h, env, nd, f, c => by
    cases c
    rw [h.1, h.2]
    exact ⟨O, L, [], env, ⟨rfl, rfl⟩, by rw [List.append_nil]; exact (List.nodup_append.mp nd).1, fun _ q => q, fun _ q => by simpa using q, fun _ q _ => q, fun _ => rfl⟩
  | b :: bs, vs, ws, ρ, ρ', O, L, Lb, h, env, nd, f, c => by
    obtain ⟨v, r, L1, L2, e, e2, h1, h2⟩ := h
    subst e; subst e2
    have f' : flatB b = true ∧ bs.all flatB = true := by simpa using f
    obtain ⟨⟨w, ρ1⟩, c1, c⟩ := Res.of_bind c
    obtain ⟨⟨ws', ρ2⟩, c2, c⟩ := Res.of_bind c
    cases c
    have nd1 : (L ++ L1).Nodup := by
      rw [← List.append_assoc] at nd
      exact (List.nodup_append.mp nd).1
    have dis : ∀ a ∈ L2, a ∉ L ++ L1 := fun a ha z => by
      rw [← List.append_assoc] at nd
      exact (List.nodup_append.mp nd).2.2 a z a ha rfl
    have nd2 : L2.Nodup := by
      rw [← List.append_assoc] at nd
      exact (List.nodup_append.mp nd).2.1
    obtain ⟨O1, M, Lw, g1, g2, g3, g4, g5, g6⟩ := take_rep h1 env nd1 c1
    have own2 := BRs.own h2
    have k2 : KeepL H O H O1 L2 := ⟨fun a o e n => ⟨e, fun q => n (g4 a q)⟩, fun a ha o e => ⟨e, g6 a (own2 a ha).1 (dis a ha)⟩⟩
    have h2' : BRs C H O1 ρ1 σ bs r (L2) := BRs.keep f'.2 k2 h2
    have ndM : (M ++ L2).Nodup := List.nodup_append.mpr ⟨(List.nodup_append.mp g3).1, nd2, fun a ha b hb e => by subst e; exact dis a hb (g5 a (by simp [ha]))⟩
    obtain ⟨O', L', Lw', k1, k3, k4, k5, k6, k7, k8⟩ := takes_rep h2' g1 ndM f'.2 c2
    have dw : ∀ a ∈ Lw, a ∉ M ++ L2 := fun a ha z => by
      rcases List.mem_append.mp z with z | z
      · exact (List.nodup_append.mp g3).2.2 a z a ha rfl
      · exact dis a z (g5 a (by simp [ha]))
    have ow := RepW.own w v Lw g2
    have rw2 : RepW C H O' w v Lw := RepW.keep w v Lw ⟨fun a o e n => ⟨e, fun q => n (k5 a q)⟩, fun a ha o e => ⟨e, k7 a (ow a ha).1 (dw a ha)⟩⟩ g2
    refine ⟨O', L', Lw ++ Lw', k1, ⟨v, r, Lw, Lw', rfl, rfl, rw2, k3⟩, ?_, fun a q => g4 a (k5 a q), fun a q => ?_, fun a q n => ?_, fun t => ?_⟩
    · have p : (L' ++ Lw' ++ Lw).Perm (L' ++ (Lw ++ Lw')) := by rw [List.append_assoc]; exact List.Perm.append_left L' List.perm_append_comm
      refine p.nodup_iff.mp (List.nodup_append.mpr ⟨k4, (List.nodup_append.mp g3).2.1, fun a ha b hb e => ?_⟩)
      subst e
      exact dw a hb (k6 a ha)
    · rcases List.mem_append.mp q with q | q
      · rcases List.mem_append.mp (k6 a (by simp [q])) with z | z
        · have := g5 a (by simp [z]); simp only [List.mem_append] at this ⊢; rcases this with t | t <;> simp [t]
        · simp [z]
      · rcases List.mem_append.mp q with q | q
        · have := g5 a (by simp [q]); simp only [List.mem_append] at this ⊢; rcases this with t | t <;> simp [t]
        · rcases List.mem_append.mp (k6 a (by simp [q])) with z | z
          · have := g5 a (by simp [z]); simp only [List.mem_append] at this ⊢; rcases this with t | t <;> simp [t]
          · simp [z]
    · have n1 : a ∉ L ++ L1 := fun z => n (by simp only [List.mem_append] at z ⊢; rcases z with t | t <;> simp [t])
      have n2 : a ∉ L2 := fun z => n (by simp [z])
      refine k7 a (g6 a q n1) fun z => ?_
      rcases List.mem_append.mp z with z | z
      · exact n1 (g5 a (by simp [z]))
      · exact n2 z
    · have t' : isTmp b = true ∧ bs.all isTmp = true := by simpa using t
      have e1 : ρ1 = ρ := by
        cases b with
        | tmp w => cases c1; rfl
        | bor i p => cases t'.1
      exact (k8 t'.2).trans e1
end
def shut (qd : Bool) (bs : List B) : Bool := bs.all flatB && (!qd || bs.all isTmp)
def cTup (qd : Bool) (cb : CBs) : CE := fun ρ => (cb ρ).bind fun (bs, ρ1) => (chk (shut qd bs)).bind fun _ => (takes bs ρ1).bind fun (ws, ρ2) => (chk (decide (ws.length ≤ 16777216))).bind fun _ => .ok (.tmp (.fz (.tup (frzs ws))), ρ2)
def cLst (qd : Bool) (cb : CBs) : CE := fun ρ => (cb ρ).bind fun (bs, ρ1) => (chk (shut qd bs)).bind fun _ => (takes bs ρ1).bind fun (ws, ρ2) => (chk (decide (ws.length ≤ 16777216))).bind fun _ => .ok (.tmp (.lst ws), ρ2)
theorem shut_ok {qd : Bool} {bs : List B} (h : shut qd bs = true) : bs.all flatB = true ∧ (qd = true → bs.all isTmp = true) := by
  unfold shut at h
  obtain ⟨h1, h2⟩ := Bool.and_eq_true_iff.mp h
  refine ⟨h1, fun e => ?_⟩
  subst e
  simpa using h2
section
variable {X : Cx} {cl : Nat → Addr} {es : List Expr} {cb : CBs} {qb qd : Bool} {pos : Pos}
theorem se_tup {k : Nat} (hb : SB X cl qb es cb) : SE X cl (qb && qd) (.Tuple es k pos) (cTup qd cb) := by
  refine PE.imp (pe_tup hb) fun σ H Q h => ?_
  obtain ⟨O, L, ρ, b0, ρ', env, nd, c, q⟩ := h
  obtain ⟨⟨bs, ρ1⟩, c1, c⟩ := Res.of_bind c
  obtain ⟨_, cs, c⟩ := Res.of_bind c
  obtain ⟨hf, ht⟩ := shut_ok (chk_ok cs)
  obtain ⟨⟨ws, ρ2⟩, c2, c⟩ := Res.of_bind c
  obtain ⟨_, c9, c⟩ := Res.of_bind c
  have hl := chk_dec c9
  cases c
  · ·
      refine ⟨O, L, ρ, bs, ρ1, env, nd, c1, fun vs H1 O1 L1 Lb P => ?_⟩
      obtain ⟨O2, L2, Lw, g1, g2, g3, g4, g5, g6, g7⟩ := takes_rep (ρ' := ρ') P.br P.env P.nd hf c2
      refine ⟨by rw [g2.length, sizeLine_eq]; exact hl, fun p hp => ?_⟩
      have rd : RepDs ⟨X.K, cl⟩ H1 (Less O2 Lw) (frzs ws) vs := RepWs.frz ws vs Lw (fun a q => q) g2
      refine q (.ref p) _ _ L2 [] (post_of g1 g3 (P.st.trans (Stp.ofO g4 g5 g6)) (fun hq => ?_) (Gr.new hp) (new_tup hp rd))
      have hq' : qb = true ∧ qd = true := by simpa using hq
      exact ⟨(g7 (ht hq'.2)).trans (P.qu hq'.1).1, (P.qu hq'.1).2⟩
theorem se_lst (hb : SB X cl qb es cb) : SE X cl (qb && qd) (.List es pos) (cLst qd cb) := by
  refine PE.imp (pe_lst hb) fun σ H Q h => ?_
  obtain ⟨O, L, ρ, b0, ρ', env, nd, c, q⟩ := h
  obtain ⟨⟨bs, ρ1⟩, c1, c⟩ := Res.of_bind c
  obtain ⟨_, cs, c⟩ := Res.of_bind c
  obtain ⟨hf, ht⟩ := shut_ok (chk_ok cs)
  obtain ⟨⟨ws, ρ2⟩, c2, c⟩ := Res.of_bind c
  obtain ⟨_, c9, c⟩ := Res.of_bind c
  have hl := chk_dec c9
  cases c
  · ·
      refine ⟨O, L, ρ, bs, ρ1, env, nd, c1, fun vs H1 O1 L1 Lb P => ?_⟩
      obtain ⟨O2, L2, Lw, g1, g2, g3, g4, g5, g6, g7⟩ := takes_rep (ρ' := ρ') P.br P.env P.nd hf c2
      refine ⟨by rw [g2.length, sizeLine_eq]; exact hl, fun p hp => ?_⟩
      have g : Gr H1 O2 (upd H1 p (.lst vs)) (fun a => O2 a ∨ a = p) [p] := Gr.newO hp
      have ow : ∀ a ∈ Lw, O2 a := fun a ha => (RepWs.own ws vs Lw g2 a ha).1
      have ndw := List.nodup_append.mp g3
      refine q (.ref p) _ _ L2 (p :: Lw) ⟨g1.grow g, ⟨p, vs, Lw, rfl, upd_same, .inr rfl, rfl, RepWs.keep ws vs Lw (g.keepL ow) g2⟩, ?_, ?_, fun hq => ?_⟩
      · refine (List.perm_middle (l₁ := L2) (a := p) (l₂ := Lw)).nodup_iff.mpr (List.nodup_cons.mpr ⟨fun z => ?_, g3⟩)
        rcases List.mem_append.mp z with z | z
        · obtain ⟨_, xs, e⟩ := g1.own p z; rw [hp] at e; cases e
        · obtain ⟨_, xs, e⟩ := RepWs.own ws vs Lw g2 p z; rw [hp] at e; cases e
      · refine ((P.st.trans (Stp.ofO g4 g5 g6)).trans g.stp).perm fun a ha => ?_
        simp only [List.mem_append, List.mem_cons, List.mem_singleton, List.not_mem_nil, or_false] at ha ⊢
        rcases ha with ha | ha | ha
        · exact .inl (.inl ha)
        · exact .inr ha
        · exact .inl (.inr ha)
      · have hq' : qb = true ∧ qd = true := by simpa using hq
        exact ⟨(g7 (ht hq'.2)).trans (P.qu hq'.1).1, fun a o e => g.ex a o ((P.qu hq'.1).2 a o e)⟩
end
def conts : List B → En → Res (List W)
  | [], _ => .ok []
  | b :: bs, ρ => (cont b ρ).bind fun w => (conts bs ρ).bind fun ws => .ok (w :: ws)
def RepA (C : Cfg) (H : Hp) (O : AP) : List W → List V → Prop
  | [], vs => vs = []
  | w :: ws, vs => ∃ v r L, vs = v :: r ∧ RepW C H O w v L ∧ RepA C H O ws r
theorem conts_rep {C : Cfg} {H : Hp} {O : AP} {ρ : En} {σ : Sg} {L T : List Addr} (e : EnvR C H O ρ σ L) (nd : L.Nodup) (d : ∀ a ∈ L, a ∉ T) : ∀ {bs : List B} {vs : List V} {ws : List W} {Lb : List Addr}, BRs C H O ρ σ bs vs Lb → (∀ a ∈ Lb, a ∈ T) → conts bs ρ = .ok ws → RepA C H (Less O T) ws vs
  | [], vs, ws, Lb, h, s, c => by cases c; exact h.1
  | b :: bs, vs, ws, Lb, h, s, c => by
    obtain ⟨v, r, L1, L2, e1, e2, h1, h2⟩ := h
    subst e2
    obtain ⟨w, c1, c⟩ := Res.of_bind c
    obtain ⟨ws', c2, c⟩ := Res.of_bind c
    cases c
    obtain ⟨Lw, rw', _⟩ := cont_rep h1 e nd d (fun a ha => s a (by simp [ha])) c1
    exact ⟨v, r, Lw, e1, rw', conts_rep e nd d h2 (fun a ha => s a (by simp [ha])) c2⟩
def CallS (C : Cfg) (r : List V → Hp → VK → Prop) (f : List W → Res W) : Prop := ∀ (H : Hp) (O : AP) (vs : List V) (ws : List W) (w : W) (Q : VK), RepA C H O ws vs → f ws = .ok w →
  (∀ v H' O' Lw, RepW C H' O' w v Lw → Gr H O H' O' Lw → Q v H') → r vs H Q
def cCallB (f : List W → Res W) (cb : CBs) : CE := fun ρ => (cb ρ).bind fun (bs, ρ1) => (conts bs ρ1).bind fun ws => (f ws).bind fun w => .ok (.tmp w, ρ1)
theorem callB_core {C : Cfg} {r : List V → Hp → VK → Prop} {f : List W → Res W} {qb : Bool} {cb : CBs} (hs : CallS C r f) {σ : Sg} {H : Hp} {Q : VK} (h : tE C qb (cCallB f cb) σ H Q) : tCB r (tB C qb cb) σ H Q := by
  obtain ⟨O, L, ρ, b0, ρ', env, nd, c, q⟩ := h
  obtain ⟨⟨bs, ρ1⟩, c1, c⟩ := Res.of_bind c
  obtain ⟨ws, c2, c⟩ := Res.of_bind c
  obtain ⟨w, c3, c⟩ := Res.of_bind c
  cases c
  refine ⟨O, L, ρ, bs, ρ', env, nd, c1, fun vs H1 O1 L1 Lb P => ?_⟩
  have ndd := List.nodup_append.mp P.nd
  have d : ∀ z ∈ L1, z ∉ Lb := fun z hz q => ndd.2.2 z hz z q rfl
  exact hs H1 (Less O1 Lb) vs ws w _ (conts_rep P.env ndd.1 d P.br (fun a ha => ha) c2) c3 fun v H' O' Lw rw' g => q v H' O' L1 Lw (post_of P.env P.nd P.st P.qu g rw')
section
variable {X : Cx} {cl : Nat → Addr} {x : Str} {p pos : Pos} {e : Expr} {es : List Expr} {cb : CBs} {qb : Bool} {id T : String} {r : List V → Hp → VK → Prop} {f : List W → Res W}
theorem se_callB (hc : CallR X (.builtin id) r) (hs : CallS ⟨X.K, cl⟩ r f) (hg : Gl X x) (hm : X.mg x = none) (hv : bootBuiltins x = some (.builtin id)) (hb : SB X cl qb (e :: es) cb) (hn : x ≠ "__name__" := by decide) (hdb : (x == ("__debug__" : Str)) = false := by decide)
    (he : starEach (e :: es) X.env = (false, eval e X.env) :: starEach es X.env := by rfl) (hpl : (backTo pos (starEach es X.env)).any (·.1) = false := by rfl) : SE X cl qb (.Call (.Name x p) (e :: es) [] pos) (cCallB f cb) :=
  PE.imp (pe_callB hc hg hm hv hb hn hdb he hpl) fun σ H Q h => callB_core hs h
theorem se_callTy (hc : CallR X (.type T) r) (hs : CallS ⟨X.K, cl⟩ r f) (hg : Gl X x) (hm : X.mg x = none) (hv : bootBuiltins x = some (.type T)) (hb : SB X cl qb (e :: es) cb) (hn : x ≠ "__name__" := by decide) (hdb : (x == ("__debug__" : Str)) = false := by decide)
    (he : starEach (e :: es) X.env = (false, eval e X.env) :: starEach es X.env := by rfl) (hpl : (backTo pos (starEach es X.env)).any (·.1) = false := by rfl) : SE X cl qb (.Call (.Name x p) (e :: es) [] pos) (cCallB f cb) :=
  PE.imp (pe_callTy hc hg hm hv hb hn hdb he hpl) fun σ H Q h => callB_core hs h
end
end Mi
namespace Mi
open PySem PySem.Spec PyProof.Rows L2
section
variable {C : Cfg} {σ : Sg} {H H1 H2 : Hp} {O O1 O2 : AP} {L L1 L2 : List Addr} {ρ ρ1 ρ2 : En} {qa qb : Bool}
theorem PostT.trans (a : PostT C σ H O L ρ qa ρ1 H1 O1 L1) (b : PostT C σ H1 O1 L1 ρ1 qb ρ2 H2 O2 L2) : PostT C σ H O L ρ (qa && qb) ρ2 H2 O2 L2 :=
  ⟨b.env, b.nd, a.st.trans b.st, fun hq => by
    have hq' : qa = true ∧ qb = true := by simpa using hq
    exact ⟨(b.qu hq'.2).1.trans (a.qu hq'.1).1, fun z o e => (b.qu hq'.2).2 z o ((a.qu hq'.1).2 z o e)⟩⟩
theorem PostT.weak (a : PostT C σ H O L ρ qa ρ1 H1 O1 L1) (h : qb = true → qa = true) : PostT C σ H O L ρ qb ρ1 H1 O1 L1 := ⟨a.env, a.nd, a.st, fun q => a.qu (h q)⟩
theorem PostT.transE {b : B} {v : V} {Lb : List Addr} (a : PostT C σ H O L ρ qa ρ1 H1 O1 L1) (p : PostE C σ H1 O1 L1 ρ1 qb b ρ2 v H2 O2 L2 Lb) : PostE C σ H O L ρ (qa && qb) b ρ2 v H2 O2 L2 Lb :=
  ⟨p.env, p.br, p.nd, a.st.trans p.st, fun hq => by
    have hq' : qa = true ∧ qb = true := by simpa using hq
    exact ⟨(p.qu hq'.2).1.trans (a.qu hq'.1).1, fun z o e => (p.qu hq'.2).2 z o ((a.qu hq'.1).2 z o e)⟩⟩
theorem PostE.weak {b : B} {v : V} {Lb : List Addr} (p : PostE C σ H O L ρ qa b ρ1 v H1 O1 L1 Lb) (h : qb = true → qa = true) : PostE C σ H O L ρ qb b ρ1 v H1 O1 L1 Lb := ⟨p.env, p.br, p.nd, p.st, fun q => p.qu (h q)⟩
end
def cAndT (ca cb : CT) : CT := fun ρ => (ca ρ).bind fun (k, ρ1) => if k = true then cb ρ1 else .ok (false, ρ1)
def cOrT (ca cb : CT) : CT := fun ρ => (ca ρ).bind fun (k, ρ1) => if k = true then .ok (true, ρ1) else cb ρ1
def cNotT (ca : CT) : CT := fun ρ => (ca ρ).bind fun (k, ρ1) => .ok (!k, ρ1)
def SW (X : Cx) (cl : Nat → Addr) (qt : Bool) (e : Expr) (c : CT) : Prop := PW X e (tT ⟨X.K, cl⟩ qt c)
section
variable {X : Cx} {cl : Nat → Addr} {a b c : Expr} {rest : List Expr} {ca cb : CT} {qa qb : Bool} {pos : Pos}
theorem SW.st (h : SW X cl qa a ca) : ST X cl qa a ca := PW.pt h
theorem sw_or1 (ha : ST X cl qa a ca) : SW X cl qa (.BoolOp .Or [a] pos) ca := pw_or1 ha
theorem sw_or (ha : ST X cl qa a ca) (hb : SW X cl qb (.BoolOp .Or (b :: rest) pos) cb) : SW X cl (qa && qb) (.BoolOp .Or (a :: b :: rest) pos) (cOrT ca cb) := by
  refine PW.imp (pw_or ha hb) fun σ H Q h => ?_
  obtain ⟨O, L, ρ, k, ρ', env, nd, c, q⟩ := h
  obtain ⟨⟨k1, ρ1⟩, c1, c⟩ := Res.of_bind c
  refine ⟨O, L, ρ, k1, ρ1, env, nd, c1, fun H1 O1 L1 P1 => ?_⟩
  cases k1 with
  | false => exact ⟨O1, L1, ρ1, k, ρ', P1.env, P1.nd, c, fun H2 O2 L2 P2 => q H2 O2 L2 (P1.trans P2)⟩
  | true => cases c; exact q H1 O1 L1 (P1.weak fun z => (Bool.and_eq_true_iff.mp z).1)
theorem st_not (ha : ST X cl qa a ca) : ST X cl qa (.UnaryOp .Not a pos) (cNotT ca) := by
  refine PT.imp (pt_not ha) fun σ H Q h => ?_
  obtain ⟨O, L, ρ, k, ρ', env, nd, c, q⟩ := h
  obtain ⟨⟨k1, ρ1⟩, c1, c⟩ := Res.of_bind c
  cases c
  exact ⟨O, L, ρ, k1, ρ', env, nd, c1, fun H1 O1 L1 P1 => q H1 O1 L1 P1⟩
end
def cAnd (ca cb : CE) : CE := fun ρ => (ca ρ).bind fun (a, ρ1) => (boolOf a).bind fun k => if k = true then cb ρ1 else .ok (.tmp (.fz (.bl false)), ρ1)
def cOr (ca cb : CE) : CE := fun ρ => (ca ρ).bind fun (a, ρ1) => (boolOf a).bind fun k => if k = true then .ok (.tmp (.fz (.bl true)), ρ1) else cb ρ1
def cNot (ca : CE) : CE := fun ρ => (ca ρ).bind fun (a, ρ1) => (boolOf a).bind fun k => .ok (.tmp (.fz (.bl (!k))), ρ1)
def cIf (ct : CT) (ca cb : CE) : CE := fun ρ => (ct ρ).bind fun (k, ρ1) => if k = true then ca ρ1 else cb ρ1
def cOrL (ca cb : CE) : CE := fun ρ => (ca ρ).bind fun (a, ρ1) => match a with
  | .tmp (.lst ws) => if ws.isEmpty = true then cb ρ1 else .ok (.tmp (.lst ws), ρ1)
  | _ => .err
section
variable {X : Cx} {cl : Nat → Addr} {a b c : Expr} {rest : List Expr} {ca cb : CE} {ct : CT} {qa qb qc : Bool} {pos : Pos}
theorem PostE.toT {C : Cfg} {σ : Sg} {H H1 : Hp} {O O1 : AP} {L L1 Lb : List Addr} {ρ ρ1 : En} {k : Bool} {v : V} (P : PostE C σ H O L ρ qa (.tmp (.fz (.bl k))) ρ1 v H1 O1 L1 Lb) : v = .bl k ∧ PostT C σ H O L ρ qa ρ1 H1 O1 L1 := by
  obtain ⟨e1, e2⟩ := P.br
  subst e1
  have nd' := P.nd
  have st' := P.st
  rw [List.append_nil] at nd' st'
  exact ⟨e2, P.env, nd', st', P.qu⟩
theorem PostT.toE {C : Cfg} {σ : Sg} {H H1 : Hp} {O O1 : AP} {L L1 : List Addr} {ρ ρ1 : En} (P : PostT C σ H O L ρ qa ρ1 H1 O1 L1) (k : Bool) : PostE C σ H O L ρ qa (.tmp (.fz (.bl k))) ρ1 (.bl k) H1 O1 L1 [] :=
  ⟨P.env, ⟨rfl, rfl⟩, by rw [List.append_nil]; exact P.nd, by rw [List.append_nil]; exact P.st, P.qu⟩
theorem se_one {op : BoolOp} (ha : SE X cl qa a ca) : SE X cl qa (.BoolOp op [a] pos) ca := pe_one ha
theorem se_and (ha : SE X cl qa a ca) (hb : SE X cl qb (.BoolOp .And (b :: rest) pos) cb) : SE X cl (qa && qb) (.BoolOp .And (a :: b :: rest) pos) (cAnd ca cb) := by
  refine PE.imp (pe_and ha hb) fun σ H Q h => ?_
  obtain ⟨O, L, ρ, b0, ρ', env, nd, c, q⟩ := h
  obtain ⟨⟨a0, ρ1⟩, c1, c⟩ := Res.of_bind c
  obtain ⟨k, c2, c⟩ := Res.of_bind c
  have e := boolOf_ok c2
  subst e
  refine ⟨O, L, ρ, _, ρ1, env, nd, c1, fun v H1 O1 L1 La P1 => ?_⟩
  obtain ⟨e, P⟩ := P1.toT
  refine ⟨k, e, ?_⟩
  cases k with
  | true => exact ⟨O1, L1, ρ1, b0, ρ', P.env, P.nd, c, fun v2 H2 O2 L2 Lb P2 => q v2 H2 O2 L2 Lb (P.transE P2)⟩
  | false => cases c; exact q _ H1 O1 L1 [] ((P.toE false).weak fun z => (Bool.and_eq_true_iff.mp z).1)
theorem se_not (ha : SE X cl qa a ca) : SE X cl qa (.UnaryOp .Not a pos) (cNot ca) := by
  refine PE.imp (pe_not ha) fun σ H Q h => ?_
  obtain ⟨O, L, ρ, b0, ρ', env, nd, c, q⟩ := h
  obtain ⟨⟨a0, ρ1⟩, c1, c⟩ := Res.of_bind c
  obtain ⟨k, c2, c⟩ := Res.of_bind c
  have e := boolOf_ok c2
  subst e
  cases c
  refine ⟨O, L, ρ, _, ρ', env, nd, c1, fun v H1 O1 L1 La P1 => ?_⟩
  obtain ⟨e, P⟩ := P1.toT
  exact ⟨k, e, q _ H1 O1 L1 [] (P.toE (!k))⟩
theorem se_if (hc : ST X cl qc c ct) (ha : SE X cl qa a ca) (hb : SE X cl qb b cb) : SE X cl (qc && (qa && qb)) (.IfExp c a b pos) (cIf ct ca cb) := by
  refine PE.imp (pe_ifExp hc ha hb) fun σ H Q h => ?_
  obtain ⟨O, L, ρ, b0, ρ', env, nd, c, q⟩ := h
  obtain ⟨⟨k, ρ1⟩, c1, c⟩ := Res.of_bind c
  refine ⟨O, L, ρ, k, ρ1, env, nd, c1, fun H1 O1 L1 P => ?_⟩
  cases k with
  | true => exact ⟨O1, L1, ρ1, b0, ρ', P.env, P.nd, c, fun v2 H2 O2 L2 Lb P2 => q v2 H2 O2 L2 Lb ((P.transE P2).weak fun z => by revert z; cases qa <;> cases qb <;> cases qc <;> simp)⟩
  | false => exact ⟨O1, L1, ρ1, b0, ρ', P.env, P.nd, c, fun v2 H2 O2 L2 Lb P2 => q v2 H2 O2 L2 Lb ((P.transE P2).weak fun z => by revert z; cases qa <;> cases qb <;> cases qc <;> simp)⟩
theorem se_orL (ha : SE X cl qa a ca) (hb : SE X cl qb (.BoolOp .Or (b :: rest) pos) cb) : SE X cl (qa && qb) (.BoolOp .Or (a :: b :: rest) pos) (cOrL ca cb) := by
  refine PE.imp (pe_orT ha hb) fun σ H Q h => ?_
  obtain ⟨O, L, ρ, b0, ρ', env, nd, c, q⟩ := h
  obtain ⟨⟨a0, ρ1⟩, c1, c⟩ := Res.of_bind c
  dsimp only at c
  split at c
  · rename_i ws
    refine ⟨O, L, ρ, _, ρ1, env, nd, c1, fun v H1 O1 L1 La P1 => ?_⟩
    obtain ⟨p, xs, L', e1, h1, h2, h3, r⟩ := P1.br
    subst e1
    refine ⟨!xs.isEmpty, .inl ⟨xs, SqL.of h1, rfl⟩, ?_⟩
    have hl := r.length
    have he : xs.isEmpty = ws.isEmpty := by cases xs <;> cases ws <;> simp at hl <;> rfl
    rw [he]
    cases hw : ws.isEmpty with
    | true =>
      rw [hw, if_pos rfl] at c
      have ndd := List.nodup_append.mp P1.nd
      have d : ∀ z ∈ L1, z ∉ La := fun z hz q => ndd.2.2 z hz z q rfl
      refine ⟨Less O1 La, L1, ρ1, b0, ρ', P1.env.less d, ndd.1, c, fun v2 H2 O2 L2 Lb P2 => q v2 H2 O2 L2 Lb ⟨P2.env, P2.br, P2.nd, P1.st.drop.trans P2.st, fun hq => ?_⟩⟩
      have hq' : qa = true ∧ qb = true := by simpa using hq
      exact ⟨(P2.qu hq'.2).1.trans (P1.qu hq'.1).1, fun z o e => (P2.qu hq'.2).2 z o ((P1.qu hq'.1).2 z o e)⟩
    | false =>
      rw [hw, if_neg (by decide)] at c
      cases c
      exact q _ H1 O1 L1 La (P1.weak fun z => (Bool.and_eq_true_iff.mp z).1)
  · cases c
end
theorem RepDs.at {C : Cfg} {H : Hp} {O : AP} {ds : List D} {xs : List V} {k : Int} {d : D} (h : RepDs C H O ds xs) (e : atI ds k = some d) : ∃ x, atI xs k = some x ∧ RepD C H O d x := by
  unfold atI at e ⊢
  rw [h.length]
  cases hk : ixN ds.length k with
  | none => rw [hk] at e; cases e
  | some j =>
    rw [hk] at e
    exact h.get (show ds[j]? = some d from e)
def fIdx (x y : W) : Res W := match y with
  | .fz (.int k) => match x with
    | .fz (.str s) => if s.length ≤ 16777216 then match atI s.cps.toList k with
      | some c => .ok (.fz (.str ⟨#[c]⟩))
      | none => .err
      else .err
    | _ => match seqV x with
      | some ds => match atI ds k with
        | some d => .ok (.fz d)
        | none => .err
      | none => .err
  | _ => .err
theorem ops_idx {C : Cfg} : OpS C (rIx C.K) fIdx := by
  intro H O x y wx wy w Lx Ly Q rx ry e q
  unfold fIdx at e
  split at e
  · rename_i k
    split at e
    · rename_i s
      split at e
      · rename_i hs
        split at e
        · rename_i c hc
          cases e
          exact .inr (.inr ⟨s, k, c, rx.2, ry.2, by rw [sizeLine_eq]; exact hs, hc, gr_same (show RepD C H O (.str ⟨#[c]⟩) (.str ⟨#[c]⟩) from rfl) q⟩)
        · cases e
      · cases e
    · split at e
      · rename_i ds hds
        split at e
        · rename_i d hd
          cases e
          obtain ⟨a, xs, e1, h1, r⟩ := seqV_rep rx hds
          obtain ⟨z, hz, rz⟩ := r.at hd
          rcases h1 with h1 | h1
          · exact .inl ⟨a, xs, k, z, e1, ry.2, h1, hz, gr_same rz q⟩
          · exact .inr (.inl ⟨a, xs, k, z, e1, ry.2, h1, hz, gr_same rz q⟩)
        · cases e
      · cases e
  · cases e
end Mi
namespace Mi
open PySem PySem.Spec PyProof.Rows L2
inductive Fl where
  | nx | ret (w : W) | bk | ct
abbrev CS := En → Res (Fl × En)
abbrev KP := Nat → Bool
structure PostS (C : Cfg) (kp : KP) (σ : Sg) (H : Hp) (O : AP) (L : List Addr) (ρ' : En) (σ' : Sg) (H' : Hp) (O' : AP) (L' Lw : List Addr) : Prop where
  env : EnvR C H' O' ρ' σ' L'
  nd : (L' ++ Lw).Nodup
  st : Stp H O L H' O' (L' ++ Lw)
  kp : ∀ i, kp i = true → σ'[i]? = σ[i]?
  ln : σ'.length = σ.length
def EndS (C : Cfg) (Dn : Ends) (σ' : Sg) (H' : Hp) (O' : AP) (Lw : List Addr) : Fl → Prop
  | .nx => Lw = [] → Dn.nx σ' H'
  | .bk => Lw = [] → Dn.bk σ' H'
  | .ct => Lw = [] → Dn.ct σ' H'
  | .ret w => ∀ v, RepW C H' O' w v Lw → Dn.rt v H'
def tS (C : Cfg) (kp : KP) (c : CS) : TS := fun Dn σ H => ∃ O L ρ fl ρ', EnvR C H O ρ σ L ∧ L.Nodup ∧ c ρ = .ok (fl, ρ') ∧ ∀ σ' H' O' L' Lw, PostS C kp σ H O L ρ' σ' H' O' L' Lw → EndS C Dn σ' H' O' Lw fl
def SS (X : Cx) (cl : Nat → Addr) (kp : KP) (st : Stmt) (c : CS) : Prop := PS X st (tS ⟨X.K, cl⟩ kp c)
def SSs (X : Cx) (cl : Nat → Addr) (kp : KP) (st : List Stmt) (c : CS) : Prop := PSs X st (tS ⟨X.K, cl⟩ kp c)
section
variable {C : Cfg} {kp : KP} {σ σ1 σ2 : Sg} {H H1 H2 : Hp} {O O1 O2 : AP} {L L1 L2 Lw : List Addr} {ρ ρ1 ρ2 : En}
theorem PostS.refl (env : EnvR C H O ρ σ L) (nd : L.Nodup) : PostS C kp σ H O L ρ σ H O L [] := ⟨env, by rw [List.append_nil]; exact nd, by rw [List.append_nil]; exact Stp.refl _ _ _, fun _ _ => rfl, rfl⟩
theorem PostS.trans (a : PostS C kp σ H O L ρ1 σ1 H1 O1 L1 []) (b : PostS C kp σ1 H1 O1 L1 ρ2 σ2 H2 O2 L2 Lw) : PostS C kp σ H O L ρ2 σ2 H2 O2 L2 Lw :=
  ⟨b.env, b.nd, by have := a.st; rw [List.append_nil] at this; exact this.trans b.st, fun i h => (b.kp i h).trans (a.kp i h), b.ln.trans a.ln⟩
theorem PostT.toS {qt : Bool} (a : PostT C σ H O L ρ qt ρ1 H1 O1 L1) : PostS C kp σ H O L ρ1 σ H1 O1 L1 [] := ⟨a.env, by rw [List.append_nil]; exact a.nd, by rw [List.append_nil]; exact a.st, fun _ _ => rfl, rfl⟩
theorem PostS.nd1 (a : PostS C kp σ H O L ρ1 σ1 H1 O1 L1 Lw) : L1.Nodup := (List.nodup_append.mp a.nd).1
theorem PostE.toS {qt : Bool} {b : B} {v : V} {Lb : List Addr} (P : PostE C σ H O L ρ qt b ρ1 v H1 O1 L1 Lb) : PostS C kp σ H O L ρ1 σ H1 (Less O1 Lb) L1 [] := by
  have ndd := List.nodup_append.mp P.nd
  exact ⟨P.env.less fun z hz q => ndd.2.2 z hz z q rfl, by rw [List.append_nil]; exact ndd.1, by rw [List.append_nil]; exact P.st.drop, fun _ _ => rfl, rfl⟩
end
def cNext : CS := fun ρ => .ok (.nx, ρ)
def cSeq (c1 c2 : CS) : CS := fun ρ => (c1 ρ).bind fun (f, ρ1) => match f with
  | .nx => c2 ρ1
  | f => .ok (f, ρ1)
def cIfS (ct : CT) (c1 c2 : CS) : CS := fun ρ => (ct ρ).bind fun (k, ρ1) => if k = true then c1 ρ1 else c2 ρ1
def move : B → En → Res (W × En)
  | .bor i [], ρ => match ρ[i]? with
    | some (some w) => .ok (w, ρ.set i none)
    | _ => .err
  | b, ρ => take b ρ
def cRet (c : CE) : CS := fun ρ => (c ρ).bind fun (b, ρ1) => (move b ρ1).bind fun (w, ρ2) => .ok (.ret w, ρ2)
def cDrop (c : CE) : CS := fun ρ => (c ρ).bind fun (_, ρ1) => .ok (.nx, ρ1)
theorem move_rep {C : Cfg} {H : Hp} {σ : Sg} {b : B} {v : V} {w : W} {ρ ρ' : En} {O : AP} {L Lb : List Addr} (h : BR C H O ρ σ b v Lb) (e : EnvR C H O ρ σ L) (nd : (L ++ Lb).Nodup) (c : move b ρ = .ok (w, ρ')) :
    ∃ O' L' Lw, EnvR C H O' ρ' σ L' ∧ RepW C H O' w v Lw ∧ (L' ++ Lw).Nodup ∧ (∀ a, O' a → O a) ∧ (∀ a, a ∈ L' ++ Lw → a ∈ L ++ Lb) ∧ ∀ a, O a → a ∉ L ++ Lb → O' a := by
  have tk : ∀ b, BR C H O ρ σ b v Lb → take b ρ = .ok (w, ρ') → ∃ O' L' Lw, EnvR C H O' ρ' σ L' ∧ RepW C H O' w v Lw ∧ (L' ++ Lw).Nodup ∧ (∀ a, O' a → O a) ∧ (∀ a, a ∈ L' ++ Lw → a ∈ L ++ Lb) ∧ ∀ a, O a → a ∉ L ++ Lb → O' a := fun b h c => take_rep h e nd c
  cases b with
  | tmp w0 => exact tk _ h c
  | bor i p =>
    cases p with
    | cons k p => exact tk _ h c
    | nil =>
      simp only [move] at c
      cases hi : ρ[i]? with
      | none => rw [hi] at c; cases c
      | some x =>
        rw [hi] at c
        cases x with
        | none => cases c
        | some w0 =>
          cases c
          obtain ⟨y, M1, M0, q1, ⟨v0, q2, q3⟩, q4, q5⟩ := e.focus hi
          obtain ⟨eb, v1, h1, h2, _⟩ := h
          subst eb
          rw [q1, q2] at h1; cases h1
          rw [h2 rfl]
          rw [List.append_nil] at nd ⊢
          have ndM : (M1 ++ M0).Nodup := q4.nodup_iff.mp nd
          obtain ⟨L', p1, p2⟩ := q5 H O none (some v0) [] ⟨fun a o e n => ⟨e, n⟩, fun a ha o z => ⟨z, (e.own a (q4.mem_iff.mpr (by simp [ha]))).1⟩⟩ rfl
          rw [q2] at q1
          rw [set_same q1] at p2
          refine ⟨O, L', M1, p2, q3, ?_, fun _ q => q, fun a q => ?_, fun _ q _ => q⟩
          · have pm : (L' ++ M1).Perm (M1 ++ M0) := (List.Perm.append_right M1 p1).trans (by simpa using List.perm_append_comm)
            exact pm.nodup_iff.mpr ndM
          · rcases List.mem_append.mp q with q | q
            · exact q4.mem_iff.mpr (by simpa using Or.inr (p1.mem_iff.mp q))
            · exact q4.mem_iff.mpr (by simp [q])
section
variable {X : Cx} {cl : Nat → Addr} {kp : KP} {st : Stmt} {rest : List Stmt} {c1 c2 : CS} {e : Expr} {ce : CE} {q : Bool} {pos : Pos}
theorem sss_nil : SSs X cl kp [] cNext := by
  refine PSs.imp pss_nil fun Dn σ H h => ?_
  obtain ⟨O, L, ρ, fl, ρ', env, nd, c, q⟩ := h
  cases c
  exact q σ H O L [] (PostS.refl env nd) rfl
theorem sss_cons (h1 : SS X cl kp st c1) (h2 : SSs X cl kp rest c2) : SSs X cl kp (st :: rest) (cSeq c1 c2) := by
  refine PSs.imp (pss_cons h1 h2) fun Dn σ H h => ?_
  obtain ⟨O, L, ρ, fl, ρ', env, nd, c, q⟩ := h
  obtain ⟨⟨f, ρ1⟩, c1', c⟩ := Res.of_bind c
  refine ⟨O, L, ρ, f, ρ1, env, nd, c1', fun σ1 H1 O1 L1 Lw P1 => ?_⟩
  cases f with
  | nx =>
    intro e
    subst e
    exact ⟨O1, L1, ρ1, fl, ρ', P1.env, P1.nd1, c, fun σ2 H2 O2 L2 Lw2 P2 => q σ2 H2 O2 L2 Lw2 (P1.trans P2)⟩
  | ret w => cases c; exact q σ1 H1 O1 L1 Lw P1
  | bk => cases c; exact q σ1 H1 O1 L1 Lw P1
  | ct => cases c; exact q σ1 H1 O1 L1 Lw P1
theorem sss_one (h1 : SS X cl kp st c1) : SSs X cl kp [st] c1 := pss_one h1
theorem ss_if {t : Expr} {ct : CT} {a b : List Stmt} (hc : ST X cl q t ct) (ha : SSs X cl kp a c1) (hb : SSs X cl kp b c2) : SS X cl kp (.If t a b pos) (cIfS ct c1 c2) := by
  refine PS.imp (ps_if hc ha hb) fun Dn σ H h => ?_
  obtain ⟨O, L, ρ, fl, ρ', env, nd, c, q⟩ := h
  obtain ⟨⟨k, ρ1⟩, c1', c⟩ := Res.of_bind c
  refine ⟨O, L, ρ, k, ρ1, env, nd, c1', fun H1 O1 L1 P1 => ?_⟩
  cases k with
  | true => exact ⟨O1, L1, ρ1, fl, ρ', P1.env, P1.nd, c, fun σ2 H2 O2 L2 Lw2 P2 => q σ2 H2 O2 L2 Lw2 (P1.toS.trans P2)⟩
  | false => exact ⟨O1, L1, ρ1, fl, ρ', P1.env, P1.nd, c, fun σ2 H2 O2 L2 Lw2 P2 => q σ2 H2 O2 L2 Lw2 (P1.toS.trans P2)⟩
theorem ss_ret (he : SE X cl q e ce) : SS X cl kp (.Return (some e) pos) (cRet ce) := by
  refine PS.imp (ps_ret he) fun Dn σ H h => ?_
  obtain ⟨O, L, ρ, fl, ρ', env, nd, c, q⟩ := h
  obtain ⟨⟨b, ρ1⟩, c1, c⟩ := Res.of_bind c
  obtain ⟨⟨w, ρ2⟩, c2, c⟩ := Res.of_bind c
  cases c
  refine ⟨O, L, ρ, b, ρ1, env, nd, c1, fun v H1 O1 L1 Lb P => ?_⟩
  obtain ⟨O2, L2, Lw, g1, g2, g3, g4, g5, g6⟩ := move_rep P.br P.env P.nd c2
  exact q σ H1 O2 L2 Lw ⟨g1, g3, P.st.trans (Stp.ofO g4 g5 g6), fun _ _ => rfl, rfl⟩ v g2
theorem ss_expr (he : SE X cl q e ce) (hs : swapsWith e none pos.line X.env = pure false := by rfl) : SS X cl kp (.Expr e pos) (cDrop ce) := by
  refine PS.imp (ps_expr he hs) fun Dn σ H h => ?_
  obtain ⟨O, L, ρ, fl, ρ', env, nd, c, q⟩ := h
  obtain ⟨⟨b, ρ1⟩, c1, c⟩ := Res.of_bind c
  cases c
  exact ⟨O, L, ρ, b, ρ', env, nd, c1, fun v H1 O1 L1 Lb P => q σ H1 _ L1 [] P.toS rfl⟩
end
abbrev CG := W → En → Res En
def gSet (i : Nat) : CG := fun w ρ => (chk (decide (i < ρ.length))).bind fun _ => .ok (ρ.set i (some w))
def tG (C : Cfg) (kp : KP) (g : CG) : TG := fun v σ H Q => ∃ O L Lw ρ w ρ', EnvR C H O ρ σ L ∧ RepW C H O w v Lw ∧ (L ++ Lw).Nodup ∧ g w ρ = .ok ρ' ∧
  ∀ σ' H' O' L', PostS C kp σ H O (L ++ Lw) ρ' σ' H' O' L' [] → Q σ' H'
def SG (X : Cx) (cl : Nat → Addr) (kp : KP) (tg : Expr) (g : CG) : Prop := PG X tg (tG ⟨X.K, cl⟩ kp g)
theorem env_set {C : Cfg} {kp : KP} {σ : Sg} {H : Hp} {O : AP} {L Lw : List Addr} {ρ : En} {i : Nat} {w : W} {v : V} (env : EnvR C H O ρ σ L) (r : RepW C H O w v Lw) (nd : (L ++ Lw).Nodup) (hi : i < ρ.length) (hk : kp i = false) :
    ∃ O' L', PostS C kp σ H O (L ++ Lw) (ρ.set i (some w)) (σ.set i (some v)) H O' L' [] := by
  obtain ⟨y, M1, M0, q1, q2, q4, q5⟩ := env.focus (List.getElem?_eq_getElem hi)
  have pm : (L ++ Lw).Perm (M1 ++ (M0 ++ Lw)) := by rw [← List.append_assoc]; exact q4.append_right Lw
  have ndM : (M1 ++ (M0 ++ Lw)).Nodup := pm.nodup_iff.mp nd
  have ow : ∀ a ∈ L ++ Lw, O a := fun a ha => by
    rcases List.mem_append.mp ha with h | h
    · exact (env.own a h).1
    · exact (RepW.own w v Lw r a h).1
  have dis : ∀ a ∈ M0 ++ Lw, a ∉ M1 := fun a ha z => (List.nodup_append.mp ndM).2.2 a z a ha rfl
  have k0 : KeepL H O H (Less O M1) (M0 ++ Lw) := keep_less dis fun a ha => ow a (pm.mem_iff.mpr (by simp only [List.mem_append] at ha ⊢; exact .inr ha))
  obtain ⟨L', p1, p2⟩ := q5 H (Less O M1) (some w) (some v) Lw (k0.sub fun a ha => by simp [ha]) ⟨v, rfl, RepW.keep w v Lw (k0.sub fun a ha => by simp [ha]) r⟩
  refine ⟨Less O M1, L', p2, ?_, ?_, fun j hj => ?_, List.length_set ..⟩
  · rw [List.append_nil]
    exact (p1.trans List.perm_append_comm).nodup_iff.mpr (List.nodup_append.mp ndM).2.1
  · rw [List.append_nil]
    refine Stp.ofO (fun a q => q.1) (fun a ha => pm.mem_iff.mpr ?_) fun a q n => ⟨q, fun z => n (pm.mem_iff.mpr (by simp [z]))⟩
    have := p1.mem_iff.mp ha
    simp only [List.mem_append] at this ⊢
    rcases this with h | h
    · exact .inr (.inr h)
    · exact .inr (.inl h)
  · have hne : i ≠ j := fun z => by rw [z, hj] at hk; cases hk
    rw [List.getElem?_set_ne hne]
section
variable {X : Cx} {cl : Nat → Addr} {kp : KP} {e : Expr} {ce : CE} {q : Bool} {pos : Pos} {g : CG}
theorem sg_name {i : Nat} {x : Str} (hN : X.N.Nodup) (hi : X.N[i]? = some x) (hx : Loc X.env.scope x) (hk : kp i = false) (hf : X.fn x = true ∨ X.env.scope.names.lookup x = some .local := by first | exact .inl rfl | exact .inr rfl | assumption) : SG X cl kp (.Name x pos) (gSet i) := by
  refine PG.imp (pg_name hN hi hx hf) fun v σ H Q h => ?_
  obtain ⟨O, L, Lw, ρ, w, ρ', env, r, nd, c, q⟩ := h
  obtain ⟨_, c1, c⟩ := Res.of_bind c
  cases c
  obtain ⟨O', L', P⟩ := env_set env r nd (chk_dec c1) hk
  exact q _ H O' L' P
abbrev CGs := List D → En → Res En
def gsNil : CGs := fun ds ρ => (chk ds.isEmpty).bind fun _ => .ok ρ
def gsCons (g : CG) (gs : CGs) : CGs := fun ds ρ => match ds with
  | d :: r => (g (.fz d) ρ).bind fun ρ1 => gs r ρ1
  | [] => .err
def tGs (C : Cfg) (kp : KP) (g : CGs) : TGs := fun vs σ H Q => ∃ O L ρ ds ρ', EnvR C H O ρ σ L ∧ RepDs C H O ds vs ∧ L.Nodup ∧ g ds ρ = .ok ρ' ∧ ∀ σ' H' O' L', PostS C kp σ H O L ρ' σ' H' O' L' [] → Q σ' H'
theorem PGs.imp {X : Cx} {e : List Expr} {t t' : TGs} (h : PGs X e t) (k : ∀ v σ H Q, t' v σ H Q → t v σ H Q) : PGs X e t' := ⟨fun pins s σ H v u Q I r q => h.run pins s σ H v u Q I r (k v σ H Q q)⟩
def SGs (X : Cx) (cl : Nat → Addr) (kp : KP) (tgs : List Expr) (g : CGs) : Prop := PGs X tgs (tGs ⟨X.K, cl⟩ kp g)
theorem sgs_nil : SGs X cl kp [] gsNil := by
  refine PGs.imp pgs_nil fun vs σ H Q h => ?_
  obtain ⟨O, L, ρ, ds, ρ', env, r, nd, c, q⟩ := h
  obtain ⟨_, c1, c⟩ := Res.of_bind c
  cases c
  have hd := chk_ok c1
  cases ds with
  | nil => exact ⟨r, q σ H O L (PostS.refl env nd)⟩
  | cons d r => cases hd
theorem sgs_cons {es : List Expr} {gs : CGs} (h1 : SG X cl kp e g) (h2 : SGs X cl kp es gs) (hs : (assignEach (e :: es) X.env).map (·.2) = assign e X.env :: (assignEach es X.env).map (·.2) := by rfl) : SGs X cl kp (e :: es) (gsCons g gs) := by
  refine PGs.imp (pgs_cons h1 h2 hs) fun vs σ H Q h => ?_
  obtain ⟨O, L, ρ, ds, ρ', env, r, nd, c, q⟩ := h
  cases ds with
  | nil => cases c
  | cons d ds =>
    obtain ⟨x, xs, e1, r1, r2⟩ := r
    obtain ⟨ρ1, c1, c2⟩ := Res.of_bind c
    refine ⟨x, xs, e1, O, L, [], ρ, .fz d, ρ1, env, ⟨rfl, r1⟩, by rw [List.append_nil]; exact nd, c1, fun σ1 H1 O1 L1 P1 => ?_⟩
    have st := P1.st
    rw [List.append_nil, List.append_nil] at st
    have own : ∀ a ∈ L, O a := fun a ha => (env.own a ha).1
    refine ⟨O1, L1, ρ1, ds, ρ', P1.env, RepDs.keep (st.keep own) ds xs r2, P1.nd1, c2, fun σ2 H2 O2 L2 P2 => q σ2 H2 O2 L2 ?_⟩
    have P1' : PostS ⟨X.K, cl⟩ kp σ H O L ρ1 σ1 H1 O1 L1 [] := ⟨P1.env, P1.nd, by rw [List.append_nil]; exact st, P1.kp, P1.ln⟩
    exact P1'.trans P2
def gTupG (gs : CGs) : CG := fun w ρ => match w with
  | .fz (.tup ds) => gs ds ρ
  | _ => .err
theorem gsNil_len : ∀ ds ρ ρ', gsNil ds ρ = .ok ρ' → ds.length = 0 := fun ds ρ ρ' h => by
  obtain ⟨_, c1, _⟩ := Res.of_bind h
  have := chk_ok c1
  cases ds with
  | nil => rfl
  | cons d r => cases this
theorem gsCons_len {n : Nat} {gs : CGs} (h : ∀ ds ρ ρ', gs ds ρ = .ok ρ' → ds.length = n) : ∀ ds ρ ρ', gsCons g gs ds ρ = .ok ρ' → ds.length = n + 1 := fun ds ρ ρ' c => by
  cases ds with
  | nil => cases c
  | cons d r =>
    obtain ⟨ρ1, _, c2⟩ := Res.of_bind c
    rw [List.length_cons, h _ _ _ c2]
def cAsg (g : CG) (c : CE) : CS := fun ρ => (c ρ).bind fun (b, ρ1) => (take b ρ1).bind fun (w, ρ2) => (g w ρ2).bind fun ρ3 => .ok (.nx, ρ3)
theorem asg_core {C : Cfg} {σ : Sg} {H : Hp} {Dn : Ends} (h : tS C kp (cAsg g ce) Dn σ H) : tAsg (tE C q ce) (tG C kp g) Dn σ H := by
  obtain ⟨O, L, ρ, fl, ρ', env, nd, c, q⟩ := h
  obtain ⟨⟨b, ρ1⟩, c1, c⟩ := Res.of_bind c
  obtain ⟨⟨w, ρ2⟩, c2, c⟩ := Res.of_bind c
  obtain ⟨ρ3, c3, c⟩ := Res.of_bind c
  cases c
  refine ⟨O, L, ρ, b, ρ1, env, nd, c1, fun v H1 O1 L1 Lb P => ?_⟩
  obtain ⟨O2, L2, Lw, g1, g2, g3, g4, g5, g6⟩ := take_rep P.br P.env P.nd c2
  refine ⟨O2, L2, Lw, ρ2, w, ρ', g1, g2, g3, c3, fun σ3 H3 O3 L3 P3 => q σ3 H3 O3 L3 [] ⟨P3.env, P3.nd, (P.st.trans (Stp.ofO g4 g5 g6)).trans P3.st, P3.kp, P3.ln⟩ rfl⟩
theorem ss_asg {tg : Expr} (he : SE X cl q e ce) (hg : SG X cl kp tg g) (hs : swapsWithSole [tg] e pos.line X.env = pure false := by rfl) (hw : swappedStores [tg] e X.env = pure none := by rfl)
    (h1 : (assignEach [tg] X.env).map (·.2) = [assign tg X.env] := by rfl) : SS X cl kp (.Assign [tg] e pos) (cAsg g ce) := PS.imp (ps_asg he hg hs hw h1) fun Dn σ H h => asg_core h
end
end Mi
namespace Mi
open PySem PySem.Spec PyProof.Rows L2
def JR (C : Cfg) (H : Hp) (O : AP) (J : It) (ds : List D) : Prop := ∀ (i : Nat) (H1 : Hp) (O1 : AP), Keep H O H1 O1 →
  (∀ d, ds[i]? = some d → J.go i H1 ∧ ∀ x H2, J.yld i H1 x H2 → ∃ O2, Gr H1 O1 H2 O2 [] ∧ RepD C H2 O2 d x) ∧ (ds.length ≤ i → J.stop i H1)
abbrev CI := En → Res (List D × En)
def tI (C : Cfg) (c : CI) : TI := fun σ H R => ∃ O L ρ ds ρ', EnvR C H O ρ σ L ∧ L.Nodup ∧ c ρ = .ok (ds, ρ') ∧
  ∀ J H' O' L', EnvR C H' O' ρ' σ L' → L'.Nodup → Stp H O L H' O' L' → JR C H' O' J ds → R J H'
def SI (X : Cx) (cl : Nat → Addr) (tg iter : Expr) (c : CI) : Prop := PI X tg iter (tI ⟨X.K, cl⟩ c)
theorem Keep.refl (H : Hp) (O : AP) : Keep H O H O := fun a o e n => ⟨e, n⟩
theorem Keep.trans {H H1 H2 : Hp} {O O1 O2 : AP} (a : Keep H O H1 O1) (b : Keep H1 O1 H2 O2) : Keep H O H2 O2 := fun c o e n => b c o (a c o e n).1 (a c o e n).2
def forL (g : CG) (body : CS) : List D → En → Res (Fl × En)
  | [], ρ => .ok (.nx, ρ)
  | d :: ds, ρ => (g (.fz d) ρ).bind fun ρ1 => (body ρ1).bind fun (f, ρ2) => match f with
    | .nx => forL g body ds ρ2
    | .ct => forL g body ds ρ2
    | .bk => .ok (.nx, ρ2)
    | .ret w => .ok (.ret w, ρ2)
def cFor (ci : CI) (g : CG) (body : CS) : CS := fun ρ => (ci ρ).bind fun (ds, ρ1) => forL g body ds ρ1
section
variable {X : Cx} {cl : Nat → Addr} {kp : KP} {tg iter : Expr} {body : List Stmt} {ci : CI} {g : CG} {cb : CS} {pos : Pos}
theorem ss_for (hp : PassesOwn (model X.prog X.w) X.A X.env X.xe) (hc : X.calm = true) (hi : SI X cl tg iter ci) (hg : SG X cl kp tg g) (hb : SSs X cl kp body cb) (hs : ∀ x, foldedSetIterable iter X.env x = pure x := by intro _; rfl) :
    SS X cl kp (.For tg iter body [] pos) (cFor ci g cb) := by
  refine PS.imp (ps_for hp hc hi hg hb hs) fun Dn σ H h => ?_
  obtain ⟨O, L, ρ, fl, ρ', env, nd, c, q⟩ := h
  obtain ⟨⟨ds, ρ1⟩, c1, c⟩ := Res.of_bind c
  refine ⟨O, L, ρ, ds, ρ1, env, nd, c1, fun J H1 O1 L1 env1 nd1 st1 jr => ?_⟩
  refine ⟨fun i m σ2 H2 => m = ds.length - i ∧ i ≤ ds.length ∧ ∃ O2 L2 ρ2, PostS ⟨X.K, cl⟩ kp σ H O L ρ2 σ2 H2 O2 L2 [] ∧ Keep H1 O1 H2 O2 ∧ forL g cb (ds.drop i) ρ2 = .ok (fl, ρ'), ⟨ds.length, by simp, Nat.zero_le _, O1, L1, ρ1, ⟨env1, by rw [List.append_nil]; exact nd1, by rw [List.append_nil]; exact st1, fun _ _ => rfl, rfl⟩, Keep.refl _ _, by simpa using c⟩, ?_⟩
  rintro i m σ2 H2 ⟨rfl, hi, O2, L2, ρ2, P2, k2, c2⟩
  obtain ⟨jgo, jstop⟩ := jr i H2 O2 k2
  by_cases hlt : i < ds.length
  · refine .inr ?_
    have ed : ds.drop i = ds[i] :: ds.drop (i + 1) := List.drop_eq_getElem_cons hlt
    obtain ⟨go, yl⟩ := jgo ds[i] (List.getElem?_eq_getElem hlt)
    rw [ed] at c2
    obtain ⟨ρ3, c3, c2⟩ := Res.of_bind c2
    obtain ⟨⟨f, ρ4⟩, c4, c2⟩ := Res.of_bind c2
    refine ⟨go, fun σ' H' => i + 1 ≤ ds.length ∧ ∃ O' L' ρ'', PostS ⟨X.K, cl⟩ kp σ H O L ρ'' σ' H' O' L' [] ∧ Keep H1 O1 H' O' ∧ forL g cb (ds.drop (i + 1)) ρ'' = .ok (fl, ρ'), fun σ' H' hN => ⟨ds.length - (i + 1), by omega, rfl, hN.1, hN.2⟩, fun x H3 hy => ?_⟩
    obtain ⟨O3, gr, rd⟩ := yl x H3 hy
    have env3 := P2.env.grow gr
    have nd2 := P2.nd1
    have st3 : Stp H2 O2 L2 H3 O3 L2 := by have := gr.stp (L := L2); rw [List.append_nil] at this; exact this
    refine ⟨O3, L2, [], ρ2, .fz ds[i], ρ3, env3, ⟨rfl, rd⟩, by rw [List.append_nil]; exact nd2, c3, fun σ4 H4 O4 L4 P4 => ?_⟩
    have P4' : PostS ⟨X.K, cl⟩ kp σ2 H2 O2 L2 ρ3 σ4 H4 O4 L4 [] := ⟨P4.env, P4.nd, by
      have s4 := P4.st
      rw [List.append_nil, List.append_nil] at s4
      rw [List.append_nil]
      exact st3.trans s4, P4.kp, P4.ln⟩
    have P5 := P2.trans P4'
    refine ⟨O4, L4, ρ3, f, ρ4, P4.env, P4.nd1, c4, fun σ5 H5 O5 L5 Lw P6 => ?_⟩
    have P7 := P5.trans P6
    have own2 : ∀ a ∈ L2, O2 a := fun a ha => (P2.env.own a ha).1
    have own4 : ∀ a ∈ L4, O4 a := fun a ha => (P4.env.own a ha).1
    have k5 : Keep H1 O1 H5 O5 := by
      have s4 := P4'.st
      rw [List.append_nil] at s4
      exact k2.trans ((s4.keep own2).trans (P6.st.keep own4))
    cases f with
    | nx => intro e; subst e; exact ⟨hlt, O5, L5, ρ4, P7, k5, c2⟩
    | ct => intro e; subst e; exact ⟨hlt, O5, L5, ρ4, P7, k5, c2⟩
    | bk => intro e; subst e; cases c2; exact q σ5 H5 O5 L5 [] P7 rfl
    | ret w => cases c2; exact q σ5 H5 O5 L5 Lw P7
  · refine .inl ⟨jstop (by omega), ?_⟩
    rw [List.drop_eq_nil_of_le (by omega)] at c2
    cases c2
    exact q σ2 H2 O2 L2 [] P2 rfl
end
section
variable {X : Cx} {cl : Nat → Addr} {kp : KP} {t : Expr} {body : List Stmt} {ct : CT} {cb : CS} {pos : Pos} {qt : Bool} {n : Nat}
end
def wipeE (ρ : En) : List Nat → En
  | [] => ρ
  | v :: vs => (wipeE ρ vs).set v none
def restE (ρ : En) : List Nat → En → En
  | [], ρ' => ρ'
  | v :: vs, ρ' => restE ρ vs (ρ'.set v ((wipeE ρ vs)[v]?.join))
theorem wipeE_length (ρ : En) : ∀ vs : List Nat, (wipeE ρ vs).length = ρ.length
  | [] => rfl
  | v :: vs => by unfold wipeE; rw [List.length_set, wipeE_length ρ vs]
theorem wipeE_none (ρ : En) : ∀ {vs : List Nat} {v : Nat}, v ∈ vs → v < ρ.length → (wipeE ρ vs)[v]? = some none
  | [], v, h, _ => by simp at h
  | u :: vs, v, h, hl => by
    unfold wipeE
    by_cases e : u = v
    · subst e
      rw [List.getElem?_set_self (by rw [wipeE_length]; exact hl)]
    · rw [List.getElem?_set_ne e]
      rcases List.mem_cons.mp h with z | z
      · exact absurd z.symm e
      · exact wipeE_none ρ z hl
theorem EnvR.split {C : Cfg} {H : Hp} {O : AP} {ρ : En} {σ : Sg} {L : List Addr} (env : EnvR C H O ρ σ L) : ∀ {vs : List Nat}, (∀ v ∈ vs, v < ρ.length) →
    ∃ Lo Li, L.Perm (Lo ++ Li) ∧ EnvR C H O (wipeE ρ vs) (wipe σ vs) Li ∧
      ∀ H' O' ρ'' Li', KeepL H O H' O' Lo → EnvR C H' O' ρ'' (wipe σ vs) Li' → (∀ v ∈ vs, ρ''[v]? = some none) → ∃ L'', L''.Perm (Lo ++ Li') ∧ EnvR C H' O' (restE ρ vs ρ'') σ L''
  | [], _ => ⟨[], L, .refl _, env, fun H' O' ρ'' Li' _ e _ => ⟨Li', .refl _, e⟩⟩
  | v :: vs, hv => by
    obtain ⟨Lo, Li, p, e1, rest⟩ := env.split (vs := vs) fun u hu => hv u (by simp [hu])
    have hl : v < (wipeE ρ vs).length := by rw [wipeE_length]; exact hv v (by simp)
    obtain ⟨y, M1, M0, q1, q2, q4, q5⟩ := e1.focus (List.getElem?_eq_getElem hl)
    obtain ⟨L', p1, p2⟩ := q5 H O none none [] ⟨Keep.refl _ _, fun a ha o z => ⟨z, (e1.own a (q4.mem_iff.mpr (by simp [ha]))).1⟩⟩ rfl
    have pL : L'.Perm M0 := p1
    refine ⟨Lo ++ M1, L', ?_, p2, fun H' O' ρ'' Li' k e hn => ?_⟩
    · rw [List.append_assoc]
      exact p.trans (List.Perm.append_left Lo (q4.trans (List.Perm.append_left M1 pL.symm)))
    · have hy : (wipe σ vs)[v]? = some y := q1
      obtain ⟨y2, N1, N0, g1, g2, g4, g5⟩ := e.focus (hn v (by simp))
      have gN : N1 = [] := g2
      subst gN
      obtain ⟨L2, p3, p4⟩ := g5 H' O' (some (wipeE ρ vs)[v]).join y M1 ⟨Keep.refl _ _, fun a ha o z => ⟨z, (e.own a (g4.mem_iff.mpr (by simp [ha]))).1⟩⟩ (by
        have : SlotR C H' O' (wipeE ρ vs)[v] y M1 := q2.keep (k.sub fun a ha => by simp [ha])
        exact this)
      have es : ((wipe σ vs).set v none).set v y = wipe σ vs := by rw [List.set_set]; exact set_same hy
      have p4' : EnvR C H' O' (ρ''.set v ((wipeE ρ vs)[v]?.join)) (wipe σ vs) L2 := by
        rw [List.getElem?_eq_getElem hl]
        have z : EnvR C H' O' (ρ''.set v (some (wipeE ρ vs)[v]).join) (((wipe σ vs).set v none).set v y) L2 := p4
        rw [es] at z
        exact z
      have hlen : ρ''.length = (wipe σ vs).length := by
        have := e.length
        rw [← this]; show (((wipe σ vs).set v none)).length = _; rw [List.length_set]
      obtain ⟨L3, p5, p6⟩ := rest H' O' _ L2 (k.sub fun a ha => by simp [ha]) p4' fun u hu => by
        by_cases e : v = u
        · subst e
          have hj : ((wipeE ρ vs)[v]?).join = none := by rw [wipeE_none ρ hu (hv v (by simp))]; rfl
          rw [hj, List.getElem?_set_self (by
            obtain ⟨hh, _⟩ := List.getElem?_eq_some_iff.mp (hn v (by simp))
            exact hh)]
        · rw [List.getElem?_set_ne e]
          exact hn u (by simp [hu])
      refine ⟨L3, ?_, p6⟩
      have pp : L2.Perm (M1 ++ Li') := p3.trans (List.Perm.append_left M1 (by simpa using g4.symm))
      rw [List.append_assoc]
      exact p5.trans (List.Perm.append_left Lo pp)
theorem wipe_ext {σ σ' : Sg} : ∀ {vs : List Nat}, σ'.length = σ.length → (∀ i, i ∉ vs → σ'[i]? = σ[i]?) → wipe σ' vs = wipe σ vs := by
  intro vs hl h
  apply List.ext_getElem?
  intro i
  by_cases hi : i ∈ vs
  · have key : ∀ (σ : Sg) (vs : List Nat), i ∈ vs → i < σ.length → (wipe σ vs)[i]? = some none := by
      intro σ vs
      induction vs with
      | nil => intro h _; simp at h
      | cons v vs ih =>
        intro h hl
        unfold wipe
        by_cases e : v = i
        · subst e; rw [List.getElem?_set_self (by rw [wipe_length]; exact hl)]
        · rw [List.getElem?_set_ne e]
          rcases List.mem_cons.mp h with z | z
          · exact absurd z.symm e
          · exact ih z hl
    by_cases hb : i < σ.length
    · rw [key σ vs hi hb, key σ' vs hi (by omega)]
    · rw [List.getElem?_eq_none (by rw [wipe_length]; omega), List.getElem?_eq_none (by rw [wipe_length]; omega)]
  · rw [wipe_out hi, wipe_out hi, h i hi]
theorem wipe_wipe {σ : Sg} {vs : List Nat} : wipe (wipe σ vs) vs = wipe σ vs := wipe_ext (wipe_length σ vs) fun i hi => wipe_out hi
end Mi
namespace Mi
open PySem PySem.Spec PyProof.Rows L2
def lcL (vs : List Nat) (g : CG) (ct : CT) (ce : CE) : List D → En → Res (List W × En)
  | [], ρ => .ok ([], ρ)
  | d :: ds, ρ => (g (.fz d) ρ).bind fun ρa => (ct ρa).bind fun (k, ρb) => if k = true then (ce ρb).bind fun (b, ρc) => (take b ρc).bind fun (w, ρd) => (lcL vs g ct ce ds (wipeE ρd vs)).bind fun (ws, ρ') => .ok (w :: ws, ρ')
    else lcL vs g ct ce ds (wipeE ρb vs)
def cLc (vs : List Nat) (ci : CI) (g : CG) (ct : CT) (ce : CE) : CE := fun ρ => (ci ρ).bind fun (ds, ρ1) => (chk (vs.all fun v => decide (v < ρ1.length))).bind fun _ => (chk (decide (ds.length ≤ 16777216))).bind fun _ =>
  (lcL vs g ct ce ds (wipeE ρ1 vs)).bind fun (ws, ρ2) => .ok (.tmp (.lst ws), restE ρ1 vs ρ2)
def kpOf (vs : List Nat) : KP := fun i => !vs.contains i
theorem kpOf_out {vs : List Nat} {i : Nat} (h : i ∉ vs) : kpOf vs i = true := by unfold kpOf; simp [h]
section
variable {C : Cfg} {σ : Sg} {H H' : Hp} {O : AP} {L T : List Addr}
theorem keep_mut {a : Addr} {o : HO} (h : O a) (d : a ∉ T) (own : ∀ b ∈ T, O b) : KeepL H O (upd H a o) O T :=
  ⟨fun b u e n => ⟨(upd_ne (show b ≠ a from fun z => n (by rw [z]; exact h))).trans e, n⟩, fun b hb u e => ⟨(upd_ne (show b ≠ a from fun z => d (by rw [← z]; exact hb))).trans e, own b hb⟩⟩
theorem Stp.mut {a : Addr} {o u : HO} (ha : a ∈ L) (hu : H a = some u) : Stp H O L (upd H a o) O L :=
  ⟨fun b u e n => (upd_ne (show b ≠ a from fun z => n (by rw [z]; exact ha))).trans e, fun b q => .inl q, fun b u _ q _ => q, fun b q => .inl q, fun b u e => by
    by_cases z : b = a
    · exact ⟨o, by rw [z]; exact upd_same⟩
    · exact ⟨u, by rw [upd_ne z]; exact e⟩⟩
end
def SSTs (X : Cx) (cl : Nat → Addr) (qt : Bool) (ifs : List Expr) (c : CT) : Prop := PTs X ifs (tT ⟨X.K, cl⟩ qt c)
theorem PTs.imp {X : Cx} {e : List Expr} {t t' : TT} (h : PTs X e t) (k : ∀ σ H Q, t' σ H Q → t σ H Q) : PTs X e t' := ⟨fun pins s σ H Q I q => h.run pins s σ H Q I (k σ H Q q)⟩
def cYes : CT := fun ρ => .ok (true, ρ)
section
variable {X : Cx} {cl : Nat → Addr} {elt tg iter : Expr} {ifs : List Expr} {scope : Scope} {own : List (Str × Nat)} {pos : Pos} {ci : CI} {g : CG} {ct : CT} {ce : CE} {qt qe : Bool}
theorem sts_nil : SSTs X cl true [] cYes := by
  refine PTs.imp pts_nil fun σ H Q h => ?_
  obtain ⟨O, L, ρ, k, ρ', env, nd, c, q⟩ := h
  cases c
  exact q H O L ⟨env, nd, Stp.refl _ _ _, fun _ => ⟨rfl, fun _ _ e => e⟩⟩
theorem sts_one {c : Expr} (h : ST X cl qt c ct) : SSTs X cl qt [c] ct := pts_one h
theorem lc_mir {vs : List Nat} {C : Cfg} {σ : Sg} {H : Hp} {Q : VK} (h : tE C false (cLc vs ci g ct ce) σ H Q) : tLc (tI C ci) (tG C (kpOf vs) g) (tT C qt ct) (tE C qe ce) vs σ H Q := by
  obtain ⟨O, L, ρ, b0, ρ', env, nd, c, q⟩ := h
  obtain ⟨⟨ds, ρ1⟩, c1, c⟩ := Res.of_bind c
  obtain ⟨_, cv, c⟩ := Res.of_bind c
  obtain ⟨_, cz, c⟩ := Res.of_bind c
  obtain ⟨⟨ws, ρ2⟩, c2, c⟩ := Res.of_bind c
  cases c
  have hz : ds.length ≤ 16777216 := chk_dec cz
  refine ⟨O, L, ρ, ds, ρ1, env, nd, c1, fun J H1 O1 L1 env1 nd1 st1 jr Dd hD => ?_⟩
  have hv : ∀ v ∈ vs, v < ρ1.length := fun v hv => by
    have := List.all_eq_true.mp (chk_ok cv) v hv
    exact of_decide_eq_true this
  obtain ⟨Lo, Li, pm, envI, rest⟩ := env1.split hv
  have own1 : ∀ a ∈ L1, O1 a := fun a ha => (env1.own a ha).1
  have ndS : (Lo ++ Li).Nodup := pm.nodup_iff.mp nd1
  have ownI : ∀ a ∈ Li, O1 a := fun a ha => own1 a (pm.mem_iff.mpr (by simp [ha]))
  have ownO : ∀ a ∈ Lo, O1 a := fun a ha => own1 a (pm.mem_iff.mpr (by simp [ha]))
  have disO : ∀ a ∈ Lo, a ∉ Li := fun a ha z => (List.nodup_append.mp ndS).2.2 a ha a z rfl
  refine ⟨fun i m H2 => m = ds.length - i ∧ i ≤ ds.length ∧ ∃ O2 L2 ρi wsd wsr La, EnvR C H2 O2 ρi (wipe σ vs) L2 ∧ RepW C H2 O2 (.lst wsd) (.ref Dd) La ∧ (L2 ++ La).Nodup ∧ Stp H1 O1 Li H2 O2 (L2 ++ La) ∧ (∀ v ∈ vs, ρi[v]? = some none) ∧ wsd.length ≤ i ∧
      lcL vs g ct ce (ds.drop i) ρi = .ok (wsr, ρ2) ∧ ws = wsd ++ wsr, ⟨ds.length, by simp, Nat.zero_le _, fun a => O1 a ∨ a = Dd, Li, wipeE ρ1 vs, [], ws, [Dd], ?_, ?_, ?_, ?_, ?_, ?_, ?_, rfl⟩, ?_⟩
  · exact envI.grow (Gr.newO hD)
  · exact ⟨Dd, [], [], rfl, upd_same, .inr rfl, rfl, rfl, rfl⟩
  · refine List.nodup_append.mpr ⟨(List.nodup_append.mp ndS).2.1, by simp, fun a ha b hb e => ?_⟩
    have e2 : b = Dd := by simpa using hb
    subst e; subst e2
    obtain ⟨_, xs, z⟩ := envI.own a ha
    rw [hD] at z; cases z
  · exact (Gr.newO hD).stp
  · exact fun v hv' => wipeE_none ρ1 hv' (hv v hv')
  · exact Nat.zero_le _
  · simpa using c2
  · rintro i m H2 ⟨rfl, hi, O2, L2, ρi, wsd, wsr, La, e2, ra, nd2, st2, hn, hwl, c3, ew⟩
    obtain ⟨jgo, jstop⟩ := jr i H2 O2 (st2.keep ownI)
    have ndd := List.nodup_append.mp nd2
    by_cases hlt : i < ds.length
    · refine .inr ?_
      have ed : ds.drop i = ds[i] :: ds.drop (i + 1) := List.drop_eq_getElem_cons hlt
      obtain ⟨go, yl⟩ := jgo ds[i] (List.getElem?_eq_getElem hlt)
      rw [ed] at c3
      obtain ⟨ρa, c4, c3⟩ := Res.of_bind c3
      obtain ⟨⟨k, ρb⟩, c5, c3⟩ := Res.of_bind c3
      refine ⟨go, fun H' => i + 1 ≤ ds.length ∧ ∃ O2 L2 ρi wsd wsr La, EnvR C H' O2 ρi (wipe σ vs) L2 ∧ RepW C H' O2 (.lst wsd) (.ref Dd) La ∧ (L2 ++ La).Nodup ∧ Stp H1 O1 Li H' O2 (L2 ++ La) ∧ (∀ v ∈ vs, ρi[v]? = some none) ∧ wsd.length ≤ i + 1 ∧
          lcL vs g ct ce (ds.drop (i + 1)) ρi = .ok (wsr, ρ2) ∧ ws = wsd ++ wsr, fun H' hN => ⟨ds.length - (i + 1), by omega, rfl, hN.1, hN.2⟩, fun x H3 hy => ?_⟩
      obtain ⟨O3, gr, rd⟩ := yl x H3 hy
      have env3 := e2.grow gr
      have owA : ∀ a ∈ La, O2 a ∧ ∃ xs, H2 a = some xs := RepW.own _ _ _ ra
      have ra3 := RepW.keep _ _ _ (gr.keepL fun a ha => (owA a ha).1) ra
      have st3 : Stp H2 O2 L2 H3 O3 L2 := by have := gr.stp (L := L2); rw [List.append_nil] at this; exact this
      have dA : ∀ a ∈ La, a ∉ L2 := fun a ha z => ndd.2.2 a z a ha rfl
      refine ⟨O3, L2, [], ρi, .fz ds[i], ρa, env3, ⟨rfl, rd⟩, by rw [List.append_nil]; exact ndd.1, c4, fun σ4 H4 O4 L4 P4 => ?_⟩
      have s4 := P4.st
      rw [List.append_nil, List.append_nil] at s4
      have hw4 : wipe σ4 vs = wipe σ vs := by
        rw [← wipe_wipe (σ := σ) (vs := vs)]
        exact wipe_ext P4.ln fun j hj => P4.kp j (kpOf_out hj)
      refine ⟨hw4, O4, L4, ρa, k, ρb, P4.env, P4.nd1, c5, fun H5 O5 L5 P5 => ?_⟩
      -- from the turn's start to behind the tests
      have s25 : Stp H2 O2 L2 H5 O5 L5 := (st3.trans s4).trans P5.st
      have own2 : ∀ a ∈ L2, O2 a := fun a ha => (e2.own a ha).1
      have lens : ∀ {ρx : En} {Hx : Hp} {Ox : AP} {Lx : List Addr}, EnvR C Hx Ox ρx σ4 Lx → ∀ v ∈ vs, v < ρx.length := fun {ρx Hx Ox Lx} ex v hv' => by
        have h1 := ex.length
        have h2 := P4.ln
        have h3 := wipe_length σ vs
        have h4 := env1.length
        have := hv v hv'
        omega
      cases k with
      | true =>
        refine iteT ?_
        obtain ⟨⟨b, ρc⟩, c6, c3⟩ := Res.of_bind c3
        obtain ⟨⟨w, ρd⟩, c7, c3⟩ := Res.of_bind c3
        obtain ⟨⟨ws', ρe⟩, c8, c3⟩ := Res.of_bind c3
        cases c3
        refine ⟨O5, L5, ρb, b, ρc, P5.env, P5.nd, c6, fun y H6 O6 L6 Lb P6 => ?_⟩
        obtain ⟨O7, L7, Lw, g1, g2, g3, g4, g5, g6⟩ := take_rep P6.br P6.env P6.nd c7
        have s67 : Stp H6 O6 (L6 ++ Lb) H6 O7 (L7 ++ Lw) := Stp.ofO g4 g5 g6
        have s27 : Stp H2 O2 L2 H6 O7 (L7 ++ Lw) := (s25.trans P6.st).trans s67
        have ra7 : RepW C H6 O7 (.lst wsd) (.ref Dd) La := RepW.keep _ _ _ (s27.keepL own2 (fun a ha => (owA a ha).1) dA) ra
        have nd7 : (L7 ++ Lw ++ La).Nodup := nodup_frame s27 g3 ndd.2.1 (fun a ha => let ⟨_, xs, e⟩ := owA a ha; ⟨_, e⟩) dA
        obtain ⟨a0, acc, Lacc, ea, h1, h2, h3, racc⟩ := ra7
        cases ea
        subst h3
        have hlen : acc.length = wsd.length := racc.length
        refine ⟨acc, h1, by rw [hlen, sizeLine_eq]; omega, hlt, O7, ?_⟩
        -- the list grows
        have ow7 : ∀ a ∈ L7, O7 a := fun a ha => (g1.own a ha).1
        have owW : ∀ a ∈ Lw, O7 a := fun a ha => (RepW.own w y Lw g2 a ha).1
        have owC : ∀ a ∈ Lacc, O7 a := fun a ha => (RepWs.own wsd acc Lacc racc a ha).1
        have nn := List.nodup_append.mp nd7
        have dD : Dd ∉ L7 ++ Lw := fun z => nn.2.2 Dd z Dd (by simp) rfl
        have dC : Dd ∉ Lacc := (List.nodup_cons.mp nn.2.1).1
        have env8 : EnvR C (upd H6 Dd (.lst (acc ++ [y]))) O7 ρd σ4 L7 := EnvR.keep (keep_mut h2 (fun z => dD (by simp [z])) ow7) g1
        have rw8 : RepW C (upd H6 Dd (.lst (acc ++ [y]))) O7 w y Lw := RepW.keep _ _ _ (keep_mut h2 (fun z => dD (by simp [z])) owW) g2
        have rc8 : RepWs C (upd H6 Dd (.lst (acc ++ [y]))) O7 wsd acc Lacc := RepWs.keep _ _ _ (keep_mut h2 dC owC) racc
        obtain ⟨Lo8, Li8, pm8, envW, _⟩ := env8.split (vs := vs) (lens env8)
        rw [hw4] at envW
        refine ⟨Li8, wipeE ρd vs, wsd ++ [w], ws', Dd :: (Lacc ++ Lw), envW, ⟨Dd, acc ++ [y], Lacc ++ Lw, rfl, upd_same, h2, rfl, RepWs.append rc8 (RepWs.one rw8)⟩, ?_, ?_, fun v hv' => wipeE_none ρd hv' (lens env8 v hv'), by rw [List.length_append]; simp; omega, c8, by rw [ew]; simp⟩
        · have p1 : (L7 ++ (Dd :: (Lacc ++ Lw))).Nodup := by
            have pp : (L7 ++ Lw ++ Dd :: Lacc).Perm (L7 ++ (Dd :: (Lacc ++ Lw))) := by
              rw [List.append_assoc]
              refine List.Perm.append_left L7 ?_
              exact List.perm_append_comm.trans (by simp)
            exact pp.nodup_iff.mp nd7
          have sub : ∀ a ∈ Li8, a ∈ L7 := fun a ha => pm8.mem_iff.mpr (by simp [ha])
          have ndL : Li8.Nodup := (List.nodup_append.mp (pm8.nodup_iff.mp (List.nodup_append.mp p1).1)).2.1
          exact List.nodup_append.mpr ⟨ndL, (List.nodup_append.mp p1).2.1, fun a ha b hb => (List.nodup_append.mp p1).2.2 a (sub a ha) b hb⟩
        · have sm : Stp H6 O7 (L7 ++ Lw ++ (Dd :: Lacc)) (upd H6 Dd (.lst (acc ++ [y]))) O7 (L7 ++ Lw ++ (Dd :: Lacc)) := Stp.mut (by simp) h1
          refine ((st2.trans (s27.frame (Dd :: Lacc))).trans sm).perm fun a ha => ?_
          simp only [List.mem_append, List.mem_cons] at ha ⊢
          rcases ha with ha | ha | ha | ha
          · exact .inl (.inl (pm8.mem_iff.mpr (by simp [ha])))
          · exact .inr (.inl ha)
          · exact .inr (.inr ha)
          · exact .inl (.inr ha)
      | false =>
        refine iteF ?_
        have ra5 : RepW C H5 O5 (.lst wsd) (.ref Dd) La := RepW.keep _ _ _ (s25.keepL own2 (fun a ha => (owA a ha).1) dA) ra
        have nd5 : (L5 ++ La).Nodup := nodup_frame s25 P5.nd ndd.2.1 (fun a ha => let ⟨_, xs, e⟩ := owA a ha; ⟨_, e⟩) dA
        obtain ⟨Lo8, Li8, pm8, envW, _⟩ := P5.env.split (vs := vs) (lens P5.env)
        rw [hw4] at envW
        have sub : ∀ a ∈ Li8, a ∈ L5 := fun a ha => pm8.mem_iff.mpr (by simp [ha])
        refine ⟨hlt, O5, Li8, wipeE ρb vs, wsd, wsr, La, envW, ra5, ?_, ?_, fun v hv' => wipeE_none ρb hv' (lens P5.env v hv'), by omega, c3, ew⟩
        · have ndL : Li8.Nodup := (List.nodup_append.mp (pm8.nodup_iff.mp P5.nd)).2.1
          exact List.nodup_append.mpr ⟨ndL, ndd.2.1, fun a ha b hb => (List.nodup_append.mp nd5).2.2 a (sub a ha) b hb⟩
        · refine (st2.trans (s25.frame La)).perm fun a ha => ?_
          simp only [List.mem_append] at ha ⊢
          rcases ha with ha | ha
          · exact .inl (sub a ha)
          · exact .inr ha
    · refine .inl ⟨jstop (by omega), ?_⟩
      rw [List.drop_eq_nil_of_le (by omega)] at c3
      cases c3
      rw [List.append_nil] at ew
      subst ew
      obtain ⟨L3, p3, env3⟩ := rest H2 O2 ρ2 L2 (st2.keepL ownI ownO disO) e2 hn
      have nd4 : (L2 ++ La ++ Lo).Nodup := nodup_frame st2 nd2 (List.nodup_append.mp ndS).1 (fun a ha => let ⟨_, xs, e⟩ := env1.own a (pm.mem_iff.mpr (by simp [ha])); ⟨_, e⟩) disO
      have pp : (L2 ++ La ++ Lo).Perm (L3 ++ La) := by
        refine List.perm_append_comm.trans ?_
        rw [← List.append_assoc]
        exact List.Perm.append_right La p3.symm
      refine q (.ref Dd) H2 O2 L3 La ⟨env3, ra, pp.nodup_iff.mp nd4, ?_, fun z => by cases z⟩
      have sL : Stp H1 O1 L1 H2 O2 (L3 ++ La) := by
        have s1 : Stp H1 O1 (Li ++ Lo) H2 O2 (L2 ++ La ++ Lo) := st2.frame Lo
        refine ⟨fun a o e n => s1.fr a o e fun z => n (pm.mem_iff.mpr (by simp only [List.mem_append] at z ⊢; exact z.symm)), s1.nw, fun a o e qq n => s1.ol a o e qq fun z => n (pm.mem_iff.mpr (by simp only [List.mem_append] at z ⊢; exact z.symm)), fun a ha => ?_, s1.dm⟩
        rcases s1.ll a (pp.mem_iff.mpr ha) with z | z
        · exact .inl (pm.mem_iff.mpr (by simp only [List.mem_append] at z ⊢; exact z.symm))
        · exact .inr z
      exact st1.trans sL
theorem se_lc (hc : X.calm = true) (hN : X.N.Nodup) (hi : SI X cl tg iter ci) (ok : BlkOk X.N X.env.scope scope own)
    (hg : ∀ (s : Shared) (H : Hp) (A : Addr) (l : List (Str × Addr)) (fp : List Addr), SG (X.blk s H scope (compEnvC scope l A X.env) fp) cl (kpOf (own.map (·.2))) tg g)
    (ht : ∀ (s : Shared) (H : Hp) (A : Addr) (l : List (Str × Addr)) (fp : List Addr), SSTs (X.blk s H scope (compEnvC scope l A X.env) fp) cl qt ifs ct)
    (he : ∀ (s : Shared) (H : Hp) (A : Addr) (l : List (Str × Addr)) (fp : List Addr), SE (X.blk s H scope (compEnvC scope l A X.env) fp) cl qe elt ce) (hs : ∀ x, foldedSetIterable iter X.env x = pure x := by intro _; rfl) :
    SE X cl false (.ListComp elt [⟨tg, iter, ifs, 0⟩] scope pos) (cLc (own.map (·.2)) ci g ct ce) :=
  PE.imp (pe_lc (g := tG ⟨X.K, cl⟩ (kpOf (own.map (fun x : Str × Nat => x.2))) g) (tt := tT ⟨X.K, cl⟩ qt ct) (te := tE ⟨X.K, cl⟩ qe ce) hc hN hi ok hg ht he hs) fun σ H Q h => lc_mir h
theorem ss_setLc {kp : KP} {i : Nat} {y : Str} {py spos : Pos} (hc : X.calm = true) (hN : X.N.Nodup) (hy : X.N[i]? = some y) (hyl : X.env.scope.names.lookup y = some .local) (hk : kp i = false)
    (hsw : swapsWith (.ListComp elt [⟨tg, iter, ifs, 0⟩] scope pos) (some (.Name y py)) spos.line X.env = pure true) (hi : SI X cl tg iter ci) (ok : BlkOk X.N X.env.scope scope own)
    (hg : ∀ (s : Shared) (H : Hp) (A : Addr) (l : List (Str × Addr)) (fp : List Addr), SG (X.blk s H scope (compEnvC scope l A X.env) fp) cl (kpOf (own.map (·.2))) tg g)
    (ht : ∀ (s : Shared) (H : Hp) (A : Addr) (l : List (Str × Addr)) (fp : List Addr), SSTs (X.blk s H scope (compEnvC scope l A X.env) fp) cl qt ifs ct)
    (he : ∀ (s : Shared) (H : Hp) (A : Addr) (l : List (Str × Addr)) (fp : List Addr), SE (X.blk s H scope (compEnvC scope l A X.env) fp) cl qe elt ce) (hs : ∀ x, foldedSetIterable iter X.env x = pure x := by intro _; rfl) :
    SS X cl kp (.Assign [.Name y py] (.ListComp elt [⟨tg, iter, ifs, 0⟩] scope pos) spos) (cAsg (gSet i) (cLc (own.map (·.2)) ci g ct ce)) := by
  refine PS.imp (ps_setLc (g := tG ⟨X.K, cl⟩ (kpOf (own.map (fun x : Str × Nat => x.2))) g) (tt := tT ⟨X.K, cl⟩ qt ct) (te := tE ⟨X.K, cl⟩ qe ce) hc hN hy hyl hsw hi ok hg ht he hs) fun Dn σ H h => ?_
  have h2 := asg_core (q := false) h
  refine lc_mir ?_
  obtain ⟨O, L, ρ, b, ρ', e1, e2, e3, e4⟩ := h2
  refine ⟨O, L, ρ, b, ρ', e1, e2, e3, fun v H' O' L' Lb P => ?_⟩
  obtain ⟨O2, L2, Lw, ρ2, w, ρ3, env, r, nd, c, q⟩ := e4 v H' O' L' Lb P
  obtain ⟨_, c1, c⟩ := Res.of_bind c
  cases c
  obtain ⟨O3, L3, P3⟩ := env_set env r nd (chk_dec c1) hk
  exact q _ H' O3 L3 P3
end
end Mi
namespace Mi
open PySem PySem.Spec PyProof.Rows L2
abbrev Fn := List W → Res (W × List W)
def spM (C : Cfg) (F : Fn) : Sp := fun vs H Q _ => ∃ O L ws r back, RepWs C H O ws vs L ∧ L.Nodup ∧ F ws = .ok (r, back) ∧
  ∀ v H' O' L' Lr, RepW C H' O' r v Lr → RepWs C H' O' back vs L' → (L' ++ Lr).Nodup → Stp H O L H' O' (L' ++ Lr) → Q v H'
def retOf : Fl → Res W
  | .nx => .ok (.fz .non)
  | .ret w => .ok w
  | _ => .err
def backs (io : KP) : Nat → List W → En → Res (List W)
  | _, [], _ => .ok []
  | _, _ :: _, [] => .err
  | j, w :: ws, x :: ρ => (if io j = true then Res.of x else match w with
    | .fz d => .ok (.fz d)
    | .lst _ => .err
    | .ob _ _ => .err
    | .di _ => .err).bind fun w' => (backs io (j + 1) ws ρ).bind fun r => .ok (w' :: r)
def runDef (np ns : Nat) (io : KP) (body : CS) : Fn := fun ws => (chk (ws.length == np)).bind fun _ => (body (ws.map some ++ List.replicate (ns - np) none)).bind fun (f, ρ') => (retOf f).bind fun r => (backs io 0 ws ρ').bind fun bk => .ok (r, bk)
theorem EnvR.start {C : Cfg} {H : Hp} {O : AP} (n : Nat) : ∀ {ws : List W} {vs : List V} {L : List Addr}, RepWs C H O ws vs L → EnvR C H O (ws.map some ++ List.replicate n none) (vs.map some ++ List.replicate n none) L
  | [], vs, L, h => by rw [h.1, h.2]; simpa using EnvR.nones n (List.replicate n none) (by simp)
  | w :: ws, vs, L, h => by
    obtain ⟨x, r, L1, L2, e, e2, h1, h2⟩ := h
    subst e; subst e2
    exact ⟨some x, r.map some ++ List.replicate n none, L1, L2, rfl, rfl, ⟨x, rfl, h1⟩, EnvR.start n h2⟩
theorem backs_rep {C : Cfg} {H H' : Hp} {O O' : AP} {io : KP} (k : Keep H O H' O') : ∀ {j : Nat} {ws : List W} {vs : List V} {ρ : En} {σ : Sg} {L0 L : List Addr} {bk : List W}, RepWs C H O ws vs L0 → EnvR C H' O' ρ σ L → (∀ i, io (j + i) = true → σ[i]? = (vs.map some)[i]? ∨ vs.length ≤ i) → backs io j ws ρ = .ok bk →
    ∃ L', RepWs C H' O' bk vs L' ∧ L'.Sublist L
  | j, [], vs, ρ, σ, L0, L, bk, r, e, hk, c => by cases c; rw [r.1]; exact ⟨[], ⟨rfl, rfl⟩, List.nil_sublist _⟩
  | j, w :: ws, vs, [], σ, L0, L, bk, r, e, hk, c => by cases c
  | j, w :: ws, vs, x :: ρ, σ, L0, L, bk, r, e, hk, c => by
    obtain ⟨v, vr, M1, M2, e1, e2, r1, r2⟩ := r
    obtain ⟨y, σr, N1, N2, e3, e4, s1, s2⟩ := e
    subst e1; subst e3; subst e4
    obtain ⟨w', c1, c⟩ := Res.of_bind c
    obtain ⟨bk', c2, c⟩ := Res.of_bind c
    cases c
    obtain ⟨L', g1, g2⟩ := backs_rep k (j := j + 1) r2 s2 (fun i hi => by
      have := hk (i + 1) (by rw [← hi]; congr 1; omega)
      simpa using this) c2
    by_cases hj : io j = true
    · rw [if_pos hj] at c1
      have ex := Res.of_ok c1
      subst ex
      obtain ⟨v', ey, rv⟩ := s1
      subst ey
      have hv : v' = v := by
        have := hk 0 (by simpa using hj)
        rcases this with z | z
        · simpa using z
        · simp at z
      subst hv
      exact ⟨N1 ++ L', ⟨v', vr, N1, L', rfl, rfl, rv, g1⟩, g2.append_left N1⟩
    · rw [if_neg hj] at c1
      cases w with
      | fz d =>
        cases c1
        exact ⟨L', ⟨v, vr, [], L', rfl, rfl, ⟨rfl, RepD.keep k d v r1.2⟩, g1⟩, (List.nil_append L') ▸ (g2.trans (List.sublist_append_right N1 N2))⟩
      | lst _ => cases c1
      | ob _ _ => cases c1
      | di _ => cases c1
theorem def_core {C : Cfg} {N : List Str} {np : Nat} {io : KP} {body : CS} {vs : List V} {H : Hp} {Q : VK} {E : XK} (hio : ∀ i, np ≤ i → io i = false) (hsp : spM C (runDef np N.length io body) vs H Q E) :
    tS C io body { nx := fun _ H' => Q .non H', rt := Q } (L2.start N vs) H := by
  obtain ⟨O, L, ws, r, back, rs, nd, c, q⟩ := hsp
  obtain ⟨_, c1, c⟩ := Res.of_bind c
  obtain ⟨⟨f, ρ'⟩, c2, c⟩ := Res.of_bind c
  obtain ⟨r', c3, c⟩ := Res.of_bind c
  obtain ⟨bk, c4, c⟩ := Res.of_bind c
  cases c
  have hl : ws.length = np := by simpa using chk_ok c1
  have hlv := rs.length
  have env : EnvR C H O (ws.map some ++ List.replicate (N.length - np) none) (L2.start N vs) L := by
    unfold L2.start
    rw [hlv, hl]
    exact EnvR.start _ rs
  refine ⟨O, L, _, f, ρ', env, nd, c2, fun σ' H' O' L' Lw P => ?_⟩
  have own : ∀ a ∈ L, O a := fun a ha => (env.own a ha).1
  obtain ⟨Lb, rb, sb⟩ := backs_rep (io := io) (P.st.keep own) (j := 0) rs P.env (fun i hi => by
    rw [Nat.zero_add] at hi
    have hin : i < np := by
      rcases Nat.lt_or_ge i np with z | z
      · exact z
      · rw [hio i z] at hi; cases hi
    refine .inl ?_
    rw [P.kp i hi]
    unfold L2.start
    rw [List.getElem?_append_left (by rw [List.length_map]; omega)]) c4
  have fin : ∀ v, RepW C H' O' r v Lw → Q v H' := fun v rv => q v H' O' Lb Lw rv rb ((sb.append_right Lw).nodup P.nd) (P.st.perm fun a ha => by
    rcases List.mem_append.mp ha with z | z
    · exact List.mem_append_left _ (sb.subset z)
    · exact List.mem_append_right _ z)
  cases f with
  | nx => intro e; subst e; cases c3; exact fin .non ⟨rfl, rfl⟩
  | ret w => cases c3; exact fun v rv => fin v rv
  | bk => cases c3
  | ct => cases c3
structure FnM (X : Cx) (cl : Nat → Addr) (x : Str) (F : Fn) : Prop where
  ex : ∃ (k : Nat) (f : Addr) (fd : FuncData) (ps : List Str), FnOk X.prog X.w X.K X.mg X.base CX0 k f fd ps (spM ⟨X.K, cl⟩ F) ∧ Room k X.A ∧ X.mg x = some (.ref f) ∧ PySem.W.keepIn X.K (.ref f) = true ∧ Binds X.K fd ps []
def scal : W → Bool
  | .fz .non => true
  | .fz (.bl _) => true
  | .fz (.int _) => true
  | .fz (.str _) => true
  | _ => false
def cCallV (F : Fn) (cb : CBs) : CE := fun ρ => (cb ρ).bind fun (bs, ρ1) => (conts bs ρ1).bind fun ws => (F (ws.map fun w => .fz (frz w))).bind fun (r, _) => (chk (scal r)).bind fun _ => .ok (.tmp r, ρ1)
def cCallP (qd : Bool) (F : Fn) (cb : CBs) : CE := fun ρ => (cb ρ).bind fun (bs, ρ1) => (chk (shut qd bs)).bind fun _ => (takes bs ρ1).bind fun (ws, ρ2) => (F (ws.map fun w => .fz (frz w))).bind fun (r, _) => .ok (.tmp r, ρ2)
theorem scal_rep {C : Cfg} {H H' : Hp} {O O' : AP} {r : W} {v : V} {L : List Addr} (s : scal r = true) (h : RepW C H O r v L) : L = [] ∧ RepW C H' O' r v [] := by
  cases r with
  | lst ws => cases s
  | ob _ _ => cases s
  | di _ => cases s
  | fz d => cases d <;> first | exact ⟨h.1, rfl, h.2⟩ | cases s
theorem conts_frz {C : Cfg} {H : Hp} {O : AP} {ρ : En} {σ : Sg} {L : List Addr} (e : EnvR C H O ρ σ L) (nd : L.Nodup) : ∀ {bs : List B} {vs : List V} {ws : List W} {Lb T : List Addr}, BRs C H O ρ σ bs vs Lb → (∀ a ∈ Lb, a ∈ T) → (∀ a ∈ L, a ∉ T) → conts bs ρ = .ok ws → RepWs C H (Less O (L ++ T)) (ws.map fun w => .fz (frz w)) vs []
  | [], vs, ws, Lb, T, h, s, d, c => by cases c; exact ⟨h.1, rfl⟩
  | b :: bs, vs, ws, Lb, T, h, s, d, c => by
    obtain ⟨v, r, L1, L2, e1, e2, h1, h2⟩ := h
    subst e2
    obtain ⟨w, c1, c⟩ := Res.of_bind c
    obtain ⟨ws', c2, c⟩ := Res.of_bind c
    cases c
    obtain ⟨Lw, rw', sub⟩ := cont_rep h1 e nd d (fun a ha => s a (by simp [ha])) c1
    refine ⟨v, r, [], [], e1, rfl, ⟨rfl, ?_⟩, conts_frz e nd h2 (fun a ha => s a (by simp [ha])) d c2⟩
    exact RepW.frz w v Lw (fun a q => ⟨⟨q.1, fun z => q.2 (by simp [z])⟩, fun z => q.2 (by simp [sub a z])⟩) rw'
theorem callV_core {C : Cfg} {F : Fn} {cb : CBs} {qb : Bool} {E : XK} {σ : Sg} {H : Hp} {Q : VK} (h : tE C qb (cCallV F cb) σ H Q) : tCall (spM C F) [] E (tB C qb cb) σ H Q := by
  obtain ⟨O, L, ρ, b0, ρ', env, nd, c, q⟩ := h
  obtain ⟨⟨bs, ρ1⟩, c1, c⟩ := Res.of_bind c
  obtain ⟨ws, c2, c⟩ := Res.of_bind c
  obtain ⟨⟨r, bk⟩, c3, c⟩ := Res.of_bind c
  obtain ⟨_, c4, c⟩ := Res.of_bind c
  cases c
  refine ⟨O, L, ρ, bs, ρ', env, nd, c1, fun vs H1 O1 L1 Lb P => ?_⟩
  show spM C F (vs ++ []) H1 Q E
  rw [List.append_nil]
  have ndd := List.nodup_append.mp P.nd
  have d : ∀ z ∈ L1, z ∉ Lb := fun z hz q => ndd.2.2 z hz z q rfl
  have own1 : ∀ a ∈ L1, O1 a := fun a ha => (P.env.own a ha).1
  refine ⟨Less O1 (L1 ++ Lb), [], _, r, bk, conts_frz P.env ndd.1 P.br (fun a ha => ha) d c2, List.nodup_nil, c3, fun v H' O' L' Lr rr rb ndr st => ?_⟩
  obtain ⟨eL, rr'⟩ := scal_rep (H' := H') (O' := fun a => O' a ∨ a ∈ L1) (chk_ok c4) rr
  subst eL
  have kL : KeepL H1 O1 H' (fun a => O' a ∨ a ∈ L1) L1 := by
    refine ⟨fun a o e n => ⟨st.fr a o e (by simp), fun z => ?_⟩, fun a ha o e => ⟨st.fr a o e (by simp), .inr ha⟩⟩
    rcases z with z | z
    · rcases st.nw a z with z | z
      · exact n z.1
      · rw [e] at z; cases z
    · exact n (own1 a z)
  refine q v H' (fun a => O' a ∨ a ∈ L1) L1 [] ⟨EnvR.keep kL P.env, rr', by rw [List.append_nil]; exact ndd.1, ?_, fun hq => ⟨(P.qu hq).1, fun a o e => st.fr a o ((P.qu hq).2 a o e) (by simp)⟩⟩
  rw [List.append_nil]
  refine P.st.trans ⟨fun a o e _ => st.fr a o e (by simp), fun a z => ?_, fun a o e z n => .inl (st.ol a o e ⟨z, n⟩ (by simp)), fun a ha => .inl (by simp [ha]), st.dm⟩
  rcases z with z | z
  · rcases st.nw a z with z | z
    · exact .inl z.1
    · exact .inr z
  · exact .inl (own1 a z)
theorem callP_core {C : Cfg} {F : Fn} {cb : CBs} {qb qd : Bool} {E : XK} {σ : Sg} {H : Hp} {Q : VK} (h : tE C (qb && qd) (cCallP qd F cb) σ H Q) : tCall (spM C F) [] E (tB C qb cb) σ H Q := by
  obtain ⟨O, L, ρ, b0, ρ', env, nd, c, q⟩ := h
  obtain ⟨⟨bs, ρ1⟩, c1, c⟩ := Res.of_bind c
  obtain ⟨_, cs, c⟩ := Res.of_bind c
  obtain ⟨hf, ht⟩ := shut_ok (chk_ok cs)
  obtain ⟨⟨ws, ρ2⟩, c2, c⟩ := Res.of_bind c
  obtain ⟨⟨r, bk⟩, c3, c⟩ := Res.of_bind c
  cases c
  refine ⟨O, L, ρ, bs, ρ1, env, nd, c1, fun vs H1 O1 L1 Lb P => ?_⟩
  show spM C F (vs ++ []) H1 Q E
  rw [List.append_nil]
  obtain ⟨O2, L2, Lw, g1, g2, g3, g4, g5, g6, g7⟩ := takes_rep P.br P.env P.nd hf c2
  have rd : RepDs C H1 (Less O2 Lw) (frzs ws) vs := RepWs.frz ws vs Lw (fun a q => q) g2
  have rs : RepWs C H1 (Less O2 Lw) (ws.map fun w => .fz (frz w)) vs [] := by
    have := RepWs.ofD rd
    rw [frzs_map, List.map_map] at this
    exact this
  have ndw := List.nodup_append.mp g3
  have d2 : ∀ a ∈ L2, a ∉ Lw := fun a ha z => ndw.2.2 a ha a z rfl
  have e2 := g1.less d2
  refine ⟨Less O2 Lw, [], _, r, bk, rs, List.nodup_nil, c3, fun v H' O' L' Lr rr rb ndr st => ?_⟩
  have own2 : ∀ a ∈ L2, Less O2 Lw a := fun a ha => (e2.own a ha).1
  have kL : KeepL H1 (Less O2 Lw) H' O' L2 := st.keepL (by simp) own2 (by simp)
  have nr : (L2 ++ Lr).Nodup := by
    refine List.nodup_append.mpr ⟨ndw.1, (List.nodup_append.mp ndr).2.1, fun a ha b hb e => ?_⟩
    subst e
    rcases st.ll a (by simp [hb]) with z | z
    · simp at z
    · obtain ⟨_, xs, e⟩ := g1.own a ha; rw [z] at e; cases e
  refine q v H' O' L2 Lr ⟨EnvR.keep kL e2, rr, nr, ?_, fun hq => ?_⟩
  · have s1 : Stp H O L H1 (Less O2 Lw) L2 := (P.st.trans (Stp.ofO g4 g5 g6)).drop
    refine s1.trans ⟨fun a o e _ => st.fr a o e (by simp), st.nw, fun a o e z _ => st.ol a o e z (by simp), fun a ha => ?_, st.dm⟩
    rcases List.mem_append.mp ha with ha | ha
    · exact .inl ha
    · rcases st.ll a (by simp [ha]) with z | z
      · simp at z
      · exact .inr z
  · have hq' : qb = true ∧ qd = true := by simpa using hq
    exact ⟨(g7 (ht hq'.2)).trans (P.qu hq'.1).1, fun a o e => st.fr a o ((P.qu hq'.1).2 a o e) (by simp)⟩
end Mi
namespace Mi
open PySem PySem.Spec PyProof.Rows L2
def argsIO (io : KP) : Nat → List B → En → Res (List W × En)
  | _, [], ρ => .ok ([], ρ)
  | j, b :: bs, ρ => (if io j = true then move b ρ else (take b ρ).bind fun (w, ρ') => .ok (.fz (frz w), ρ')).bind fun (w, ρ1) => (argsIO io (j + 1) bs ρ1).bind fun (ws, ρ2) => .ok (w :: ws, ρ2)
def put1 (b : B) (w : W) (ρ : En) : Res En := match b with
  | .bor i [] => match ρ[i]? with
    | some none => .ok (ρ.set i (some w))
    | _ => .err
  | .tmp _ => .ok ρ
  | _ => .err
def putB (io : KP) : Nat → List B → List W → En → Res En
  | _, [], _, ρ => .ok ρ
  | _, _ :: _, [], _ => .err
  | j, b :: bs, w :: ws, ρ => (if io j = true then put1 b w ρ else Res.ok ρ).bind fun ρ1 => putB io (j + 1) bs ws ρ1
def cCallIO (F : Fn) (io : KP) (cb : CBs) : CE := fun ρ => (cb ρ).bind fun (bs, ρ1) => (chk (bs.all flatB)).bind fun _ => (argsIO io 0 bs ρ1).bind fun (ws, ρ2) => (F ws).bind fun (r, bk) => (putB io 0 bs bk ρ2).bind fun ρ3 => .ok (.tmp r, ρ3)
section
variable {C : Cfg} {H : Hp} {σ : Sg}
theorem argsIO_rep {io : KP} : ∀ {j : Nat} {bs : List B} {vs : List V} {ws : List W} {ρ ρ' : En} {O : AP} {L Lb : List Addr}, BRs C H O ρ σ bs vs Lb → EnvR C H O ρ σ L → (L ++ Lb).Nodup → bs.all flatB = true → argsIO io j bs ρ = .ok (ws, ρ') →
    ∃ O' L' Lw, EnvR C H O' ρ' σ L' ∧ RepWs C H O' ws vs Lw ∧ (L' ++ Lw).Nodup ∧ (∀ a, O' a → O a) ∧ (∀ a, a ∈ L' ++ Lw → a ∈ L ++ Lb) ∧ ∀ a, O a → a ∉ L ++ Lb → O' a
  | j, [], vs, ws, ρ, ρ', O, L, Lb, h, env, nd, f, c => by
    cases c
    rw [h.1, h.2]
    exact ⟨O, L, [], env, ⟨rfl, rfl⟩, by rw [List.append_nil]; exact (List.nodup_append.mp nd).1, fun _ q => q, fun _ q => by simpa using q, fun _ q _ => q⟩
  | j, b :: bs, vs, ws, ρ, ρ', O, L, Lb, h, env, nd, f, c => by
    obtain ⟨v, r, L1, L2, e, e2, h1, h2⟩ := h
    subst e; subst e2
    have f' : flatB b = true ∧ bs.all flatB = true := by simpa using f
    obtain ⟨⟨w, ρ1⟩, c1, c⟩ := Res.of_bind c
    obtain ⟨⟨ws', ρ2⟩, c2, c⟩ := Res.of_bind c
    cases c
    have nd1 : (L ++ L1).Nodup := by
      rw [← List.append_assoc] at nd
      exact (List.nodup_append.mp nd).1
    have dis : ∀ a ∈ L2, a ∉ L ++ L1 := fun a ha z => by
      rw [← List.append_assoc] at nd
      exact (List.nodup_append.mp nd).2.2 a z a ha rfl
    have nd2 : L2.Nodup := by
      rw [← List.append_assoc] at nd
      exact (List.nodup_append.mp nd).2.1
    obtain ⟨O1, M, Lw, g1, g2, g3, g4, g5, g6⟩ : ∃ O' L' Lw, EnvR C H O' ρ1 σ L' ∧ RepW C H O' w v Lw ∧ (L' ++ Lw).Nodup ∧ (∀ a, O' a → O a) ∧ (∀ a, a ∈ L' ++ Lw → a ∈ L ++ L1) ∧ ∀ a, O a → a ∉ L ++ L1 → O' a := by
      by_cases hj : io j = true
      · rw [if_pos hj] at c1
        exact move_rep h1 env nd1 c1
      · rw [if_neg hj] at c1
        obtain ⟨⟨w0, ρ0⟩, c0, c1⟩ := Res.of_bind c1
        cases c1
        obtain ⟨O1, M, Lw, g1, g2, g3, g4, g5, g6⟩ := take_rep h1 env nd1 c0
        have nn := List.nodup_append.mp g3
        refine ⟨Less O1 Lw, M, [], g1.less (fun a ha z => nn.2.2 a ha a z rfl), ⟨rfl, RepW.frz w0 v Lw (fun a q => q) g2⟩, by rw [List.append_nil]; exact nn.1, fun a q => g4 a q.1, fun a q => g5 a (by rw [List.append_nil] at q; simp [q]), fun a q n => ⟨g6 a q n, fun z => n (g5 a (by simp [z]))⟩⟩
    have own2 := BRs.own h2
    have k2 : KeepL H O H O1 L2 := ⟨fun a o e n => ⟨e, fun q => n (g4 a q)⟩, fun a ha o e => ⟨e, g6 a (own2 a ha).1 (dis a ha)⟩⟩
    have h2' : BRs C H O1 ρ1 σ bs r (L2) := BRs.keep f'.2 k2 h2
    have ndM : (M ++ L2).Nodup := List.nodup_append.mpr ⟨(List.nodup_append.mp g3).1, nd2, fun a ha b hb e => by subst e; exact dis a hb (g5 a (by simp [ha]))⟩
    obtain ⟨O', L', Lw', k1, k3, k4, k5, k6, k7⟩ := argsIO_rep h2' g1 ndM f'.2 c2
    have dw : ∀ a ∈ Lw, a ∉ M ++ L2 := fun a ha z => by
      rcases List.mem_append.mp z with z | z
      · exact (List.nodup_append.mp g3).2.2 a z a ha rfl
      · exact dis a z (g5 a (by simp [ha]))
    have ow := RepW.own w v Lw g2
    have rw2 : RepW C H O' w v Lw := RepW.keep w v Lw ⟨fun a o e n => ⟨e, fun q => n (k5 a q)⟩, fun a ha o e => ⟨e, k7 a (ow a ha).1 (dw a ha)⟩⟩ g2
    refine ⟨O', L', Lw ++ Lw', k1, ⟨v, r, Lw, Lw', rfl, rfl, rw2, k3⟩, ?_, fun a q => g4 a (k5 a q), fun a q => ?_, fun a q n => ?_⟩
    · have p : (L' ++ Lw' ++ Lw).Perm (L' ++ (Lw ++ Lw')) := by rw [List.append_assoc]; exact List.Perm.append_left L' List.perm_append_comm
      refine p.nodup_iff.mp (List.nodup_append.mpr ⟨k4, (List.nodup_append.mp g3).2.1, fun a ha b hb e => ?_⟩)
      subst e
      exact dw a hb (k6 a ha)
    · rcases List.mem_append.mp q with q | q
      · rcases List.mem_append.mp (k6 a (by simp [q])) with z | z
        · have := g5 a (by simp [z]); simp only [List.mem_append] at this ⊢; rcases this with t | t <;> simp [t]
        · simp [z]
      · rcases List.mem_append.mp q with q | q
        · have := g5 a (by simp [q]); simp only [List.mem_append] at this ⊢; rcases this with t | t <;> simp [t]
        · rcases List.mem_append.mp (k6 a (by simp [q])) with z | z
          · have := g5 a (by simp [z]); simp only [List.mem_append] at this ⊢; rcases this with t | t <;> simp [t]
          · simp [z]
    · have n1 : a ∉ L ++ L1 := fun z => n (by simp only [List.mem_append] at z ⊢; rcases z with t | t <;> simp [t])
      have n2 : a ∉ L2 := fun z => n (by simp [z])
      refine k7 a (g6 a q n1) fun z => ?_
      rcases List.mem_append.mp z with z | z
      · exact n1 (g5 a (by simp [z]))
      · exact n2 z
def At (σ : Sg) : List B → List V → Prop
  | [], _ => True
  | _ :: _, [] => False
  | b :: bs, v :: vs => (∀ i, b = .bor i [] → σ[i]? = some (some v)) ∧ At σ bs vs
theorem BRs.at {O : AP} {ρ : En} : ∀ {bs : List B} {vs : List V} {L : List Addr}, BRs C H O ρ σ bs vs L → At σ bs vs
  | [], _, _, _ => trivial
  | b :: bs, vs, L, h => by
    obtain ⟨v, r, L1, L2, e, e2, h1, h2⟩ := h
    subst e
    refine ⟨fun i hb => ?_, BRs.at h2⟩
    subst hb
    obtain ⟨_, v0, k1, k2, _⟩ := h1
    rw [k2 rfl]; exact k1
theorem putB_rep {io : KP} {O : AP} : ∀ {j : Nat} {bs : List B} {vs : List V} {ws : List W} {ρ ρ' : En} {L Lw : List Addr}, At σ bs vs → EnvR C H O ρ σ L → RepWs C H O ws vs Lw → (L ++ Lw).Nodup → putB io j bs ws ρ = .ok ρ' →
    ∃ L', EnvR C H O ρ' σ L' ∧ L'.Nodup ∧ ∀ a ∈ L', a ∈ L ++ Lw
  | j, [], vs, ws, ρ, ρ', L, Lw, a, env, r, nd, c => by
    cases c
    exact ⟨L, env, (List.nodup_append.mp nd).1, fun a ha => by simp [ha]⟩
  | j, b :: bs, vs, [], ρ, ρ', L, Lw, a, env, r, nd, c => by cases c
  | j, b :: bs, vs, w :: ws, ρ, ρ', L, Lw, a, env, r, nd, c => by
    obtain ⟨v, vr, M1, M2, e1, e2, r1, r2⟩ := r
    subst e1; subst e2
    obtain ⟨a1, a2⟩ := a
    obtain ⟨ρ1, c1, c⟩ := Res.of_bind c
    have same : ∀ {ρ0 : En}, ρ0 = ρ → putB io (j + 1) bs ws ρ0 = .ok ρ' → ∃ L', EnvR C H O ρ' σ L' ∧ L'.Nodup ∧ ∀ a ∈ L', a ∈ L ++ (M1 ++ M2) := fun {ρ0} e cc => by
      rw [e] at cc
      have nd' : (L ++ M2).Nodup := by
        have : (L ++ M2).Sublist (L ++ (M1 ++ M2)) := (List.Sublist.refl L).append (List.sublist_append_right M1 M2)
        exact this.nodup nd
      obtain ⟨L', g1, g2, g3⟩ := putB_rep a2 env r2 nd' cc
      exact ⟨L', g1, g2, fun a ha => by have := g3 a ha; simp only [List.mem_append] at this ⊢; rcases this with t | t <;> simp [t]⟩
    by_cases hj : io j = true
    · rw [if_pos hj] at c1
      cases b with
      | tmp w0 => cases c1; exact same rfl c
      | bor i p =>
        cases p with
        | cons k p => cases c1
        | nil =>
          simp only [put1] at c1
          cases hi : ρ[i]? with
          | none => rw [hi] at c1; cases c1
          | some x =>
            rw [hi] at c1
            cases x with
            | some w0 => cases c1
            | none =>
              cases c1
              have hs := a1 i rfl
              obtain ⟨y, N1, N0, q1, q2, q4, q5⟩ := env.focus hi
              have eN : N1 = [] := q2
              subst eN
              obtain ⟨L1, p1, p2⟩ := q5 H O (some w) (some v) M1 ⟨Keep.refl _ _, fun a ha o z => ⟨z, (env.own a (q4.mem_iff.mpr (by simp [ha]))).1⟩⟩ ⟨v, rfl, r1⟩
              rw [set_same hs] at p2
              have pL : L1.Perm (M1 ++ L) := p1.trans (List.Perm.append_left M1 (by simpa using q4.symm))
              have pp : (L ++ (M1 ++ M2)).Perm (L1 ++ M2) := by
                rw [← List.append_assoc]
                exact List.Perm.append_right M2 (List.perm_append_comm.trans pL.symm)
              obtain ⟨L', g1, g2, g3⟩ := putB_rep a2 p2 r2 (pp.nodup_iff.mp nd) c
              exact ⟨L', g1, g2, fun a ha => pp.mem_iff.mpr (g3 a ha)⟩
    · rw [if_neg hj] at c1
      cases c1
      exact same rfl c
end
theorem callIO_core {C : Cfg} {F : Fn} {io : KP} {cb : CBs} {qb : Bool} {E : XK} {σ : Sg} {H : Hp} {Q : VK} (h : tE C false (cCallIO F io cb) σ H Q) : tCall (spM C F) [] E (tB C qb cb) σ H Q := by
  obtain ⟨O, L, ρ, b0, ρ', env, nd, c, q⟩ := h
  obtain ⟨⟨bs, ρ1⟩, c1, c⟩ := Res.of_bind c
  obtain ⟨_, cs, c⟩ := Res.of_bind c
  obtain ⟨⟨ws, ρ2⟩, c2, c⟩ := Res.of_bind c
  obtain ⟨⟨r, bk⟩, c3, c⟩ := Res.of_bind c
  obtain ⟨ρ3, c4, c⟩ := Res.of_bind c
  cases c
  refine ⟨O, L, ρ, bs, ρ1, env, nd, c1, fun vs H1 O1 L1 Lb P => ?_⟩
  show spM C F (vs ++ []) H1 Q E
  rw [List.append_nil]
  obtain ⟨O2, L2, Lw, g1, g2, g3, g4, g5, g6⟩ := argsIO_rep P.br P.env P.nd (chk_ok cs) c2
  have ndw := List.nodup_append.mp g3
  have dw : ∀ a ∈ L2, a ∉ Lw := fun a ha z => ndw.2.2 a ha a z rfl
  refine ⟨O2, Lw, ws, r, bk, g2, ndw.2.1, c3, fun v H' O' L' Lr rr rb ndr st => ?_⟩
  have own2 : ∀ a ∈ L2, O2 a := fun a ha => (g1.own a ha).1
  have ownW : ∀ a ∈ Lw, O2 a := fun a ha => (RepWs.own ws vs Lw g2 a ha).1
  have e2 : EnvR C H' O' ρ2 σ L2 := EnvR.keep (st.keepL ownW own2 dw) g1
  have nd4 : (L' ++ Lr ++ L2).Nodup := nodup_frame st ndr ndw.1 (fun a ha => let ⟨_, xs, e⟩ := g1.own a ha; ⟨_, e⟩) dw
  have nd5 : (L2 ++ L').Nodup := by
    have s : (L' ++ L2).Sublist (L' ++ Lr ++ L2) := (List.sublist_append_left L' Lr).append (List.Sublist.refl L2)
    exact (List.perm_append_comm.nodup_iff).mp (s.nodup nd4)
  obtain ⟨L3, k1, k2, k3⟩ := putB_rep P.br.at e2 rb nd5 c4
  have dr : ∀ a ∈ Lr, a ∉ L3 := fun a ha z => by
    rcases List.mem_append.mp (k3 a z) with z | z
    · exact (List.nodup_append.mp nd4).2.2 a (by simp [ha]) a z rfl
    · exact (List.nodup_append.mp ndr).2.2 a z a ha rfl
  refine q v H' O' L3 Lr ⟨k1, rr, List.nodup_append.mpr ⟨k2, (List.nodup_append.mp ndr).2.1, fun a ha b hb e => by subst e; exact dr a hb ha⟩, ?_, fun z => by cases z⟩
  have s1 : Stp H O L H1 O2 (L2 ++ Lw) := P.st.trans (Stp.ofO g4 g5 g6)
  have s2 : Stp H1 O2 (Lw ++ L2) H' O' (L' ++ Lr ++ L2) := st.frame L2
  refine (s1.perm (T := Lw ++ L2) fun a ha => by simp only [List.mem_append] at ha ⊢; exact ha.symm).trans s2 |>.perm fun a ha => ?_
  rcases List.mem_append.mp ha with ha | ha
  · rcases List.mem_append.mp (k3 a ha) with z | z <;> simp [z]
  · simp [ha]
section
variable {X : Cx} {cl : Nat → Addr} {x : Str} {F : Fn} {p pos : Pos} {e : Expr} {es : List Expr} {cb : CBs} {qb qd : Bool} {io : KP}
theorem se_callV (hf : FnM X cl x F) (hg : Gl X x) (hb : SB X cl qb (e :: es) cb) (hdb : (x == ("__debug__" : Str)) = false := by decide) (he : starEach (e :: es) X.env = (false, eval e X.env) :: starEach es X.env := by rfl) (hpl : (backTo pos (starEach es X.env)).any (·.1) = false := by rfl) :
    SE X cl qb (.Call (.Name x p) (e :: es) [] pos) (cCallV F cb) := by
  obtain ⟨k, f, fd, ps, G, hr, hm, hk, hbd⟩ := hf.ex
  exact PE.imp (pe_call G hr hg hm hk hbd .nil pass0 hb hdb he hpl) fun σ H Q h => callV_core h
theorem se_callP (hf : FnM X cl x F) (hg : Gl X x) (hb : SB X cl qb (e :: es) cb) (hdb : (x == ("__debug__" : Str)) = false := by decide) (he : starEach (e :: es) X.env = (false, eval e X.env) :: starEach es X.env := by rfl) (hpl : (backTo pos (starEach es X.env)).any (·.1) = false := by rfl) :
    SE X cl (qb && qd) (.Call (.Name x p) (e :: es) [] pos) (cCallP qd F cb) := by
  obtain ⟨k, f, fd, ps, G, hr, hm, hk, hbd⟩ := hf.ex
  exact PE.imp (pe_call G hr hg hm hk hbd .nil pass0 hb hdb he hpl) fun σ H Q h => callP_core h
theorem se_callIO (hf : FnM X cl x F) (hg : Gl X x) (hb : SB X cl qb (e :: es) cb) (hdb : (x == ("__debug__" : Str)) = false := by decide) (he : starEach (e :: es) X.env = (false, eval e X.env) :: starEach es X.env := by rfl) (hpl : (backTo pos (starEach es X.env)).any (·.1) = false := by rfl) :
    SE X cl false (.Call (.Name x p) (e :: es) [] pos) (cCallIO F io cb) := by
  obtain ⟨k, f, fd, ps, G, hr, hm, hk, hbd⟩ := hf.ex
  exact PE.imp (pe_call G hr hg hm hk hbd .nil pass0 hb hdb he hpl) fun σ H Q h => callIO_core h
theorem se_call0 (hf : FnM X cl x F) (hg : Gl X x) (hdb : (x == ("__debug__" : Str)) = false := by decide) : SE X cl true (.Call (.Name x p) [] [] pos) (cCallP true F cNil) := by
  obtain ⟨k, f, fd, ps, G, hr, hm, hk, hbd⟩ := hf.ex
  refine PE.imp (pe_call0 G hr hg hm hk hbd .nil pass0 hdb) fun σ H Q h => ?_
  have h2 := callP_core (E := E0) (qb := true) h
  obtain ⟨O, L, ρ, bs, ρ', env, nd, c, q⟩ := h2
  cases c
  exact q [] H O L [] ⟨env, ⟨rfl, rfl⟩, by rw [List.append_nil]; exact nd, by rw [List.append_nil]; exact Stp.refl _ _ _, fun _ => ⟨rfl, fun _ _ e => e⟩⟩
end
end Mi
namespace Mi
open PySem PySem.Spec PyProof.Rows L2
section
variable {C : Cfg} {H : Hp} {O : AP} {L Lb : List Addr} {ρ : En} {σ : Sg} {i : Nat} {p : List Nat} {v : V} {w : W} {ws : List W}
theorem mut_rep (e : EnvR C H O ρ σ L) (nd : L.Nodup) (hb : BR C H O ρ σ (.bor i p) v Lb) (hi : ρ[i]? = some (some w)) (g : getP w p = some (.lst ws)) :
    ∃ l xs L1 L0, v = .ref l ∧ H l = some (.lst xs) ∧ O l ∧ RepWs C H O ws xs L1 ∧ L.Perm (l :: (L1 ++ L0)) ∧
      ∀ ws' xs' L1' O', (∀ a, O' a → O a) → (∀ a, O a → a ∈ l :: L0 → O' a) → RepWs C (upd H l (.lst xs')) O' ws' xs' L1' → ∃ L', L'.Perm (l :: (L1' ++ L0)) ∧ EnvR C (upd H l (.lst xs')) O' (ρ.set i (some (setP w p (.lst ws')))) σ L' := by
  obtain ⟨M1, M0, r1, r2, r3⟩ := env_path e nd hb hi g
  obtain ⟨l, xs, L1, e1, h1, h2, h3, r⟩ := r1
  subst h3
  have ndM : (l :: L1 ++ M0).Nodup := r2.nodup_iff.mp nd
  have hl : l ∉ M0 := fun z => (List.nodup_cons.mp ndM).1 (by simp [z])
  have ow : ∀ a ∈ M0, O a := fun a ha => (e.own a (r2.mem_iff.mpr (by simp [ha]))).1
  refine ⟨l, xs, L1, M0, e1, h1, h2, r, r2, fun ws' xs' L1' O' hO hO2 rs => ?_⟩
  have k : KeepL H O (upd H l (.lst xs')) O' M0 := ⟨fun b u e n => ⟨(upd_ne (show b ≠ l from fun z => n (by rw [z]; exact h2))).trans e, fun q => n (hO b q)⟩,
    fun b hb u e => ⟨(upd_ne (show b ≠ l from fun z => hl (by rw [← z]; exact hb))).trans e, hO2 b (ow b hb) (by simp [hb])⟩⟩
  exact r3 _ O' (.lst ws') (l :: L1') k ⟨l, xs', L1', e1, upd_same, hO2 l h2 (by simp), rfl, rs⟩
end
def mutP (i : Nat) (p : List Nat) (f : List W → Option (List W)) (ρ : En) : Res En := match ρ[i]? with
  | some (some w) => match getP w p with
    | some (.lst ws) => (Res.of (f ws)).bind fun ws' => .ok (ρ.set i (some (setP w p (.lst ws'))))
    | _ => .err
  | _ => .err
theorem mutP_ok {i : Nat} {p : List Nat} {f : List W → Option (List W)} {ρ ρ' : En} (h : mutP i p f ρ = .ok ρ') : ∃ w ws ws', ρ[i]? = some (some w) ∧ getP w p = some (.lst ws) ∧ f ws = some ws' ∧ ρ' = ρ.set i (some (setP w p (.lst ws'))) := by
  unfold mutP at h
  split at h
  · rename_i w hw
    split at h
    · rename_i ws hg
      obtain ⟨ws', c1, c2⟩ := Res.of_bind h
      cases c2
      exact ⟨w, ws, ws', hw, hg, Res.of_ok c1, rfl⟩
    · cases h
  · cases h
def isPl : B → En → Res (Nat × List Nat)
  | .bor i p, ρ => match ρ[i]? with
    | some (some w) => match getP w p with
      | some (.lst _) => .ok (i, p)
      | _ => .err
    | _ => .err
  | _, _ => .err
theorem isPl_ok {b : B} {ρ : En} {i : Nat} {p : List Nat} (h : isPl b ρ = .ok (i, p)) : b = .bor i p ∧ ∃ w ws, ρ[i]? = some (some w) ∧ getP w p = some (.lst ws) := by
  unfold isPl at h
  split at h
  · split at h
    · rename_i w hw
      split at h
      · rename_i ws hg
        cases h
        exact ⟨rfl, w, _, hw, hg⟩
      · cases h
    · cases h
  · cases h
def cApp (qa : Bool) (co ca : CE) : CE := fun ρ => (co ρ).bind fun (b, ρ1) => (isPl b ρ1).bind fun (i, p) => (pend qa (.bor i p)).bind fun _ => (ca ρ1).bind fun (a, ρ2) => (chk (p.isEmpty || isTmp a)).bind fun _ => (take a ρ2).bind fun (w, ρ3) =>
  (mutP i p (fun ws => if ws.length < 16777216 then some (ws ++ [w]) else none) ρ3).bind fun ρ4 => .ok (.tmp (.fz .non), ρ4)
section
variable {X : Cx} {cl : Nat → Addr} {o e : Expr} {co ca : CE} {qo qa : Bool} {apos cpos : Pos}
theorem app_core {C : Cfg} {σ : Sg} {H : Hp} {Q : VK} (h : tE C false (cApp qa co ca) σ H Q) : tBM C.K "list" rAppend (tE C qo co) (tCons (tE C qa ca) tNil) σ H Q := by
  obtain ⟨O, L, ρ, b0, ρ', env, nd, c, q⟩ := h
  obtain ⟨⟨b, ρ1⟩, c1, c⟩ := Res.of_bind c
  obtain ⟨⟨i, p⟩, c2, c⟩ := Res.of_bind c
  obtain ⟨_, c3, c⟩ := Res.of_bind c
  obtain ⟨⟨a, ρ2⟩, c4, c⟩ := Res.of_bind c
  obtain ⟨_, c5, c⟩ := Res.of_bind c
  obtain ⟨⟨w, ρ3⟩, c6, c⟩ := Res.of_bind c
  obtain ⟨ρ4, c7, c⟩ := Res.of_bind c
  cases c
  obtain ⟨eb, w0, ws0, hi0, hg0⟩ := isPl_ok c2
  subst eb
  refine ⟨O, L, ρ, _, ρ1, env, nd, c1, fun v H1 O1 L1 La P1 => ?_⟩
  have ndd1 := List.nodup_append.mp P1.nd
  obtain ⟨l0, xs0, _, _, e0, h0, _⟩ := mut_rep P1.env ndd1.1 P1.br hi0 hg0
  subst e0
  refine ⟨.inl ⟨rfl, xs0, SqL.of h0⟩, ?_⟩
  have eLa : La = [] := P1.br.1
  subst eLa
  have own1 : ∀ z ∈ L1, O1 z := fun z hz => (P1.env.own z hz).1
  refine ⟨O1, L1, ρ1, a, ρ2, P1.env, ndd1.1, c4, fun y H2 O2 L2 Lb P2 => ?_⟩
  obtain ⟨br2, _⟩ := P1.br.pend own1 P1.nd P2 c3
  obtain ⟨O3, L3, Lw, g1, g2, g3, g4, g5, g6⟩ := take_rep P2.br P2.env P2.nd c6
  have br3 : BR C H2 O3 ρ3 σ (.bor i p) (.ref l0) [] := by
    obtain ⟨z0, v0, z1, z2, z3⟩ := br2
    refine ⟨rfl, v0, z1, z2, fun hp => ?_⟩
    have ht : isTmp a = true := by
      have := chk_ok c5
      cases p with
      | nil => exact absurd rfl hp
      | cons k r => simpa using this
    cases a with
    | tmp w' => cases c6; exact z3 hp
    | bor _ _ => cases ht
  obtain ⟨w3, ws, ws', hi, hg, hf, e4⟩ := mutP_ok c7
  subst e4
  have ndd3 := List.nodup_append.mp g3
  obtain ⟨l, xs, M1, M0, el, hl, hO, rs, pm, up⟩ := mut_rep g1 ndd3.1 br3 hi hg
  cases el
  by_cases hlen : ws.length < 16777216
  · rw [if_pos hlen] at hf
    cases hf
    refine ⟨l0, xs, y, rfl, rfl, hl, by rw [rs.length, sizeLine_eq]; exact hlen, ?_⟩
    have pm2 : (L3 ++ Lw).Perm (l0 :: (M1 ++ Lw ++ M0)) := by
      refine (List.Perm.append_right Lw pm).trans ?_
      simp only [List.cons_append, List.append_assoc]
      exact (List.Perm.append_left M1 List.perm_append_comm).cons l0
    have nd4 : (l0 :: (M1 ++ Lw ++ M0)).Nodup := pm2.nodup_iff.mp g3
    have n0 := List.nodup_cons.mp nd4
    have owM : ∀ a ∈ M1, O3 a := fun a ha => (RepWs.own ws xs M1 rs a ha).1
    have owW : ∀ a ∈ Lw, O3 a := fun a ha => (RepW.own w y Lw g2 a ha).1
    have rs2 : RepWs C (upd H2 l0 (.lst (xs ++ [y]))) O3 (ws ++ [w]) (xs ++ [y]) (M1 ++ Lw) :=
      RepWs.append (RepWs.keep ws xs M1 (keep_mut hO (fun z => n0.1 (by simp [z])) owM) rs) (RepWs.one (RepW.keep w y Lw (keep_mut hO (fun z => n0.1 (by simp [z])) owW) g2))
    obtain ⟨L4, p4, env4⟩ := up (ws ++ [w]) (xs ++ [y]) (M1 ++ Lw) O3 (fun _ q => q) (fun _ q _ => q) rs2
    have p5 : L4.Perm (L3 ++ Lw) := p4.trans pm2.symm
    refine q .non _ O3 L4 [] ⟨env4, ⟨rfl, rfl⟩, by rw [List.append_nil]; exact p5.nodup_iff.mpr g3, ?_, fun z => by cases z⟩
    have s1 := P1.st
    rw [List.append_nil] at s1
    have s3 : Stp H O L H2 O3 (L3 ++ Lw) := (s1.trans P2.st).trans (Stp.ofO g4 g5 g6)
    refine (s3.trans (Stp.mut (a := l0) (o := .lst (xs ++ [y])) (pm2.mem_iff.mpr (by simp)) hl)).perm fun a ha => ?_
    rw [List.append_nil] at ha
    exact p5.mem_iff.mp ha
  · rw [if_neg hlen] at hf; cases hf
theorem se_append (ho : SE X cl qo o co) (ha : SE X cl qa e ca) (hbase : attributeBase o "append" X.env (eval o X.env) = eval o X.env := by rfl)
    (hfew : ((backTo cpos (starEach [e] X.env)).all (fun x => !x.1) && (backToKw cpos (keywordEach [] X.env)).all (fun x => x.1.isSome) && decide ([e].length + ([] : List Keyword).length + (if ([] : List Keyword).isEmpty then 0 else 1) < 30)) = true := by rfl)
    (hline : (apos.endLine == cpos.line) = true := by rfl) (hs : starEach [e] X.env = (false, eval e X.env) :: starEach [] X.env := by rfl) (hplain : (backTo cpos (starEach [] X.env)).any (·.1) = false := by rfl) :
    SE X cl false (.Call (.Attribute o "append" apos) [e] [] cpos) (cApp qa co ca) :=
  PE.imp (pe_bm PySem.F.plainAttrs_list PySem.F.slot_list_append PySem.F.type_list_append mt_append ho (pa_cons ha pa_nil hs) hbase hfew hline hs hplain) fun σ H Q h => app_core (C := ⟨X.K, cl⟩) h
end
def intOf : B → Res Int
  | .tmp (.fz (.int k)) => .ok k
  | _ => .err
theorem intOf_ok {b : B} {k : Int} (h : intOf b = .ok k) : b = .tmp (.fz (.int k)) := by
  unfold intOf at h
  split at h
  · cases h; rfl
  · cases h
def gSub (qi : Bool) (co ci : CE) : CG := fun w ρ => (co ρ).bind fun (b, ρ1) => (pend qi b).bind fun _ => (ci ρ1).bind fun (bi, ρ2) => (intOf bi).bind fun k => (isPl b ρ2).bind fun (i, p) =>
  mutP i p (fun ws => match ixN ws.length k with
    | some j => some (ws.set j w)
    | none => none) ρ2
section
variable {X : Cx} {cl : Nat → Addr} {kp : KP} {o ix : Expr} {co ci : CE} {qo qi : Bool} {pos : Pos}
theorem RepWs.setAt {C : Cfg} {H H' : Hp} {O O' : AP} {ws : List W} {xs : List V} {L Lw : List Addr} {j : Nat} {w : W} {y : V} (r : RepWs C H O ws xs L) (hj : j < ws.length) (k : KeepL H O H' O' L) (rw' : RepW C H' O' w y Lw) :
    ∃ L1 L0 L', L.Perm (L1 ++ L0) ∧ L'.Perm (Lw ++ L0) ∧ RepWs C H' O' (ws.set j w) (xs.set j y) L' := by
  obtain ⟨x, L1, L0, q1, q2, q3, q4⟩ := r.focus (List.getElem?_eq_getElem hj)
  obtain ⟨L', p1, p2⟩ := q4 H' O' w y Lw (k.sub fun a ha => q3.mem_iff.mpr (by simp [ha])) rw'
  exact ⟨L1, L0, L', q3, p1, p2⟩
theorem sg_sub (ho : SE X cl qo o co) (hi : SE X cl qi ix ci) (ha : ∀ v, assign (.Subscript o ix pos) X.env v = (do
      let ov ← holding [v] (eval o X.env)
      let iv ← holding [v, ov] (eval ix X.env)
      standAt pos
      holding [v, ov, iv] (setItem ov iv v)
      release [v, ov, iv] []) := by intro _; rfl) : SG X cl kp (.Subscript o ix pos) (gSub qi co ci) := by
  refine PG.imp (pg_sub ho hi set_list ha) fun v σ H Q h => ?_
  obtain ⟨O, L, Lw, ρ, w, ρ', env, r, nd, c, q⟩ := h
  obtain ⟨⟨b, ρ1⟩, c1, c⟩ := Res.of_bind c
  obtain ⟨_, c2, c⟩ := Res.of_bind c
  obtain ⟨⟨bi, ρ2⟩, c3, c⟩ := Res.of_bind c
  obtain ⟨k, c4, c⟩ := Res.of_bind c
  obtain ⟨⟨i, p⟩, c5, cm⟩ := Res.of_bind c
  have ei := intOf_ok c4
  subst ei
  obtain ⟨eb, _⟩ := isPl_ok c5
  subst eb
  have nd0 := List.nodup_append.mp nd
  refine ⟨O, L, ρ, _, ρ1, env, nd0.1, c1, fun ov H1 O1 L1 La P1 => ?_⟩
  have own1 : ∀ z ∈ L1, O1 z := fun z hz => (P1.env.own z hz).1
  have eLa : La = [] := P1.br.1
  subst eLa
  have ndd1 := List.nodup_append.mp P1.nd
  refine ⟨O1, L1, ρ1, _, ρ2, P1.env, ndd1.1, c3, fun iv H2 O2 L2 Lb P2 => ?_⟩
  obtain ⟨eLb, eiv⟩ := P2.br
  subst eLb
  have s1 := P1.st
  have s2 := P2.st
  have nd2 := P2.nd
  rw [List.append_nil] at s1 s2 nd2
  obtain ⟨br2, _⟩ := P1.br.pend own1 P1.nd P2 c2
  obtain ⟨w3, ws, ws', hi', hg, hf, e4⟩ := mutP_ok cm
  subst e4
  obtain ⟨l, xs, M1, M0, el, hl, hO, rs, pm, up⟩ := mut_rep P2.env nd2 br2 hi' hg
  cases hx : ixN ws.length k with
  | none => rw [hx] at hf; cases hf
  | some j =>
    rw [hx] at hf
    cases hf
    have hj : j < ws.length := (ixN_seq hx).2.1
    refine ⟨l, xs, k, j, el, eiv, hl, by rw [rs.length]; exact hx, ?_⟩
    have s02 : Stp H O L H2 O2 L2 := s1.trans s2
    have own0 : ∀ a ∈ L, O a := fun a ha => (env.own a ha).1
    have owW := RepW.own w v Lw r
    have dW : ∀ a ∈ Lw, a ∉ L := fun a ha z => nd0.2.2 a z a ha rfl
    have r2 : RepW ⟨X.K, cl⟩ H2 O2 w v Lw := RepW.keep w v Lw (s02.keepL own0 (fun a ha => (owW a ha).1) dW) r
    have nd3 : (L2 ++ Lw).Nodup := nodup_frame s02 nd2 nd0.2.1 (fun a ha => let ⟨_, ys, e⟩ := owW a ha; ⟨_, e⟩) dW
    have pm2 : (L2 ++ Lw).Perm (l :: (M1 ++ M0 ++ Lw)) := (List.Perm.append_right Lw pm)
    have nd4 : (l :: (M1 ++ M0 ++ Lw)).Nodup := pm2.nodup_iff.mp nd3
    have n0 := List.nodup_cons.mp nd4
    have hne : ∀ a ∈ M1 ++ M0 ++ Lw, a ≠ l := fun a ha z => n0.1 (by rw [← z]; exact ha)
    have owM : ∀ a ∈ M1, O2 a := fun a ha => (RepWs.own ws xs M1 rs a ha).1
    have ow2 := RepW.own w v Lw r2
    obtain ⟨N1, N0, N', q1, q2, q3⟩ := RepWs.setAt (H' := upd H2 l (.lst (xs.set j v))) (O' := O2) rs hj (keep_mut hO (fun z => hne l (by simp [z]) rfl) owM) (RepW.keep w v Lw (keep_mut hO (fun z => hne l (by simp [z]) rfl) fun a ha => (ow2 a ha).1) r2)
    obtain ⟨L4, p4, env4⟩ := up (ws.set j w) (xs.set j v) N' O2 (fun _ q => q) (fun _ q _ => q) q3
    have sub : ∀ a ∈ L4, a ∈ L2 ++ Lw := fun a ha => by
      have z := p4.mem_iff.mp ha
      refine pm2.mem_iff.mpr ?_
      simp only [List.mem_cons, List.mem_append] at z ⊢
      rcases z with z | z | z
      · exact .inl z
      · have := q2.mem_iff.mp z
        simp only [List.mem_append] at this
        rcases this with t | t
        · exact .inr (.inr t)
        · exact .inr (.inl (.inl (q1.mem_iff.mpr (by simp [t]))))
      · exact .inr (.inl (.inr z))
    have nd5 : L4.Nodup := by
      refine p4.nodup_iff.mpr (List.nodup_cons.mpr ⟨fun z => ?_, List.nodup_append.mpr ⟨q2.nodup_iff.mpr ?_, ?_, fun a ha b hb e => ?_⟩⟩)
      · rcases List.mem_append.mp z with z | z
        · have := q2.mem_iff.mp z
          simp only [List.mem_append] at this
          rcases this with t | t
          · exact hne l (by simp [t]) rfl
          · exact hne l (by simp [q1.mem_iff.mpr (show l ∈ N1 ++ N0 by simp [t])]) rfl
        · exact hne l (by simp [z]) rfl
      · have nA := List.nodup_append.mp n0.2
        have nB := List.nodup_append.mp nA.1
        refine List.nodup_append.mpr ⟨nA.2.1, (List.nodup_append.mp (q1.nodup_iff.mp nB.1)).2.1, fun a ha b hb e => ?_⟩
        subst e
        exact nA.2.2 a (by simp [q1.mem_iff.mpr (show a ∈ N1 ++ N0 by simp [hb])]) a ha rfl
      · exact (List.nodup_append.mp (List.nodup_append.mp n0.2).1).2.1
      · subst e
        have := q2.mem_iff.mp ha
        simp only [List.mem_append] at this
        rcases this with t | t
        · exact (List.nodup_append.mp n0.2).2.2 a (by simp [hb]) a t rfl
        · exact (List.nodup_append.mp (List.nodup_append.mp n0.2).1).2.2 a (q1.mem_iff.mpr (by simp [t])) a hb rfl
    refine q σ _ O2 L4 ⟨env4, by rw [List.append_nil]; exact nd5, ?_, fun _ _ => rfl, rfl⟩
    rw [List.append_nil]
    exact ((s02.frame Lw).trans (Stp.mut (a := l) (o := .lst (xs.set j v)) (pm2.mem_iff.mpr (by simp)) hl)).perm sub
end
end Mi
namespace PySem
open Sem (wp)
open AutoSeq1 (wpAny_loadPart')
theorem mi_meets_enumT (l : Addr) (items : Array Value) (n : Nat) (dct : Option Addr) (sl : Array (Option Value)) :
    Meets (Builtin.«enumerate.__new__» ⟨[.type "enumerate", .ref l], []⟩) (fun _ R s => s.heap.get? l = some { cls := .type "tuple", dict := dct, data := .seq items n, slots := sl } ∧
      R (.ok (.ret (.ref (s.heap.push { cls := .type "tuple_iterator", data := .fields #[.ref l, .int 0 0] }).objs.size)))
        { s with heap := (s.heap.push { cls := .type "tuple_iterator", data := .fields #[.ref l, .int 0 0] }).push { cls := .type "enumerate", data := .fields #[.none, .bool false, .ref s.heap.objs.size, rawInt 0, .none, .none] } }) :=
  .of_wp fun prog w A R s h => by
    obtain ⟨hp, g, d, tk, os⟩ := s; obtain ⟨hl, h⟩ := h
    have hsub := sub_enumerate
    have hL : Heap.IsTuple (Shared.heap ⟨hp, g, d, tk, os⟩) l items := ⟨_, hl, rfl, n, rfl⟩
    wp_walk using wpAny_loadPart' hl
    refine wpAny_stack_any fun st => wpAny_pure ?_
    split
    · rename_i c _ _ _ _ _
      cases (c == Value.type "enumerate")
      · wp_walk using wpAny_loadPart' hl, wpAny_pyIter_tuple hL
        exact ⟨_, rfl, h⟩
      · wp_walk using wpAny_loadPart' hl, wpAny_pyIter_tuple hL
        exact ⟨_, rfl, h⟩
    · wp_walk using wpAny_loadPart' hl, wpAny_pyIter_tuple hL
      exact ⟨_, rfl, h⟩
section
variable {prog : Program} {w : World} {A : Around} {E : Value → Shared → Prop} {s : Shared}
theorem mi_call_enumT {l : Addr} {items : Array Value} {Q : Value → Shared → Prop} (hL : s.heap.IsTuple l items)
    (h : ∀ h', IsEnum h' (s.heap.objs.size + 1) s.heap.objs.size 0 .none → h'.IsTupleIter s.heap.objs.size l 0 → h'.objs.size = s.heap.objs.size + 2 →
      (∀ b o, s.heap.get? b = some o → h'.get? b = some o) → Q (.ref (s.heap.objs.size + 1)) { s with heap := h' }) :
    wpAny (model prog w) A (call (.type "enumerate") [.ref l]) Q E s := by
  obtain ⟨⟨c, dct, dt, sl⟩, hl, hc, n, hd⟩ := hL
  replace hc : c = .type "tuple" := hc
  replace hd : dt = .seq items n := hd
  subst hc hd
  refine callType_new F.called_enumerate (by decide) (F.typeCall_enumerate_1 _) (F.newCall_enumerate_1 _) (fun obj => F.args_object_init_2 obj _) F.entry_enumerate_new
    (mi_meets_enumT l items n dct sl) ⟨hl, ?_⟩
  have hz : (s.heap.push { cls := .type "tuple_iterator", data := .fields #[.ref l, .int 0 0] }).objs.size = s.heap.objs.size + 1 := Heap.size_push ..
  show _ ∧ _
  rw [hz]
  have he : IsEnum ((s.heap.push { cls := .type "tuple_iterator", data := .fields #[.ref l, .int 0 0] }).push
      { cls := .type "enumerate", data := .fields #[.none, .bool false, .ref s.heap.objs.size, rawInt 0, .none, .none] }) (s.heap.objs.size + 1) s.heap.objs.size 0 .none := by
    have := Heap.get?_push_size (s.heap.push { cls := .type "tuple_iterator", data := .fields #[.ref l, .int 0 0] })
      (o := { cls := .type "enumerate", data := .fields #[.none, .bool false, .ref s.heap.objs.size, rawInt 0, .none, .none] }) rfl
    rw [hz] at this; exact this
  refine ⟨⟨_, he, rfl⟩, h _ he ⟨_, Heap.get?_push_of_some _ (Heap.get?_push_size _ rfl), rfl, rfl⟩ (by rw [Heap.size_push, hz]) fun b o x => Heap.get?_push_of_some _ (Heap.get?_push_of_some _ x)⟩
end
end PySem
namespace Mi
open PySem PySem.Spec PyProof.Rows L2
def IteT (K : PySem.W.Frag) (a : Addr) : It :=
  ⟨fun i H => ∃ (xs : List V) (x : V), SqT K H a xs ∧ xs[i]? = some x, fun i H v H' => ∃ T x, v = .ref T ∧ H T = none ∧ H' = upd H T (.tup [.int (i : Nat), x]) ∧ ∀ xs, SqT K H a xs → xs[i]? = some x, fun i H => ∃ xs : List V, SqT K H a xs ∧ xs.length ≤ i⟩
theorem turn_enumT {P : Program} {w : World} {K : PySem.W.Frag} {elts : List Expr} {kk : Nat} {tpos : Pos} (a e it : Addr) :
    Turn P w K (.Tuple elts kk tpos) (IteT K a) [e, it] e (fun i h => (∃ old, IsEnum h e it ((i : Nat) : Int) old) ∧ h.IsTupleIter it a i ∧ e ≠ it ∧ a ≠ it ∧ a ≠ e) where
  mem := by simp
  obj := fun i h st b hb => by
    obtain ⟨⟨old, he⟩, ⟨o, ho, hc, hd⟩, _⟩ := st
    have e' : b = e ∨ b = it := by simpa using hb
    rcases e' with z | z
    · rw [z]; exact ⟨_, he, fun v q => nomatch q⟩
    · rw [z]; exact ⟨o, ho, fun v q => by rw [hd] at q; cases q⟩
  keep := fun i h h' st k => let ⟨⟨old, he⟩, hi, hne⟩ := st; ⟨⟨old, k e (by simp) _ he⟩, hi.at fun o q => k it (by simp) o q, hne⟩
  item := by
    intro X hP hw hK hc i pins s σ H E I hf st hg
    subst hP hw hK
    obtain ⟨⟨old, he⟩, hit, hne, hai, hae⟩ := st
    obtain ⟨xs, x, hq, hx⟩ := hg
    obtain ⟨its, rv, p, hz⟩ := I.tuple hq
    obtain ⟨u, hu, ru⟩ := rv.get hx
    have hel : e < s.heap.objs.size := Heap.lt_size he
    have hil : it < s.heap.objs.size := by obtain ⟨_, q, _⟩ := hit; exact Heap.lt_size q
    have hcm : X.A.in1.handled = none := I.ok.hd hc
    have hlt : i < its.toArray.size := by
      have := (List.getElem?_eq_some_iff.mp hu).1
      simpa using this
    refine wpAny_pyNext_enum_itemD (Draws.tuple hcm it a hai its.toArray) he ⟨hit, p⟩ hlt hne (by
      intro z
      have e' : e = it ∨ e = a := by simpa using z
      rcases e' with q | q
      · exact hne q
      · exact hae q.symm) fun x' h' tk hP ho hst hT hsz hk => ?_
    have ex : x' = u := by
      have h1 : its[i]? = some x' := by simpa using hP
      rw [hu] at h1
      exact (Option.some.inj h1).symm
    subst ex
    refine ⟨_, rfl, wpAny_letOwnedTupleGo_enum (s := { s with heap := h', toks := tk + 1 }) ho fun h'' he' sb => ?_⟩
    have hT2 : h''.get? s.heap.objs.size = some { cls := .type "tuple", data := .seq #[.int i tk, x'] } := (sb.2 _ (Nat.ne_of_gt hel)).trans hT
    have new : ObjOk X.prog X.w (upd H s.heap.objs.size (.tup [.int (i : Nat), x])) h'' s.heap.objs.size (.tup [.int (i : Nat), x]) :=
      ⟨by show 2 ≤ sizeLine; decide, [.int i tk, x'], .cons ⟨_, rfl⟩ (.cons ru .nil), ⟨_, hT2, rfl, _, rfl⟩⟩
    have I1 : Inv X pins σ (upd H s.heap.objs.size (.tup [.int (i : Nat), x])) { s with heap := h'', toks := tk + 1 } :=
      I.turnedNew (ch := [e, it]) (fun b ob hb q => (sb.2 b (fun z => hb (by simp [z]))).trans (hk b ob (fun z => hb (by simp [z])) (fun z => hb (by simp [z])) q)) hf (Nat.le_refl _) new
    refine ⟨.ref s.heap.objs.size, _, I1, rfl, ⟨_, x, rfl, I.hok.fresh (Nat.le_refl _), rfl, fun ys hy => by rw [I.tuple_inj hy hq]; exact hx⟩, ⟨⟨x', ?_⟩, hst.1.at fun o q => (sb.2 it (Ne.symm hne)).trans q, hne, hai, hae⟩, fun b hb => ?_⟩
    · have e1 : ((i + 1 : Nat) : Int) = (i : Int) + 1 := by omega
      rw [e1]; exact he'
    · have hb' : b < s.heap.objs.size := by
        have e' : b = e ∨ b = it := by simpa using hb
        rcases e' with z | z
        · rw [z]; exact hel
        · rw [z]; exact hil
      rw [upd_ne (Nat.ne_of_lt hb')]
      exact (hf b hb).1
  done := by
    intro X hP hw hK hc i pins s σ H E I hf st hg
    subst hP hw hK
    obtain ⟨⟨old, he⟩, hit, hne, hai, hae⟩ := st
    obtain ⟨xs, hq, hx⟩ := hg
    obtain ⟨its, rv, p, hz⟩ := I.tuple hq
    obtain ⟨f0, f1, f2, f3, f4, f5⟩ := hf it (by simp)
    have hl := rv.length
    have hT : s.TypeIs (.ref e) "enumerate" := ⟨_, he, rfl⟩
    have hcm : X.A.in1.handled = none := I.ok.hd hc
    unfold pyNext
    refine wpAny_bind (wpAny_attempt (wpAny_callSpecial?_slot (name := Str.ofString "__next__") hT F.slot_enumerate_next
      (wpAny_call_entry F.slot_enumerate_next hT F.entry_enumerate_next ?_ (F.args_enumerate_next_1 _))))
    show wpAny _ _ (field (.ref e) 2 >>= _) _ _ _
    refine wpAny_bind (wpAny_field he rfl (x := .ref it) rfl ?_)
    refine wpAny_bind (wpAny_nextOf_tuple_end hcm hit p (by simp; omega) fun h' x he' hx' => ?_)
    obtain ⟨o, ho, hc'⟩ := hx'
    refine wpAny_bind (wpAny_isInstance (T := "StopIteration") (b := true) ⟨o, ho, hc'⟩ isSubtype_stop ?_)
    exact wpAny_pure ⟨rfl, I.turned (t' := s.toks) (fun b o hb q => he' b o hb q) f0 f1 f3 f4 f5⟩
  self := fun A i s Q E st h => let ⟨⟨_, he⟩, _⟩ := st; wpAny_pyIter_enum he h
def iEnumT (K : PySem.W.Frag) (ta : TA) : TI := fun σ H R => ta σ H fun vs H1 => ∃ a xs, vs = [.ref a] ∧ SqT K H1 a xs ∧ R (IteT K a) H1
theorem pi_enumT {X : Cx} {e : Expr} {ta : TA} {p pos tpos : Pos} {elts : List Expr} {kk : Nat} (hg : Gl X "enumerate") (hm : X.mg "enumerate" = none) (ha : PA X [e] ta) (hs : starEach [e] X.env = [(false, eval e X.env)] := by rfl) :
    PI X (.Tuple elts kk tpos) (.Call (.Name "enumerate" p) [e] [] pos) (iEnumT X.K ta) := by
  refine ⟨fun pins s σ H R I h => ?_⟩
  refine Call_ (ld_blt I hg hm boot_enumerate (PyProof.Rows.callWith_type1 (thn (ha.run pos pins s σ H _ I h) fun us s1 ⟨vs, H1, I1, r1, q1⟩ => ?_) hs rfl))
  obtain ⟨a, xs, ex, hq, q⟩ := q1
  subst ex
  cases r1 with
  | cons r rr =>
    cases rr
    cases r
    obtain ⟨its, rv, p', hz⟩ := I1.tuple hq
    have hal : a < s1.heap.objs.size := p'.lt
    refine mi_call_enumT p' fun h' he hit hsz hk => wpAny_pyIter_enum he ?_
    have I2 : Inv X pins σ H1 { s1 with heap := h' } := I1.kept (t' := s1.toks) hk
    refine ⟨s1.heap.objs.size + 1, [s1.heap.objs.size + 1, s1.heap.objs.size], _, _, H1, rfl, I2, turn_enumT a (s1.heap.objs.size + 1) s1.heap.objs.size, ⟨⟨.none, he⟩, hit, Nat.succ_ne_self _, Nat.ne_of_lt hal, Nat.ne_of_lt (Nat.lt_succ_of_lt hal)⟩, fun b hb => ?_, q⟩
    have e' : b = s1.heap.objs.size + 1 ∨ b = s1.heap.objs.size := by simpa using hb
    have hle : s1.heap.objs.size ≤ b := by
      rcases e' with z | z
      · rw [z]; exact Nat.le_add_right _ _
      · rw [z]; exact Nat.le_refl _
    exact I1.fpOk hle (I1.hok.fresh hle)
end Mi
namespace Mi
open PySem PySem.Spec PyProof.Rows L2
def isI : W → Bool
  | .fz (.int _) => true
  | _ => false
def isS : W → Bool
  | .fz (.str _) => true
  | _ => false
def isT : W → Bool
  | .fz (.tup _) => true
  | _ => false
def fStrAdd : W → W → Res W
  | .fz (.str a), .fz (.str b) => if a.length + b.length ≤ 16777216 then .ok (.fz (.str (a ++ b))) else .err
  | _, _ => .err
def fTupAdd : W → W → Res W
  | .fz (.tup a), .fz (.tup b) => if a.length + b.length ≤ 16777216 then .ok (.fz (.tup (a ++ b))) else .err
  | _, _ => .err
def fLstAdd (x y : W) : Res W := match lstV x, lstV y with
  | some a, some b => if a.length + b.length ≤ 16777216 then .ok (.lst ((a ++ b).map W.fz)) else .err
  | _, _ => .err
def fAdd : W → W → Res W := fun x y => if isI x then fI (fun i j => .ok (.int (i + j))) x y else if isS x then fStrAdd x y else if isT x then fTupAdd x y else fLstAdd x y
def fSub : W → W → Res W := fI fun i j => .ok (.int (i - j))
def fNeg : W → Res W
  | .fz (.int i) => .ok (.fz (.int (-i)))
  | _ => .err
def fLstMul (x y : W) : Res W := match lstV x, y with
  | some a, .fz (.int k) => if -(2 ^ 63) ≤ k ∧ k < 2 ^ 63 ∧ a.length * k.toNat ≤ 16777216 then .ok (.lst ((List.replicate k.toNat a).flatten.map W.fz)) else .err
  | _, _ => .err
def fTupMul : W → W → Res W
  | .fz (.tup a), .fz (.int k) => if a ≠ [] ∧ 2 ≤ k ∧ k ≤ 1000 ∧ a.length ≤ 1000 then .ok (.fz (.tup (List.replicate k.toNat a).flatten)) else .err
  | _, _ => .err
def fMul : W → W → Res W := fun x y => if isI x then fI (fun i j => if CMul i j then .ok (.int (i * j)) else if CMulW i j then .ok (.int (i * j)) else .err) x y else if isT x then fTupMul x y else fLstMul x y
def fDiv : W → W → Res W := fI fun i j => if CDivW i j then .ok (.int (i / j)) else .err
def fMod : W → W → Res W := fI fun i j => if 0 < j then .ok (.int (i % j)) else .err
def fPow : W → W → Res W := fI fun i j => if CPow i j then .ok (.int (i ^ j.toNat)) else .err
def fLt : W → W → Res W := fI fun i j => .ok (.bl (decide (i < j)))
def fLe : W → W → Res W := fI fun i j => .ok (.bl (decide (i ≤ j)))
def fGt : W → W → Res W := fI fun i j => .ok (.bl (decide (j < i)))
def fGe : W → W → Res W := fI fun i j => .ok (.bl (decide (j ≤ i)))
mutual
def py : D → Option PyData
  | .non => some .none
  | .bl b => some (.bool b)
  | .int i => some (.int i)
  | .str s => some (.str s)
  | .tup ds => match pys ds with
    | some ps => some (.tuple ps)
    | none => none
  | .lst ds => match pys ds with
    | some ps => some (.list ps)
    | none => none
  | .scr ds => match pys ds with
    | some ps => some (.list ps)
    | none => none
  | .obj _ _ => none
  | .exc _ _ => none
  | .exs _ _ => none
  | .dct _ _ => none
  | .dtt _ _ => none
  | .ktp _ => none
  | .tpn _ => none
def pys : List D → Option (List PyData)
  | [] => some []
  | d :: ds => match py d with
    | some p => match pys ds with
      | some ps => some (p :: ps)
      | none => none
    | none => none
end
mutual
theorem RepD.dp {C : Cfg} {H : Hp} {O : AP} : ∀ (d : D) (v : V) (p : PyData), RepD C H O d v → py d = some p → Dp C.K H v p
  | .non, v, p, h, e => by cases h; cases e; exact .non
  | .bl b, v, p, h, e => by cases h; cases e; exact .bl b
  | .int i, v, p, h, e => by cases h; cases e; exact .int i
  | .str s, v, p, h, e => by cases h; cases e; exact .str s
  | .tup ds, v, p, h, e => by
    obtain ⟨a, xs, e1, t, r⟩ := h
    subst e1
    simp only [py] at e
    cases q : pys ds with
    | none => rw [q] at e; cases e
    | some ps => rw [q] at e; cases e; exact .tup t.sq (RepDs.dp ds xs ps r q)
  | .lst ds, v, p, h, e => by
    obtain ⟨a, xs, e1, t, n, r⟩ := h
    subst e1
    simp only [py] at e
    cases q : pys ds with
    | none => rw [q] at e; cases e
    | some ps => rw [q] at e; cases e; exact .lst (SqL.of t) (RepDs.dp ds xs ps r q)
  | .scr ds, v, p, h, e => by
    obtain ⟨a, xs, e1, t, r⟩ := h
    subst e1
    simp only [py] at e
    cases q : pys ds with
    | none => rw [q] at e; cases e
    | some ps => rw [q] at e; cases e; exact .lst t.sq (RepDs.dp ds xs ps r q)
  | .obj _ _, v, p, h, e => by cases e
  | .exc _ _, v, p, h, e => by cases e
  | .exs _ _, v, p, h, e => by cases e
  | .dct _ _, v, p, h, e => by cases e
  | .dtt _ _, v, p, h, e => by cases e
  | .ktp _, v, p, h, e => by cases e
  | .tpn _, v, p, h, e => by cases e
theorem RepDs.dp {C : Cfg} {H : Hp} {O : AP} : ∀ (ds : List D) (vs : List V) (ps : List PyData), RepDs C H O ds vs → pys ds = some ps → DpAll C.K H vs ps
  | [], vs, ps, h, e => by rw [show vs = [] from h]; cases e; exact .nil
  | d :: ds, vs, ps, h, e => by
    obtain ⟨x, r, e1, h1, h2⟩ := h
    subst e1
    simp only [pys] at e
    cases q : py d with
    | none => rw [q] at e; cases e
    | some p =>
      rw [q] at e
      cases q2 : pys ds with
      | none => rw [q2] at e; cases e
      | some ps' => rw [q2] at e; cases e; exact .cons (RepD.dp d x p h1 q) (RepDs.dp ds r ps' h2 q2)
end
def eqW (x y : W) : Res Bool := match py (frz x), py (frz y) with
  | some a, some b => if (SeqAt.shaped a && SeqAt.shaped b) = true then .ok (PyData.eqv a b) else .err
  | _, _ => .err
def fEq (x y : W) : Res W := (eqW x y).bind fun b => .ok (.fz (.bl b))
def fNe (x y : W) : Res W := (eqW x y).bind fun b => .ok (.fz (.bl (!b)))
def isNonW : W → Bool
  | .fz .non => true
  | _ => false
def fIsN (x y : W) : Res W := if isNonW y = true then .ok (.fz (.bl (isNonW x))) else .err
def fNotN (x y : W) : Res W := if isNonW y = true then .ok (.fz (.bl (!isNonW x))) else .err
section
variable {C : Cfg} {X : Cx}
theorem ops_strAdd : OpS C (fun x y H Q => ∃ i j, x = .str i ∧ y = .str j ∧ i.length + j.length ≤ sizeLine ∧ Q (.str (i ++ j)) H) fStrAdd := by
  intro H O x y wx wy w Lx Ly Q rx ry e q
  unfold fStrAdd at e
  split at e
  · rename_i a b
    split at e
    · rename_i hl
      cases e
      exact ⟨a, b, rx.2, ry.2, by rw [sizeLine_eq]; exact hl, gr_same (show RepD C H O (.str (a ++ b)) (.str (a ++ b)) from rfl) q⟩
    · cases e
  · cases e
theorem ops_tupAdd : OpS C (rCatA C.K) fTupAdd := by
  intro H O x y wx wy w Lx Ly Q rx ry e q
  unfold fTupAdd at e
  split at e
  · rename_i a b
    split at e
    · rename_i hl
      cases e
      obtain ⟨_, p1, xs, e1, t1, r1⟩ := rx
      obtain ⟨_, p2, ys, e2, t2, r2⟩ := ry
      have l1 := r1.length
      have l2 := r2.length
      refine ⟨p1, p2, xs, ys, e1, e2, t1.sq, t2.sq, by rw [sizeLine_eq]; omega, fun hx => ?_, fun hx hy => ?_, fun hx hy p hp => ?_⟩
      · subst hx
        have : a = [] := by cases a with | nil => rfl | cons _ _ => simp at l1
        subst this
        exact gr_same (show RepD C H O (.tup ([] ++ b)) (.ref p2) from ⟨p2, ys, rfl, t2, r2⟩) q
      · subst hy
        have : b = [] := by cases b with | nil => rfl | cons _ _ => simp at l2
        subst this
        exact gr_same (show RepD C H O (.tup (a ++ [])) (.ref p1) from ⟨p1, xs, rfl, t1, by rw [List.append_nil]; exact r1⟩) q
      · exact q (.ref p) _ _ [] (new_tup hp (RepDs.append r1 r2)) (Gr.new hp)
    · cases e
  · cases e
theorem ops_lstAdd : OpS C rCat fLstAdd := by
  intro H O x y wx wy w Lx Ly Q rx ry e q
  unfold fLstAdd at e
  split at e
  · rename_i a b ha hb
    split at e
    · rename_i hl
      cases e
      obtain ⟨p1, xs, e1, t1, r1⟩ := lstV_rep rx ha
      obtain ⟨p2, ys, e2, t2, r2⟩ := lstV_rep ry hb
      exact ⟨p1, p2, xs, ys, e1, e2, t1, t2, by rw [sizeLine_eq, r1.length, r2.length]; exact hl, fun p hp => q (.ref p) _ _ [p] (new_lst hp (RepDs.append r1 r2)) (Gr.newO hp)⟩
    · cases e
  · cases e
def rAddA (K : PySem.W.Frag) : R2 := fun x y H Q => (rI0 (fun i j => .int (i + j))) x y H Q ∨ (fun x y H Q => (∃ i j, x = .str i ∧ y = .str j ∧ i.length + j.length ≤ sizeLine ∧ Q (.str (i ++ j)) H) ∨ (fun x y H Q => rCatA K x y H Q ∨ rCat x y H Q) x y H Q) x y H Q
theorem ops_add : OpS C (rAddA C.K) fAdd := OpS.or (ops_I0 (gd := fun i j => .int (i + j)) fun _ _ _ _ => rfl) (OpS.or ops_strAdd (OpS.or ops_tupAdd ops_lstAdd fun x _ => isT x) fun x _ => isS x) fun x _ => isI x
theorem opr_add : OpR X (binaryOp .Add) (rAddA X.K) := op_add.or (op_add_str.or (op_catA.or op_cat))
theorem ops_sub : OpS C (rI0 fun i j => .int (i - j)) fSub := ops_I0 fun _ _ _ _ => rfl
theorem uns_neg : UnS C (rU fun i => .int (-i)) fNeg := by
  intro H O x wx w Lx Q rx e q
  unfold fNeg at e
  split at e
  · rename_i i
    cases e
    exact ⟨i, rx.2, gr_same (show RepD C H O (.int (-i)) (.int (-i)) from rfl) q⟩
  · cases e
theorem RepDs.rep {H : Hp} {O : AP} {ds : List D} {xs : List V} (h : RepDs C H O ds xs) : ∀ k : Nat, RepDs C H O (List.replicate k ds).flatten (List.replicate k xs).flatten
  | 0 => rfl
  | k + 1 => by rw [List.replicate_succ, List.replicate_succ, List.flatten_cons, List.flatten_cons]; exact RepDs.append h (RepDs.rep h k)
theorem ops_lstMul : OpS C rRep fLstMul := by
  intro H O x y wx wy w Lx Ly Q rx ry e q
  unfold fLstMul at e
  split at e
  · rename_i a k ha
    split at e
    · rename_i hl
      cases e
      obtain ⟨p1, xs, e1, t1, r1⟩ := lstV_rep rx ha
      exact ⟨p1, k, xs, e1, ry.2, t1, hl.1, hl.2.1, by rw [sizeLine_eq, r1.length]; exact hl.2.2, fun p hp => q (.ref p) _ _ [p] (new_lst hp (RepDs.rep r1 _)) (Gr.newO hp)⟩
    · cases e
  · cases e
theorem ops_tupMul : OpS C (rRepT C.K) fTupMul := by
  intro H O x y wx wy w Lx Ly Q rx ry e q
  unfold fTupMul at e
  split at e
  · rename_i a k
    split at e
    · rename_i hl
      cases e
      obtain ⟨_, p1, xs, e1, t1, r1⟩ := rx
      have l1 := r1.length
      refine ⟨p1, k, xs, e1, ry.2, t1.sq, fun z => hl.1 ?_, hl.2.1, hl.2.2.1, by rw [l1]; exact hl.2.2.2, fun p hp => q (.ref p) _ _ [] (new_tup hp (RepDs.rep r1 _)) (Gr.new hp)⟩
      subst z
      cases a with
      | nil => rfl
      | cons _ _ => simp at l1
    · cases e
  · cases e
def rMulI : R2 := fun x y H Q => (rI CMul fun i j => .int (i * j)) x y H Q ∨ (rI CMulW fun i j => .int (i * j)) x y H Q
theorem ops_mulI : OpS C rMulI (fI fun i j => if CMul i j then .ok (.int (i * j)) else if CMulW i j then .ok (.int (i * j)) else .err) := by
  intro H O x y wx wy w Lx Ly Q rx ry e q
  obtain ⟨i, j, d, rfl, rfl, e1, rfl⟩ := fI_ok e
  by_cases h1 : CMul i j
  · rw [if_pos h1] at e1; cases e1
    exact .inl ⟨i, j, rx.2, ry.2, h1, gr_same (show RepD C H O (.int (i * j)) (.int (i * j)) from rfl) q⟩
  · rw [if_neg h1] at e1
    by_cases h2 : CMulW i j
    · rw [if_pos h2] at e1; cases e1
      exact .inr ⟨i, j, rx.2, ry.2, h2, gr_same (show RepD C H O (.int (i * j)) (.int (i * j)) from rfl) q⟩
    · rw [if_neg h2] at e1; cases e1
def rMulA (K : PySem.W.Frag) : R2 := fun x y H Q => rMulI x y H Q ∨ (fun x y H Q => rRepT K x y H Q ∨ rRep x y H Q) x y H Q
theorem ops_mul : OpS C (rMulA C.K) fMul := OpS.or ops_mulI (OpS.or ops_tupMul ops_lstMul fun x _ => isT x) fun x _ => isI x
theorem opr_mul : OpR X (binaryOp .Mult) (rMulA X.K) := (op_mul.or op_mulW).or (op_repT.or op_rep)
theorem ops_div : OpS C (rI CDivW fun i j => .int (i / j)) fDiv := ops_I fun _ _ _ _ => rfl
theorem ops_mod : OpS C (rI (fun _ j => 0 < j) fun i j => .int (i % j)) fMod := ops_I (P := fun _ j => 0 < j) fun _ _ _ _ => rfl
theorem ops_pow : OpS C (rI CPow fun i j => .int (i ^ j.toNat)) fPow := ops_I fun _ _ _ _ => rfl
theorem ops_lt : OpS C (rI0 fun i j => .bl (decide (i < j))) fLt := ops_I0 fun _ _ _ _ => rfl
theorem ops_gt : OpS C (rI0 fun i j => .bl (decide (j < i))) fGt := ops_I0 fun _ _ _ _ => rfl
theorem ops_ge : OpS C (rI0 fun i j => .bl (decide (j ≤ i))) fGe := ops_I0 fun _ _ _ _ => rfl
theorem eqW_rep {H : Hp} {O : AP} {x y : V} {wx wy : W} {Lx Ly : List Addr} {b : Bool} (rx : RepW C H O wx x Lx) (ry : RepW C H O wy y Ly) (e : eqW wx wy = .ok b) : ∃ p q, Dp C.K H x p ∧ Dp C.K H y q ∧ SeqAt.shaped p = true ∧ SeqAt.shaped q = true ∧ PyData.eqv p q = b := by
  unfold eqW at e
  split at e
  · rename_i p q hp hq
    split at e
    · rename_i hs
      cases e
      obtain ⟨s1, s2⟩ := Bool.and_eq_true_iff.mp hs
      have rx' : RepD C H (Less O Lx) (frz wx) x := RepW.frz wx x Lx (fun a z => z) rx
      have ry' : RepD C H (Less O Ly) (frz wy) y := RepW.frz wy y Ly (fun a z => z) ry
      exact ⟨p, q, RepD.dp _ _ _ rx' hp, RepD.dp _ _ _ ry' hq, s1, s2, rfl⟩
    · cases e
  · cases e
theorem ops_eq : OpS C (rEqD C.K) fEq := by
  intro H O x y wx wy w Lx Ly Q rx ry e q
  obtain ⟨b, e1, e2⟩ := Res.of_bind e
  cases e2
  obtain ⟨p, p', h1, h2, h3, h4, h5⟩ := eqW_rep rx ry e1
  subst h5
  exact ⟨p, p', h1, h2, h3, h4, gr_same (show RepD C H O (.bl (PyData.eqv p p')) (.bl (PyData.eqv p p')) from rfl) q⟩
theorem ops_ne : OpS C (rNeD C.K) fNe := by
  intro H O x y wx wy w Lx Ly Q rx ry e q
  obtain ⟨b, e1, e2⟩ := Res.of_bind e
  cases e2
  obtain ⟨p, p', h1, h2, h3, h4, h5⟩ := eqW_rep rx ry e1
  subst h5
  exact ⟨p, p', h1, h2, h3, h4, gr_same (show RepD C H O (.bl (!PyData.eqv p p')) (.bl (!PyData.eqv p p')) from rfl) q⟩
theorem non_rep {H : Hp} {O : AP} {x : V} {wx : W} {Lx : List Addr} (rx : RepW C H O wx x Lx) : decide (x = .non) = isNonW wx := by
  cases wx with
  | lst ws => obtain ⟨a, _, _, e, _⟩ := rx; subst e; rfl
  | ob _ _ => obtain ⟨a, _, _, e, _⟩ := rx; subst e; rfl
  | di _ => obtain ⟨a, e, _⟩ := rx; subst e; rfl
  | fz d =>
    cases d with
    | non => obtain ⟨_, e⟩ := rx; cases e; rfl
    | bl b => obtain ⟨_, e⟩ := rx; cases e; rfl
    | int i => obtain ⟨_, e⟩ := rx; cases e; rfl
    | str s => obtain ⟨_, e⟩ := rx; cases e; rfl
    | tup ds => obtain ⟨_, a, _, e, _⟩ := rx; subst e; rfl
    | lst ds => obtain ⟨_, a, _, e, _⟩ := rx; subst e; rfl
    | scr ds => obtain ⟨_, a, _, e, _⟩ := rx; subst e; rfl
    | obj c fs => obtain ⟨_, a, _, _, e, _⟩ := rx; subst e; rfl
    | exc c fs => obtain ⟨_, a, _, _, e, _⟩ := rx; subst e; rfl
    | exs c fs => obtain ⟨_, a, _, _, e, _⟩ := rx; subst e; rfl
    | dct ks ds => obtain ⟨_, a, _, e, _⟩ := rx; subst e; rfl
    | dtt ks ds => obtain ⟨_, a, _, e, _⟩ := rx; subst e; rfl
    | ktp ks => obtain ⟨_, a, e, _⟩ := rx; subst e; rfl
    | tpn ds => obtain ⟨_, a, _, _, e, _⟩ := rx; subst e; rfl
theorem ops_isN : OpS C (fun x y H Q => y = .non ∧ Q (.bl (decide (x = .non))) H) fIsN := by
  intro H O x y wx wy w Lx Ly Q rx ry e q
  unfold fIsN at e
  split at e
  · rename_i hn
    cases e
    have hy := non_rep ry
    rw [hn] at hy
    refine ⟨of_decide_eq_true hy, ?_⟩
    rw [non_rep rx]
    exact gr_same (show RepD C H O (.bl _) (.bl _) from rfl) q
  · cases e
end
def fLen : List W → Res W
  | [.fz (.str s)] => if s.length ≤ 16777216 then .ok (.fz (.int s.length)) else .err
  | [x] => match seqV x with
    | some ds => .ok (.fz (.int ds.length))
    | none => .err
  | _ => .err
def fAbs : List W → Res W
  | [.fz (.int i)] => .ok (.fz (.int (if i < 0 then -i else i)))
  | _ => .err
def fMax2 : List W → Res W
  | [.fz (.int i), .fz (.int j)] => .ok (.fz (.int (if j > i then j else i)))
  | _ => .err
def fMin2 : List W → Res W
  | [.fz (.int i), .fz (.int j)] => .ok (.fz (.int (if j < i then j else i)))
  | _ => .err
def fInt : List W → Res W
  | [.fz (.int i)] => .ok (.fz (.int i))
  | [.fz (.bl k)] => .ok (.fz (.int (if k then 1 else 0)))
  | _ => .err
def intsD : List D → Option (List Int)
  | [] => some []
  | .int i :: ds => match intsD ds with
    | some ns => some (i :: ns)
    | none => none
  | _ :: _ => none
def blsD : List D → Option (List Bool)
  | [] => some []
  | .bl i :: ds => match blsD ds with
    | some ns => some (i :: ns)
    | none => none
  | _ :: _ => none
def lsV : W → Option (List D)
  | .fz (.scr ds) => some ds
  | w => lstV w
def fSum : List W → Res W
  | [x] => match lsV x with
    | some ds => match intsD ds with
      | some ns => .ok (.fz (.int ns.sum))
      | none => .err
    | none => .err
  | _ => .err
def fAll : List W → Res W
  | [x] => match lsV x with
    | some ds => match blsD ds with
      | some ns => .ok (.fz (.bl (ns.all id)))
      | none => .err
    | none => .err
  | _ => .err
def fTuple : List W → Res W
  | [x] => match seqV x with
    | some ds => .ok (.fz (.tup ds))
    | none => .err
  | _ => .err
def fList : List W → Res W
  | [x] => match seqV x with
    | some ds => .ok (.lst (ds.map W.fz))
    | none => .err
  | _ => .err
section
variable {C : Cfg} {H : Hp} {O : AP}
theorem lsV_rep {w : W} {x : V} {L : List Addr} {ds : List D} (h : RepW C H O w x L) (e : lsV w = some ds) : ∃ a xs, x = .ref a ∧ SqL C.K H a xs ∧ RepDs C H O ds xs := by
  have gen : ∀ w, RepW C H O w x L → lstV w = some ds → ∃ a xs, x = .ref a ∧ SqL C.K H a xs ∧ RepDs C H O ds xs := fun w h e => by
    obtain ⟨a, xs, e1, h1, r⟩ := lstV_rep h e
    exact ⟨a, xs, e1, SqL.of h1, r⟩
  cases w with
  | lst ws => exact gen _ h e
  | ob _ _ => cases e
  | di _ => cases e
  | fz d =>
    cases d with
    | scr es =>
      cases e
      obtain ⟨_, a, xs, e1, h1, r⟩ := h
      exact ⟨a, xs, e1, h1.sq, r⟩
    | _ => exact gen _ h e
theorem intsD_rep : ∀ {ds : List D} {xs : List V} {ns : List Int}, RepDs C H O ds xs → intsD ds = some ns → xs = ns.map V.int
  | [], xs, ns, h, e => by cases e; exact h
  | d :: ds, xs, ns, h, e => by
    obtain ⟨x, r, e1, h1, h2⟩ := h
    subst e1
    cases d with
    | int i =>
      simp only [intsD] at e
      cases q : intsD ds with
      | none => rw [q] at e; cases e
      | some ms => rw [q] at e; cases e; rw [intsD_rep h2 q, show x = .int i from h1]; rfl
    | _ => cases e
theorem blsD_rep : ∀ {ds : List D} {xs : List V} {ns : List Bool}, RepDs C H O ds xs → blsD ds = some ns → xs = ns.map V.bl
  | [], xs, ns, h, e => by cases e; exact h
  | d :: ds, xs, ns, h, e => by
    obtain ⟨x, r, e1, h1, h2⟩ := h
    subst e1
    cases d with
    | bl i =>
      simp only [blsD] at e
      cases q : blsD ds with
      | none => rw [q] at e; cases e
      | some ms => rw [q] at e; cases e; rw [blsD_rep h2 q, show x = .bl i from h1]; rfl
    | _ => cases e
end
section
variable {C : Cfg} {X : Cx}
theorem cs_len : CallS C (fun xs H Q => (∃ p ys, xs = [.ref p] ∧ (SqL C.K H p ys ∨ SqT C.K H p ys) ∧ Q (.int ys.length) H) ∨ ∃ z, xs = [.str z] ∧ z.length ≤ sizeLine ∧ Q (.int z.length) H) fLen := by
  intro H O vs ws w Q r e q
  unfold fLen at e
  split at e
  · rename_i s
    obtain ⟨v, vr, L, e1, r1, r2⟩ := r
    rw [show vr = [] from r2] at e1
    split at e
    · rename_i hs
      cases e
      exact .inr ⟨s, by rw [e1, r1.2], by rw [sizeLine_eq]; exact hs, gr_same (show RepD C H O (.int s.length) (.int s.length) from rfl) q⟩
    · cases e
  · rename_i x _
    obtain ⟨v, vr, L, e1, r1, r2⟩ := r
    rw [show vr = [] from r2] at e1
    split at e
    · rename_i ds hd
      cases e
      obtain ⟨a, xs, e2, h1, rs⟩ := seqV_rep r1 hd
      refine .inl ⟨a, xs, by rw [e1, e2], h1, ?_⟩
      rw [rs.length]
      exact gr_same (show RepD C H O (.int ds.length) (.int ds.length) from rfl) q
    · cases e
  · cases e
theorem cr_lenA : CallR X (.builtin "len") (fun xs H Q => (∃ p ys, xs = [.ref p] ∧ (SqL X.K H p ys ∨ SqT X.K H p ys) ∧ Q (.int ys.length) H) ∨ ∃ z, xs = [.str z] ∧ z.length ≤ sizeLine ∧ Q (.int z.length) H) := call_len_seq.or call_len_str
theorem cs_abs : CallS C (fun xs H Q => ∃ i, xs = [.int i] ∧ Q (.int (if i < 0 then -i else i)) H) fAbs := by
  intro H O vs ws w Q r e q
  unfold fAbs at e
  split at e
  · rename_i i
    cases e
    obtain ⟨v, vr, L, e1, r1, r2⟩ := r
    rw [show vr = [] from r2, show v = .int i from r1.2] at e1
    exact ⟨i, e1, gr_same (show RepD C H O (.int _) (.int _) from rfl) q⟩
  · cases e
theorem cs_min2 : CallS C (fun xs H Q => ∃ i j, xs = [.int i, .int j] ∧ Q (.int (if j < i then j else i)) H) fMin2 := by
  intro H O vs ws w Q r e q
  unfold fMin2 at e
  split at e
  · rename_i i j
    cases e
    obtain ⟨v, vr, L, e1, r1, v2, vr2, L2, e2, r2, r3⟩ := r
    rw [e2, show vr2 = [] from r3, show v = .int i from r1.2, show v2 = .int j from r2.2] at e1
    exact ⟨i, j, e1, gr_same (show RepD C H O (.int _) (.int _) from rfl) q⟩
  · cases e
theorem cs_int : CallS C (fun xs H Q => (∃ i, xs = [.int i] ∧ Q (.int i) H) ∨ ∃ k, xs = [.bl k] ∧ Q (.int (if k then 1 else 0)) H) fInt := by
  intro H O vs ws w Q r e q
  unfold fInt at e
  split at e
  · rename_i i
    cases e
    obtain ⟨v, vr, L, e1, r1, r2⟩ := r
    rw [show vr = [] from r2, show v = .int i from r1.2] at e1
    exact .inl ⟨i, e1, gr_same (show RepD C H O (.int _) (.int _) from rfl) q⟩
  · rename_i i
    cases e
    obtain ⟨v, vr, L, e1, r1, r2⟩ := r
    rw [show vr = [] from r2, show v = .bl i from r1.2] at e1
    exact .inr ⟨i, e1, gr_same (show RepD C H O (.int _) (.int _) from rfl) q⟩
  · cases e
theorem cs_sum : CallS C (rSum C.K) fSum := by
  intro H O vs ws w Q r e q
  unfold fSum at e
  split at e
  · rename_i x
    split at e
    · rename_i ds hd
      split at e
      · rename_i ns hn
        cases e
        obtain ⟨v, vr, L, e1, r1, r2⟩ := r
        rw [show vr = [] from r2] at e1
        obtain ⟨a, xs, e2, h1, rs⟩ := lsV_rep r1 hd
        rw [intsD_rep rs hn] at h1
        exact ⟨a, ns, by rw [e1, e2], h1, gr_same (show RepD C H O (.int _) (.int _) from rfl) q⟩
      · cases e
    · cases e
  · cases e
theorem cs_all : CallS C (rAll C.K) fAll := by
  intro H O vs ws w Q r e q
  unfold fAll at e
  split at e
  · rename_i x
    split at e
    · rename_i ds hd
      split at e
      · rename_i ns hn
        cases e
        obtain ⟨v, vr, L, e1, r1, r2⟩ := r
        rw [show vr = [] from r2] at e1
        obtain ⟨a, xs, e2, h1, rs⟩ := lsV_rep r1 hd
        rw [blsD_rep rs hn] at h1
        exact ⟨a, ns, by rw [e1, e2], h1, gr_same (show RepD C H O (.bl _) (.bl _) from rfl) q⟩
      · cases e
    · cases e
  · cases e
theorem cs_tuple : CallS C (fun xs H Q => ∃ p ys, xs = [.ref p] ∧ ((SqL C.K H p ys ∧ ∀ l, H l = none → Q (.ref l) (upd H l (.tup ys))) ∨ (SqT C.K H p ys ∧ Q (.ref p) H))) fTuple := by
  intro H O vs ws w Q r e q
  unfold fTuple at e
  split at e
  · rename_i x
    split at e
    · rename_i ds hd
      cases e
      obtain ⟨v, vr, L, e1, r1, r2⟩ := r
      rw [show vr = [] from r2] at e1
      by_cases ht : isT x = true
      · cases x with
        | lst _ => cases ht
        | ob _ _ => cases ht
        | di _ => cases ht
        | fz d =>
          cases d with
          | tup es =>
            cases hd
            obtain ⟨_, a, xs, e2, t, rs⟩ := r1
            exact ⟨a, xs, by rw [e1, e2], .inr ⟨t.sq, gr_same (show RepD C H O (.tup ds) (.ref a) from ⟨a, xs, rfl, t, rs⟩) q⟩⟩
          | _ => cases ht
      · have hl : lsV x = some ds := by
          cases x with
          | lst ws => exact hd
          | ob _ _ => exact hd
          | di _ => exact hd
          | fz d =>
            cases d with
            | tup es => exact absurd rfl ht
            | _ => exact hd
        obtain ⟨a, xs, e2, h1, rs⟩ := lsV_rep r1 hl
        exact ⟨a, xs, by rw [e1, e2], .inl ⟨h1, fun l hp => q (.ref l) _ _ [] (new_tup hp rs) (Gr.new hp)⟩⟩
    · cases e
  · cases e
theorem cs_list : CallS C (fun xs H Q => ∃ p ys, xs = [.ref p] ∧ (SqL C.K H p ys ∨ SqT C.K H p ys) ∧ ∀ l, H l = none → Q (.ref l) (upd H l (.lst ys))) fList := by
  intro H O vs ws w Q r e q
  unfold fList at e
  split at e
  · rename_i x
    split at e
    · rename_i ds hd
      cases e
      obtain ⟨v, vr, L, e1, r1, r2⟩ := r
      rw [show vr = [] from r2] at e1
      obtain ⟨a, xs, e2, h1, rs⟩ := seqV_rep r1 hd
      exact ⟨a, xs, by rw [e1, e2], h1, fun l hp => q (.ref l) _ _ [l] (new_lst hp rs) (Gr.newO hp)⟩
    · cases e
  · cases e
end
end Mi
namespace Mi
open PySem PySem.Spec PyProof.Rows L2
def cutD (ds : List D) (lo hi : Option Int) : List D := (ds.drop (HT.sIx ds.length 0 lo)).take (HT.sIx ds.length ds.length hi - HT.sIx ds.length 0 lo)
theorem RepDs.cut {C : Cfg} {H : Hp} {O : AP} {ds : List D} {xs : List V} (h : RepDs C H O ds xs) (lo hi : Option Int) : RepDs C H O (cutD ds lo hi) (cutV xs lo hi) := by
  unfold cutD cutV
  rw [h.length]
  exact RepDs.take _ (RepDs.drop _ h)
abbrev CO := En → Res (Option Int × En)
def tO (C : Cfg) (qt : Bool) (c : CO) : TO := fun σ H Q => ∃ O L ρ o ρ', EnvR C H O ρ σ L ∧ L.Nodup ∧ c ρ = .ok (o, ρ') ∧ ∀ H' O' L', PostT C σ H O L ρ qt ρ' H' O' L' → Q o H'
def SO (X : Cx) (cl : Nat → Addr) (qt : Bool) (e : Option Expr) (c : CO) : Prop := PO X e (tO ⟨X.K, cl⟩ qt c)
theorem PO.imp {X : Cx} {e : Option Expr} {t t' : TO} (h : PO X e t) (k : ∀ σ H Q, t' σ H Q → t σ H Q) : PO X e t' := by
  obtain ⟨r⟩ := h
  exact ⟨fun pins s σ H Q I q => r pins s σ H Q I (k σ H Q q)⟩
def oNone : CO := fun ρ => .ok (none, ρ)
def oSome (c : CE) : CO := fun ρ => (c ρ).bind fun (b, ρ1) => (intOf b).bind fun k => .ok (some k, ρ1)
def SlS (C : Cfg) (r : V → Option Int → Option Int → Hp → VK → Prop) (f : W → Option Int → Option Int → Res W) : Prop := ∀ (H : Hp) (O : AP) (x : V) (wx w : W) (lo hi : Option Int) (Lx : List Addr) (Q : VK), RepW C H O wx x Lx → f wx lo hi = .ok w →
  (∀ v H' O' Lw, RepW C H' O' w v Lw → Gr H O H' O' Lw → Q v H') → r x lo hi H Q
def cSl (f : W → Option Int → Option Int → Res W) (qs : Bool) (ca : CE) (cl ch : CO) : CE := fun ρ => (ca ρ).bind fun (a, ρ1) => (pend qs a).bind fun _ => (cl ρ1).bind fun (lo, ρ2) => (ch ρ2).bind fun (hi, ρ3) => (cont a ρ3).bind fun x => (f x lo hi).bind fun w => .ok (.tmp w, ρ3)
def fSl (x : W) (lo hi : Option Int) : Res W := if isT x = true then (match tupV x with
  | some ds => .ok (.fz (.tup (cutD ds lo hi)))
  | none => .err) else match lsV x with
  | some ds => .ok (.lst ((cutD ds lo hi).map W.fz))
  | none => .err
section
variable {X : Cx} {cl : Nat → Addr} {e : Expr} {ca : CE} {qa : Bool} {pos : Pos}
theorem so_none : SO X cl true none oNone := by
  refine PO.imp po_none fun σ H Q h => ?_
  obtain ⟨O, L, ρ, o, ρ', env, nd, c, q⟩ := h
  cases c
  exact q H O L ⟨env, nd, Stp.refl _ _ _, fun _ => ⟨rfl, fun _ _ e => e⟩⟩
theorem so_some (h : SE X cl qa e ca) : SO X cl qa (some e) (oSome ca) := by
  refine PO.imp (po_some h) fun σ H Q h => ?_
  obtain ⟨O, L, ρ, o, ρ', env, nd, c, q⟩ := h
  obtain ⟨⟨b, ρ1⟩, c1, c⟩ := Res.of_bind c
  obtain ⟨k, c2, c⟩ := Res.of_bind c
  cases c
  have eb := intOf_ok c2
  subst eb
  refine ⟨O, L, ρ, _, ρ', env, nd, c1, fun v H1 O1 L1 Lb P => ?_⟩
  obtain ⟨e1, e2⟩ := P.br
  subst e1
  have nd' := P.nd
  have st' := P.st
  rw [List.append_nil] at nd' st'
  exact ⟨k, e2, q H1 O1 L1 ⟨P.env, nd', st', P.qu⟩⟩
theorem PostT.asE {C : Cfg} {σ : Sg} {H H1 : Hp} {O O1 : AP} {L L1 : List Addr} {ρ ρ1 : En} (P : PostT C σ H O L ρ qa ρ1 H1 O1 L1) : PostE C σ H O L ρ qa (.tmp (.fz .non)) ρ1 .non H1 O1 L1 [] :=
  ⟨P.env, ⟨rfl, rfl⟩, by rw [List.append_nil]; exact P.nd, by rw [List.append_nil]; exact P.st, P.qu⟩
theorem se_slice {lo hi : Option Expr} {co ch : CO} {ql qh : Bool} {p2 : Pos} {r : V → Option Int → Option Int → Hp → VK → Prop} {f : W → Option Int → Option Int → Res W} (hr : SlR X r) (hs : SlS ⟨X.K, cl⟩ r f) (he : SE X cl qa e ca) (hl : SO X cl ql lo co) (hh : SO X cl qh hi ch) :
    SE X cl (qa && (ql && qh)) (.Subscript e (.Slice lo hi none p2) pos) (cSl f (ql && qh) ca co ch) := by
  refine PE.imp (pe_slice hr he hl hh) fun σ H Q h => ?_
  obtain ⟨O, L, ρ, b0, ρ', env, nd, c, q⟩ := h
  obtain ⟨⟨a, ρ1⟩, c1, c⟩ := Res.of_bind c
  obtain ⟨_, c2, c⟩ := Res.of_bind c
  obtain ⟨⟨l, ρ2⟩, c3, c⟩ := Res.of_bind c
  obtain ⟨⟨u, ρ3⟩, c4, c⟩ := Res.of_bind c
  obtain ⟨x, c5, c⟩ := Res.of_bind c
  obtain ⟨w, c6, c⟩ := Res.of_bind c
  cases c
  refine ⟨O, L, ρ, a, ρ1, env, nd, c1, fun va H1 O1 L1 La P1 => ?_⟩
  have own1 : ∀ z ∈ L1, O1 z := fun z hz => (P1.env.own z hz).1
  refine ⟨O1, L1, ρ1, l, ρ2, P1.env, (List.nodup_append.mp P1.nd).1, c3, fun H2 O2 L2 P2 => ?_⟩
  refine ⟨O2, L2, ρ2, u, ρ', P2.env, P2.nd, c4, fun H3 O3 L3 P3 => ?_⟩
  have P4 := (P2.trans P3).asE
  obtain ⟨ba, nd2⟩ := P1.br.pend own1 P1.nd P4 c2
  rw [List.append_nil] at nd2
  have ndd := List.nodup_append.mp nd2
  have d : ∀ z ∈ L3, z ∉ La := fun z hz q => ndd.2.2 z hz z q rfl
  obtain ⟨Lx, rx, _⟩ := cont_rep (T := La) ba P3.env ndd.1 d (fun z hz => hz) c5
  refine hs H3 (Less O3 La) va x w l u Lx _ rx c6 fun v H' O' Lw rw' g => ?_
  refine q v H' O' L3 Lw (post_of P3.env nd2 ?_ (fun hq => ?_) g rw')
  · exact P1.st.trans ((P2.st.trans P3.st).frame La)
  · have hq' : qa = true ∧ (ql = true ∧ qh = true) := by simpa using hq
    obtain ⟨h1, h2, h3⟩ := hq'
    exact ⟨(P3.qu h3).1.trans ((P2.qu h2).1.trans (P1.qu h1).1), fun z o e => (P3.qu h3).2 z o ((P2.qu h2).2 z o ((P1.qu h1).2 z o e))⟩
theorem cutV_whole {xs : List V} {lo hi : Option Int} (h : HT.sIx xs.length 0 lo = 0 ∧ HT.sIx xs.length xs.length hi = xs.length) : cutV xs lo hi = xs := by
  unfold cutV
  rw [h.1, h.2]
  simp
theorem sls_seq {C : Cfg} : SlS C (fun x lo hi H Q => rSlL C.K x lo hi H Q ∨ rSlA C.K x lo hi H Q) fSl := by
  intro H O x wx w lo hi Lx Q rx e q
  unfold fSl at e
  split at e
  · rename_i ht
    split at e
    · rename_i ds hd
      cases e
      obtain ⟨a, xs, e1, t, r⟩ := tupV_rep rx hd
      refine .inr ⟨a, xs, e1, t.sq, fun hw => ?_, fun hw p hp => q (.ref p) _ _ [] (new_tup hp (RepDs.cut r lo hi)) (Gr.new hp)⟩
      have r2 := RepDs.cut r lo hi
      rw [cutV_whole hw] at r2
      exact gr_same (show RepD C H O (.tup (cutD ds lo hi)) (.ref a) from ⟨a, xs, rfl, t, r2⟩) q
    · cases e
  · split at e
    · rename_i ds hd
      cases e
      obtain ⟨a, xs, e1, h1, r⟩ := lsV_rep rx hd
      exact .inl ⟨a, xs, e1, h1, fun p hp => q (.ref p) _ _ [p] (new_lst hp (RepDs.cut r lo hi)) (Gr.newO hp)⟩
    · cases e
theorem slr_seq : SlR X (fun x lo hi H Q => rSlL X.K x lo hi H Q ∨ rSlA X.K x lo hi H Q) := sl_list.or sl_tupA
end
def tyW : W → Option String
  | .fz .non => some "NoneType"
  | .fz (.bl _) => some "bool"
  | .fz (.int _) => some "int"
  | .fz (.str _) => some "str"
  | .fz (.tup _) => some "tuple"
  | .fz (.lst _) => some "list"
  | .fz (.scr _) => some "list"
  | .lst _ => some "list"
  | .ob _ _ => none
  | .di _ => none
  | .fz (.obj _ _) => none
  | .fz (.exc _ _) => none
  | .fz (.exs _ _) => none
  | .fz (.dct _ _) => none
  | .fz (.dtt _ _) => none
  | .fz (.ktp _) => none
  | .fz (.tpn _) => none
def isiB (t T : String) : Bool := t == T || (t == "bool" && T == "int")
def tysOk (T : String) : Bool := ["int", "bool", "str", "tuple", "list"].contains T
theorem isiB_kit {w : W} {t T : String} (h : tyW w = some t) (hT : tysOk T = true) : kitB t T = some (isiB t T) := by
  have h1 : t ∈ ["NoneType", "bool", "int", "str", "tuple", "list"] := by
    cases w with
    | lst _ => cases h; decide
    | ob _ _ => cases h
    | di _ => cases h
    | fz d => cases d <;> first | (cases h; decide) | cases h
  have h2 : T ∈ ["int", "bool", "str", "tuple", "list"] := by simpa [tysOk] using hT
  have key : ∀ t ∈ ["NoneType", "bool", "int", "str", "tuple", "list"], ∀ T ∈ ["int", "bool", "str", "tuple", "list"], kitB t T = some (isiB t T) := by decide +kernel
  exact key t h1 T h2
theorem tyW_rep {C : Cfg} {H : Hp} {O : AP} {w : W} {x : V} {L : List Addr} {t : String} (r : RepW C H O w x L) (h : tyW w = some t) : TyX C.K H x (.type t) := by
  cases w with
  | lst ws =>
    cases h
    obtain ⟨a, xs, _, e, h1, _⟩ := r
    subst e
    exact .base (.lst h1)
  | ob _ _ => cases h
  | di _ => cases h
  | fz d =>
    cases d with
    | non => cases h; rw [r.2]; exact .base .non
    | bl b => cases h; rw [r.2]; exact .base (.bl b)
    | int i => cases h; rw [r.2]; exact .base (.int i)
    | str s => cases h; rw [r.2]; exact .base (.str s)
    | tup ds =>
      cases h
      obtain ⟨_, a, xs, e, t, _⟩ := r
      subst e
      rcases t with ⟨h1 | ⟨o, h1⟩, _⟩ | ⟨o, its, n, h1, h2, _⟩
      · exact .base (.tup h1)
      · exact .fTuple h1
      · exact .kTuple h1 h2
    | lst ds =>
      cases h
      obtain ⟨_, a, xs, e, h1, _⟩ := r
      subst e
      exact .base (.lst h1)
    | scr ds =>
      cases h
      obtain ⟨_, a, xs, e, t, _⟩ := r
      subst e
      rcases t with ⟨h1 | ⟨o, h1⟩, _⟩ | ⟨o, its, n, h1, h2, _⟩
      · exact .base (.lst h1)
      · exact .base (.frz h1)
      · exact .kList h1 h2
    | obj c fs => cases h
    | exc c fs => cases h
    | exs c fs => cases h
    | dct ks ds => cases h
    | dtt ks ds => cases h
    | ktp ks => cases h
    | tpn ds => cases h
def fIsi (Ts : List String) (w : W) : Res W := match tyW w with
  | some t => .ok (.fz (.bl (Ts.any fun T => isiB t T)))
  | none => .err
theorem kitAny_of {K : PySem.W.Frag} {w : W} {t : String} (h : tyW w = some t) : ∀ {Ts : List String}, Ts.all tysOk = true → PySem.W.kitAny K (.type t) (Ts.map Value.type) = some (Ts.any fun T => isiB t T)
  | [], _ => kitAny_nil
  | T :: Ts, hT => by
    have hT' : tysOk T = true ∧ Ts.all tysOk = true := by simpa using hT
    have h1 : PySem.W.kitOne K (.type t) (.type T) = some (isiB t T) := kit_ty (isiB_kit h hT'.1)
    refine kitAny_cons h1 (fun hb => ?_) fun hb => ?_
    · rw [kitAny_of h hT'.2, List.any_cons, hb, Bool.false_or]
    · rw [List.any_cons, hb, Bool.true_or]
section
variable {X : Cx} {cl : Nat → Addr} {e : Expr} {ca : CE} {qa : Bool} {pos p p2 p3 p4 p5 : Pos}
structure TyN (X : Cx) (x : Str) (T : String) : Prop where
  gl : Gl X x
  mg : X.mg x = none
  bo : bootBuiltins x = some (.type T)
  n1 : x ≠ "__name__"
  n2 : (x == ("__debug__" : Str)) = false
theorem TyN.pe {x : Str} {T : String} (h : TyN X x T) : PE X (.Name x pos) (tC (.ty T)) := pe_bltn h.gl h.mg h.bo rfl h.n1 h.n2
theorem isi_core {C : Cfg} {Ts : List String} {σ : Sg} {H : Hp} {Q : VK} {r : V → Hp → VK → Prop} (hr : ∀ (H : Hp) (O : AP) (x : V) (w : W) (L : List Addr) (t : String) (Q : VK), RepW C H O w x L → tyW w = some t → (∀ H', (∀ a o, H a = some o → H' a = some o) → Q (.bl (Ts.any fun T => isiB t T)) H') → r x H Q)
    (h : tE C qa (cUn (fIsi Ts) ca) σ H Q) : tUn r (tE C qa ca) σ H Q := by
  refine un_core (f := fIsi Ts) (fun H O x wx w Lx Q rx e q => ?_) h
  unfold fIsi at e
  split at e
  · rename_i t ht
    cases e
    refine hr H O x wx Lx t Q rx ht fun H' ex => ?_
    exact q (.bl _) H' O [] ⟨rfl, rfl⟩ ⟨ex, fun a z => .inl z, fun a o _ z => z, fun a z => by simp at z, List.nodup_nil⟩
  · cases e
theorem se_isi1 {x : Str} {T : String} (hgi : Gl X "isinstance") (hmi : X.mg "isinstance" = none) (ht : TyN X x T) (hT : tysOk T = true) (he : SE X cl qa e ca) (hs : starEach [e, .Name x p2] X.env = (false, eval e X.env) :: starEach [.Name x p2] X.env := by rfl)
    (hs2 : starEach [Expr.Name x p2] X.env = (false, eval (.Name x p2) X.env) :: starEach [] X.env := by rfl) (hpl : (backTo pos (starEach [.Name x p2] X.env)).any (·.1) = false := by rfl) :
    SE X cl qa (.Call (.Name "isinstance" p) [e, .Name x p2] [] pos) (cUn (fIsi [T]) ca) := by
  refine PE.imp (pe_callB call_isi hgi hmi PyProof.Rows.boot_isinstance (pa_cons he (pa_cons ht.pe pa_nil hs2) hs) (by decide) (by decide) hs hpl) fun σ H Q h => ?_
  refine isi_core (C := ⟨X.K, cl⟩) (Ts := [T]) (r := fun x H1 Q => rIsi X.K [x, .ty T] H1 Q) (fun H O x w L t Q r hty q => ?_) h
  refine ⟨x, .ty T, .type t, .type T, isiB t T, rfl, .ty T, tyW_rep r hty, kit_ty (isiB_kit hty hT), ?_⟩
  have := q H fun _ _ e => e
  simpa using this
theorem se_isi2 {x y : Str} {T U : String} {k : Nat} (hgi : Gl X "isinstance") (hmi : X.mg "isinstance" = none) (ht : TyN X x T) (hu : TyN X y U) (hT : tysOk T = true) (hU : tysOk U = true) (he : SE X cl qa e ca)
    (hs : starEach [e, .Tuple [.Name x p2, .Name y p3] k p4] X.env = (false, eval e X.env) :: starEach [.Tuple [.Name x p2, .Name y p3] k p4] X.env := by rfl)
    (hs2 : starEach [Expr.Tuple [.Name x p2, .Name y p3] k p4] X.env = (false, eval (.Tuple [.Name x p2, .Name y p3] k p4) X.env) :: starEach [] X.env := by rfl)
    (hs3 : starEach [Expr.Name x p2, .Name y p3] X.env = (false, eval (.Name x p2) X.env) :: starEach [.Name y p3] X.env := by rfl) (hs4 : starEach [Expr.Name y p3] X.env = (false, eval (.Name y p3) X.env) :: starEach [] X.env := by rfl)
    (hpl : (backTo pos (starEach [.Tuple [.Name x p2, .Name y p3] k p4] X.env)).any (·.1) = false := by rfl) :
    SE X cl qa (.Call (.Name "isinstance" p) [e, .Tuple [.Name x p2, .Name y p3] k p4] [] pos) (cUn (fIsi [T, U]) ca) := by
  refine PE.imp (pe_callB call_isiT hgi hmi PyProof.Rows.boot_isinstance (pa_cons he (pa_cons (pe_tup (pa_cons ht.pe (pa_cons hu.pe pa_nil hs4) hs3)) pa_nil hs2) hs) (by decide) (by decide) hs hpl) fun σ H Q h => ?_
  refine isi_core (C := ⟨X.K, cl⟩) (Ts := [T, U]) (r := fun x H1 Q => ([V.ty T, V.ty U].length ≤ sizeLine ∧ ∀ p, H1 p = none → rIsiT X.K [x, .ref p] (upd H1 p (.tup [.ty T, .ty U])) Q)) (fun H O x w L t Q r hty q => ?_) h
  refine ⟨by show 2 ≤ sizeLine; rw [sizeLine_eq]; omega, fun p hp => ?_⟩
  have g : Gr H O (upd H p (.tup [.ty T, .ty U])) (Less O [p]) [] := Gr.new hp
  have r2 : RepW ⟨X.K, cl⟩ (upd H p (.tup [.ty T, .ty U])) (Less O [p]) w x L := RepW.keep w x L (g.keepL fun a ha => (RepW.own w x L r a ha).1) r
  refine ⟨x, p, [.ty T, .ty U], .type t, [.type T, .type U], _, rfl, upd_same, .cons (.ty T) (.cons (.ty U) .nil), tyW_rep r2 hty, kitAny_of (Ts := [T, U]) hty (by simp [hT, hU]), q _ g.ex⟩
end
end Mi
namespace Mi
open PySem PySem.Spec PyProof.Rows L2
theorem PI.or {X : Cx} {tg e : Expr} {t u : TI} (h : PI X tg e t) (h' : PI X tg e u) : PI X tg e (fun σ H R => t σ H R ∨ u σ H R) := ⟨fun pins s σ H R I q => q.elim (h.run pins s σ H R I) (h'.run pins s σ H R I)⟩
def srcV : W → Option (List D)
  | .fz (.lst ds) => some ds
  | .fz (.tup ds) => some ds
  | .fz (.scr ds) => some ds
  | .lst ws => some (frzs ws)
  | _ => none
def iSeq (c : CE) : CI := fun ρ => (c ρ).bind fun (b, ρ1) => (take b ρ1).bind fun (w, ρ2) => (Res.of (srcV w)).bind fun ds => .ok (ds, ρ2)
section
variable {C : Cfg} {H : Hp} {O : AP}
theorem jr_list {K : PySem.W.Frag} (hK : C.K = K) {a : Addr} {xs : List V} {ds : List D} (h : Sc C H O a xs) (r : RepDs C H O ds xs) : JR C H O (Itl K a) ds := by
  subst hK
  intro i H1 O1 k
  have h1 := (h.keep k).sq
  have r1 := RepDs.keep k ds xs r
  refine ⟨fun d hd => ?_, fun hl => ⟨xs, h1, by rw [r.length]; exact hl⟩⟩
  obtain ⟨x, hx, rx⟩ := r1.get hd
  refine ⟨⟨xs, x, h1, hx⟩, fun y H2 hy => ?_⟩
  obtain ⟨e, hy⟩ := hy
  subst e
  have : some y = some x := (hy xs h1).symm.trans hx
  cases this
  exact ⟨O1, Gr.refl _ _, rx⟩
theorem jr_tup {K : PySem.W.Frag} (hK : C.K = K) {a : Addr} {xs : List V} {ds : List D} (h : Tp C H O a xs) (r : RepDs C H O ds xs) : JR C H O (Itt K a) ds := by
  subst hK
  intro i H1 O1 k
  have h1 := (h.keep k).sq
  have r1 := RepDs.keep k ds xs r
  refine ⟨fun d hd => ?_, fun hl => ⟨xs, h1, by rw [r.length]; exact hl⟩⟩
  obtain ⟨x, hx, rx⟩ := r1.get hd
  refine ⟨⟨xs, x, h1, hx⟩, fun y H2 hy => ?_⟩
  obtain ⟨e, hy⟩ := hy
  subst e
  have : some y = some x := (hy xs h1).symm.trans hx
  cases this
  exact ⟨O1, Gr.refl _ _, rx⟩
theorem new_pair {H1 H2 : Hp} {O1 : AP} {T : Addr} {x y : V} {d e : D} (hT : H1 T = none) (eH : H2 = upd H1 T (.tup [x, y])) (rx : RepD C H1 O1 d x) (ry : RepD C H1 O1 e y) : ∃ O2, Gr H1 O1 H2 O2 [] ∧ RepD C H2 O2 (.tup [d, e]) (.ref T) := by
  subst eH
  exact ⟨_, Gr.new hT, (new_tup hT (.cons rx (.cons ry .nil))).2⟩
def enumD : Nat → List D → List D
  | _, [] => []
  | i, d :: ds => .tup [.int (i : Nat), d] :: enumD (i + 1) ds
theorem enumD_get : ∀ {k : Nat} {ds : List D} {i : Nat} {e : D}, (enumD k ds)[i]? = some e → ∃ d, ds[i]? = some d ∧ e = .tup [.int ((k + i : Nat) : Int), d]
  | k, [], i, e, h => by simp [enumD] at h
  | k, d :: ds, 0, e, h => by simp [enumD] at h; exact ⟨d, by simp, h.symm⟩
  | k, d :: ds, i + 1, e, h => by
    obtain ⟨d', h1, h2⟩ := enumD_get (k := k + 1) (ds := ds) (i := i) (e := e) (by simpa [enumD] using h)
    exact ⟨d', by simpa using h1, by rw [h2]; congr 3; omega⟩
theorem enumD_len : ∀ (k : Nat) (ds : List D), (enumD k ds).length = ds.length
  | _, [] => rfl
  | k, d :: ds => by simp [enumD, enumD_len]
theorem jr_enumL {K : PySem.W.Frag} (hK : C.K = K) {a : Addr} {xs : List V} {ds : List D} (h : Sc C H O a xs) (r : RepDs C H O ds xs) : JR C H O (Ite K a) (enumD 0 ds) := by
  subst hK
  intro i H1 O1 k
  have h1 := (h.keep k).sq
  have r1 := RepDs.keep k ds xs r
  refine ⟨fun e he => ?_, fun hl => ⟨xs, h1, by rw [r.length, ← enumD_len 0 ds]; exact hl⟩⟩
  obtain ⟨d, hd, e2⟩ := enumD_get he
  subst e2
  obtain ⟨x, hx, rx⟩ := r1.get hd
  refine ⟨⟨xs, x, h1, hx⟩, fun y H2 hy => ?_⟩
  obtain ⟨T, x', e, hT, eH, hy⟩ := hy
  subst e
  have : some x' = some x := (hy xs h1).symm.trans hx
  cases this
  rw [Nat.zero_add]
  exact new_pair hT eH (show RepD C H1 O1 (.int (i : Nat)) (.int (i : Nat)) from rfl) rx
theorem jr_enumT {K : PySem.W.Frag} (hK : C.K = K) {a : Addr} {xs : List V} {ds : List D} (h : Tp C H O a xs) (r : RepDs C H O ds xs) : JR C H O (IteT K a) (enumD 0 ds) := by
  subst hK
  intro i H1 O1 k
  have h1 := (h.keep k).sq
  have r1 := RepDs.keep k ds xs r
  refine ⟨fun e he => ?_, fun hl => ⟨xs, h1, by rw [r.length, ← enumD_len 0 ds]; exact hl⟩⟩
  obtain ⟨d, hd, e2⟩ := enumD_get he
  subst e2
  obtain ⟨x, hx, rx⟩ := r1.get hd
  refine ⟨⟨xs, x, h1, hx⟩, fun y H2 hy => ?_⟩
  obtain ⟨T, x', e, hT, eH, hy⟩ := hy
  subst e
  have : some x' = some x := (hy xs h1).symm.trans hx
  cases this
  rw [Nat.zero_add]
  exact new_pair hT eH (show RepD C H1 O1 (.int (i : Nat)) (.int (i : Nat)) from rfl) rx
def zipD (ds es : List D) : List D := List.zipWith (fun d e => .tup [d, e]) ds es
theorem zipD_get {ds es : List D} {i : Nat} {p : D} (h : (zipD ds es)[i]? = some p) : ∃ d e, ds[i]? = some d ∧ es[i]? = some e ∧ p = .tup [d, e] := by
  unfold zipD at h
  rw [List.getElem?_zipWith] at h
  cases hd : ds[i]? with
  | none => rw [hd] at h; simp at h
  | some d =>
    cases he : es[i]? with
    | none => rw [hd, he] at h; simp at h
    | some e => rw [hd, he] at h; simp at h; exact ⟨d, e, rfl, rfl, h.symm⟩
theorem jr_zipL {K : PySem.W.Frag} (hK : C.K = K) {a b : Addr} {xs ys : List V} {ds es : List D} (h : Sc C H O a xs) (r : RepDs C H O ds xs) (h' : Sc C H O b ys) (r' : RepDs C H O es ys) : JR C H O (Itz K a b) (zipD ds es) := by
  subst hK
  intro i H1 O1 k
  have h1 := (h.keep k).sq
  have r1 := RepDs.keep k ds xs r
  have h2 := (h'.keep k).sq
  have r2 := RepDs.keep k es ys r'
  refine ⟨fun p hp => ?_, fun hl => ⟨xs, ys, h1, h2, ?_⟩⟩
  · obtain ⟨d, e, hd, he, e2⟩ := zipD_get hp
    subst e2
    obtain ⟨x, hx, rx⟩ := r1.get hd
    obtain ⟨y, hy, ry⟩ := r2.get he
    refine ⟨⟨xs, ys, x, y, h1, h2, hx, hy⟩, fun v H2 hv => ?_⟩
    obtain ⟨T, x', y', e, hT, eH, hx', hy'⟩ := hv
    subst e
    have e1 : some x' = some x := (hx' xs h1).symm.trans hx
    have e2 : some y' = some y := (hy' ys h2).symm.trans hy
    cases e1; cases e2
    exact new_pair hT eH rx ry
  · have l1 := r.length
    have l2 := r'.length
    unfold zipD at hl
    rw [List.length_zipWith] at hl
    omega
theorem jr_zipT {K : PySem.W.Frag} (hK : C.K = K) {a b : Addr} {xs ys : List V} {ds es : List D} (h : Tp C H O a xs) (r : RepDs C H O ds xs) (h' : Tp C H O b ys) (r' : RepDs C H O es ys) : JR C H O (RZ.ItzT K a b) (zipD ds es) := by
  subst hK
  intro i H1 O1 k
  have h1 := (h.keep k).sq
  have r1 := RepDs.keep k ds xs r
  have h2 := (h'.keep k).sq
  have r2 := RepDs.keep k es ys r'
  refine ⟨fun p hp => ?_, fun hl => ⟨xs, ys, h1, h2, ?_⟩⟩
  · obtain ⟨d, e, hd, he, e2⟩ := zipD_get hp
    subst e2
    obtain ⟨x, hx, rx⟩ := r1.get hd
    obtain ⟨y, hy, ry⟩ := r2.get he
    refine ⟨⟨xs, ys, x, y, h1, h2, hx, hy⟩, fun v H2 hv => ?_⟩
    obtain ⟨T, x', y', e, hT, eH, hx', hy'⟩ := hv
    subst e
    have e1 : some x' = some x := (hx' xs h1).symm.trans hx
    have e2 : some y' = some y := (hy' ys h2).symm.trans hy
    cases e1; cases e2
    exact new_pair hT eH rx ry
  · have l1 := r.length
    have l2 := r'.length
    unfold zipD at hl
    rw [List.length_zipWith] at hl
    omega
def rangeD (lo : Int) (n : Nat) : List D := (List.range n).map fun i => .int (lo + (i : Nat))
theorem rangeD_len (lo : Int) (n : Nat) : (rangeD lo n).length = n := by unfold rangeD; rw [List.length_map, List.length_range]
theorem jr_range {lo : Int} {n : Nat} : JR C H O (Itr lo n) (rangeD lo n) := by
  intro i H1 O1 k
  refine ⟨fun d hd => ?_, fun hl => by rw [rangeD_len] at hl; exact hl⟩
  unfold rangeD at hd
  rw [List.getElem?_map] at hd
  cases hr : (List.range n)[i]? with
  | none => rw [hr] at hd; cases hd
  | some j =>
    rw [hr] at hd
    have hj : j = i ∧ i < n := by
      obtain ⟨h1, h2⟩ := List.getElem?_eq_some_iff.mp hr
      rw [List.getElem_range] at h2
      exact ⟨h2.symm, by simpa using h1⟩
    obtain ⟨rfl, hn⟩ := hj
    cases hd
    refine ⟨hn, fun x H2 hy => ?_⟩
    obtain ⟨e, ex⟩ := hy
    subst e; subst ex
    exact ⟨O1, Gr.refl _ _, rfl⟩
theorem src_rep {w : W} {x : V} {Lw : List Addr} {ds : List D} (r : RepW C H O w x Lw) (e : srcV w = some ds) : ∃ a xs, x = .ref a ∧ RepDs C H (Less O Lw) ds xs ∧ (isT w = true → Tp C H (Less O Lw) a xs) ∧ (isT w = false → Sc C H (Less O Lw) a xs) := by
  cases w with
  | lst ws =>
    cases e
    obtain ⟨a, xs, L', e1, h1, h2, h3, rs⟩ := r
    subst h3
    exact ⟨a, xs, e1, RepWs.frz ws xs L' (fun b q => ⟨q.1, fun z => q.2 (by simp [z])⟩) rs, fun z => (by cases z), fun _ => .inl ⟨.inl h1, fun q => q.2 (by simp)⟩⟩
  | ob _ _ => cases e
  | di _ => cases e
  | fz d =>
    obtain ⟨eL, rd⟩ := r
    subst eL
    have rd' : RepD C H (Less O []) d x := RepD.keep (fun a o e n => ⟨e, fun q => n q.1⟩) d x rd
    cases d with
    | lst es =>
      cases e
      obtain ⟨a, xs, e1, h1, n, rs⟩ := rd'
      exact ⟨a, xs, e1, rs, fun z => (by cases z), fun _ => .inl ⟨.inl h1, n⟩⟩
    | tup es =>
      cases e
      obtain ⟨a, xs, e1, h1, rs⟩ := rd'
      exact ⟨a, xs, e1, rs, fun _ => h1, fun z => (by cases z)⟩
    | scr es =>
      cases e
      obtain ⟨a, xs, e1, h1, rs⟩ := rd'
      exact ⟨a, xs, e1, rs, fun z => (by cases z), fun _ => h1⟩
    | _ => cases e
end
section
variable {X : Cx} {cl : Nat → Addr} {tg e e2 : Expr} {ca cb : CE} {qa qb : Bool} {p pos : Pos}
theorem si_seq (he : SE X cl qa e ca) : SI X cl tg e (iSeq ca) := by
  refine PI.imp (PI.or (pi_list he) (pi_tup he)) fun σ H R h => ?_
  obtain ⟨O, L, ρ, ds, ρ', env, nd, c, q⟩ := h
  obtain ⟨⟨b, ρ1⟩, c1, c⟩ := Res.of_bind c
  obtain ⟨⟨w, ρ2⟩, c2, c⟩ := Res.of_bind c
  obtain ⟨ds', c3, c⟩ := Res.of_bind c
  cases c
  have common : ∀ (v : V) (H1 : Hp) (O1 : AP) (L1 Lb : List Addr), PostE ⟨X.K, cl⟩ σ H O L ρ qa b ρ1 v H1 O1 L1 Lb → ∃ O2 L2 Lw, EnvR ⟨X.K, cl⟩ H1 (Less O2 Lw) ρ' σ L2 ∧ L2.Nodup ∧ Stp H O L H1 (Less O2 Lw) L2 ∧ RepW ⟨X.K, cl⟩ H1 O2 w v Lw := fun v H1 O1 L1 Lb P => by
    obtain ⟨O2, L2, Lw, g1, g2, g3, g4, g5, g6⟩ := take_rep P.br P.env P.nd c2
    have nn := List.nodup_append.mp g3
    exact ⟨O2, L2, Lw, g1.less (fun a ha z => nn.2.2 a ha a z rfl), nn.1, (P.st.trans (Stp.ofO g4 g5 g6)).drop, g2⟩
  cases ht : isT w with
  | false =>
    refine .inl ⟨O, L, ρ, b, ρ1, env, nd, c1, fun v H1 O1 L1 Lb P => ?_⟩
    obtain ⟨O2, L2, Lw, e1, n1, s1, r1⟩ := common v H1 O1 L1 Lb P
    obtain ⟨a, xs, ea, rs, _, hs⟩ := src_rep r1 (Res.of_ok c3)
    have sc := hs ht
    exact ⟨a, ea, ⟨xs, sc.sq⟩, q _ H1 _ L2 e1 n1 s1 (jr_list rfl sc rs)⟩
  | true =>
    refine .inr ⟨O, L, ρ, b, ρ1, env, nd, c1, fun v H1 O1 L1 Lb P => ?_⟩
    obtain ⟨O2, L2, Lw, e1, n1, s1, r1⟩ := common v H1 O1 L1 Lb P
    obtain ⟨a, xs, ea, rs, hs, _⟩ := src_rep r1 (Res.of_ok c3)
    have sc := hs ht
    exact ⟨a, ea, ⟨xs, sc.sq⟩, q _ H1 _ L2 e1 n1 s1 (jr_tup rfl sc rs)⟩
def iEnumM (c : CE) : CI := fun ρ => (c ρ).bind fun (b, ρ1) => (take b ρ1).bind fun (w, ρ2) => (Res.of (srcV w)).bind fun ds => .ok (enumD 0 ds, ρ2)
theorem si_enum {elts : List Expr} {kk : Nat} {tpos : Pos} (hg : Gl X "enumerate") (hm : X.mg "enumerate" = none) (he : SE X cl qa e ca) (hs : starEach [e] X.env = [(false, eval e X.env)] := by rfl) :
    SI X cl (.Tuple elts kk tpos) (.Call (.Name "enumerate" p) [e] [] pos) (iEnumM ca) := by
  have pa : PA X [e] (tCons (tE ⟨X.K, cl⟩ qa ca) tNil) := pa_cons he pa_nil hs
  refine PI.imp (PI.or (pi_enum hg hm pa hs) (pi_enumT hg hm pa hs)) fun σ H R h => ?_
  obtain ⟨O, L, ρ, ds, ρ', env, nd, c, q⟩ := h
  obtain ⟨⟨b, ρ1⟩, c1, c⟩ := Res.of_bind c
  obtain ⟨⟨w, ρ2⟩, c2, c⟩ := Res.of_bind c
  obtain ⟨ds', c3, c⟩ := Res.of_bind c
  cases c
  have common : ∀ (v : V) (H1 : Hp) (O1 : AP) (L1 Lb : List Addr), PostE ⟨X.K, cl⟩ σ H O L ρ qa b ρ1 v H1 O1 L1 Lb → ∃ O2 L2 Lw, EnvR ⟨X.K, cl⟩ H1 (Less O2 Lw) ρ' σ L2 ∧ L2.Nodup ∧ Stp H O L H1 (Less O2 Lw) L2 ∧ RepW ⟨X.K, cl⟩ H1 O2 w v Lw := fun v H1 O1 L1 Lb P => by
    obtain ⟨O2, L2, Lw, g1, g2, g3, g4, g5, g6⟩ := take_rep P.br P.env P.nd c2
    have nn := List.nodup_append.mp g3
    exact ⟨O2, L2, Lw, g1.less (fun a ha z => nn.2.2 a ha a z rfl), nn.1, (P.st.trans (Stp.ofO g4 g5 g6)).drop, g2⟩
  cases ht : isT w with
  | false =>
    refine .inl ⟨O, L, ρ, b, ρ1, env, nd, c1, fun v H1 O1 L1 Lb P => ?_⟩
    obtain ⟨O2, L2, Lw, e1, n1, s1, r1⟩ := common v H1 O1 L1 Lb P
    obtain ⟨a, xs, ea, rs, _, hs⟩ := src_rep r1 (Res.of_ok c3)
    have sc := hs ht
    subst ea
    exact ⟨a, xs, rfl, sc.sq, q _ H1 _ L2 e1 n1 s1 (jr_enumL rfl sc rs)⟩
  | true =>
    refine .inr ⟨O, L, ρ, b, ρ1, env, nd, c1, fun v H1 O1 L1 Lb P => ?_⟩
    obtain ⟨O2, L2, Lw, e1, n1, s1, r1⟩ := common v H1 O1 L1 Lb P
    obtain ⟨a, xs, ea, rs, hs, _⟩ := src_rep r1 (Res.of_ok c3)
    have sc := hs ht
    subst ea
    exact ⟨a, xs, rfl, sc.sq, q _ H1 _ L2 e1 n1 s1 (jr_enumT rfl sc rs)⟩
def iRange1 (c : CE) : CI := fun ρ => (c ρ).bind fun (b, ρ1) => (intOf b).bind fun j => (chk (decide (-(2 ^ 62) ≤ j ∧ j < 2 ^ 62))).bind fun _ => .ok (rangeD 0 j.toNat, ρ1)
theorem PostE.ofInt {C : Cfg} {σ : Sg} {H H1 : Hp} {O O1 : AP} {L L1 Lb : List Addr} {ρ ρ1 : En} {k : Int} {v : V} (P : PostE C σ H O L ρ qa (.tmp (.fz (.int k))) ρ1 v H1 O1 L1 Lb) : v = .int k ∧ PostT C σ H O L ρ qa ρ1 H1 O1 L1 := by
  obtain ⟨e1, e2⟩ := P.br
  subst e1
  have nd' := P.nd
  have st' := P.st
  rw [List.append_nil] at nd' st'
  exact ⟨e2, P.env, nd', st', P.qu⟩
theorem si_range1 (hg : Gl X "range") (hm : X.mg "range" = none) (he : SE X cl qa e ca) (hs : starEach [e] X.env = [(false, eval e X.env)] := by rfl) : SI X cl tg (.Call (.Name "range" p) [e] [] pos) (iRange1 ca) := by
  refine PI.imp (pi_range1 hg hm (pa_cons he pa_nil hs) hs) fun σ H R h => ?_
  obtain ⟨O, L, ρ, ds, ρ', env, nd, c, q⟩ := h
  obtain ⟨⟨b, ρ1⟩, c1, c⟩ := Res.of_bind c
  obtain ⟨j, c2, c⟩ := Res.of_bind c
  obtain ⟨_, c3, c⟩ := Res.of_bind c
  cases c
  have eb := intOf_ok c2
  subst eb
  refine ⟨O, L, ρ, _, ρ', env, nd, c1, fun v H1 O1 L1 Lb P => ?_⟩
  obtain ⟨e1, P'⟩ := P.ofInt
  have hj := chk_dec c3
  subst e1
  exact ⟨j, rfl, hj.1, hj.2, q _ H1 O1 L1 P'.env P'.nd P'.st jr_range⟩
def iRange2 (ca cb : CE) : CI := fun ρ => (ca ρ).bind fun (a, ρ1) => (intOf a).bind fun i => (cb ρ1).bind fun (b, ρ2) => (intOf b).bind fun j => (chk (decide (-(2 ^ 62) ≤ i ∧ i < 2 ^ 62 ∧ -(2 ^ 62) ≤ j ∧ j < 2 ^ 62))).bind fun _ => .ok (rangeD i (j - i).toNat, ρ2)
end
def iZipM (cb : CBs) : CI := fun ρ => (cb ρ).bind fun (bs, ρ1) => (chk (bs.all flatB)).bind fun _ => (takes bs ρ1).bind fun (ws, ρ2) => match ws with
  | [a, b] => (chk (isT a == isT b)).bind fun _ => (Res.of (srcV a)).bind fun ds => (Res.of (srcV b)).bind fun es => .ok (zipD ds es, ρ2)
  | _ => .err
section
variable {X : Cx} {cl : Nat → Addr} {e e2 : Expr} {cb : CBs} {qb : Bool} {p pos tpos : Pos} {elts : List Expr} {kk : Nat}
theorem Sc.less {C : Cfg} {H : Hp} {O O' : AP} {a : Addr} {xs : List V} (h : Sc C H O a xs) (k : ∀ a, O' a → O a) : Sc C H O' a xs := h.keep fun a o e n => ⟨e, fun q => n (k a q)⟩
theorem si_zip (hg : Gl X "zip") (hm : X.mg "zip" = none) (hb : SB X cl qb [e, e2] cb) (hs : starEach [e, e2] X.env = (false, eval e X.env) :: starEach [e2] X.env := by rfl) (hpl : (backTo pos (starEach [e2] X.env)).any (·.1) = false := by rfl) :
    SI X cl (.Tuple elts kk tpos) (.Call (.Name "zip" p) [e, e2] [] pos) (iZipM cb) := by
  refine PI.imp (RZ.pi_zipA hg hm hb hs hpl) fun σ H R h => ?_
  obtain ⟨O, L, ρ, ds, ρ', env, nd, c, q⟩ := h
  obtain ⟨⟨bs, ρ1⟩, c1, c⟩ := Res.of_bind c
  obtain ⟨_, c2, c⟩ := Res.of_bind c
  obtain ⟨⟨ws, ρ2⟩, c3, c⟩ := Res.of_bind c
  dsimp only at c
  split at c
  · rename_i a b
    obtain ⟨_, c4, c⟩ := Res.of_bind c
    obtain ⟨es1, c5, c⟩ := Res.of_bind c
    obtain ⟨es2, c6, c⟩ := Res.of_bind c
    cases c
    refine ⟨O, L, ρ, bs, ρ1, env, nd, c1, fun vs H1 O1 L1 Lb P => ?_⟩
    obtain ⟨O2, L2, Lw, g1, g2, g3, g4, g5, g6, _⟩ := takes_rep P.br P.env P.nd (chk_ok c2) c3
    obtain ⟨v1, r1, M1, M2, e1, e3, w1, v2, r2, M3, M4, e4, e5, w2, e6, e7⟩ := g2
    subst e1; subst e4; subst e6; subst e5; subst e7
    subst e3
    have nn := List.nodup_append.mp g3
    have env2 := g1.less (T := M1 ++ (M3 ++ [])) (fun a ha z => nn.2.2 a ha a z rfl)
    have s2 : Stp H O L H1 (Less O2 (M1 ++ (M3 ++ []))) L2 := (P.st.trans (Stp.ofO g4 g5 g6)).drop
    obtain ⟨a1, xs1, ea1, rs1, ht1, hl1⟩ := src_rep w1 (Res.of_ok c5)
    obtain ⟨a2, xs2, ea2, rs2, ht2, hl2⟩ := src_rep w2 (Res.of_ok c6)
    subst ea1; subst ea2
    have k1 : ∀ z, Less O2 (M1 ++ (M3 ++ [])) z → Less O2 M1 z := fun z hz => ⟨hz.1, fun t => hz.2 (by simp [t])⟩
    have k2 : ∀ z, Less O2 (M1 ++ (M3 ++ [])) z → Less O2 M3 z := fun z hz => ⟨hz.1, fun t => hz.2 (by simp [t])⟩
    have rs1' := RepDs.keep (H' := H1) (O' := Less O2 (M1 ++ (M3 ++ []))) (fun z o e n => ⟨e, fun q => n (k1 z q)⟩) _ _ rs1
    have rs2' := RepDs.keep (H' := H1) (O' := Less O2 (M1 ++ (M3 ++ []))) (fun z o e n => ⟨e, fun q => n (k2 z q)⟩) _ _ rs2
    have heq : isT a = isT b := by simpa using chk_ok c4
    refine ⟨a1, a2, xs1, xs2, rfl, ?_⟩
    cases ht : isT a with
    | false =>
      have sc1 := (hl1 ht).less k1
      have sc2 := (hl2 (heq ▸ ht)).less k2
      exact .inl ⟨sc1.sq, sc2.sq, q _ H1 _ L2 env2 nn.1 s2 (jr_zipL rfl sc1 rs1' sc2 rs2')⟩
    | true =>
      have sc1 := (ht1 ht).keep (H' := H1) (O' := Less O2 (M1 ++ (M3 ++ []))) fun z o e n => ⟨e, fun q => n (k1 z q)⟩
      have sc2 := (ht2 (heq ▸ ht)).keep (H' := H1) (O' := Less O2 (M1 ++ (M3 ++ []))) fun z o e n => ⟨e, fun q => n (k2 z q)⟩
      exact .inr ⟨sc1.sq, sc2.sq, q _ H1 _ L2 env2 nn.1 s2 (jr_zipT rfl sc1 rs1' sc2 rs2')⟩
  · cases c
end
end Mi
namespace Mi
open PySem PySem.Spec PyProof.Rows L2
theorem PK.imp {X : Cx} {e : List Keyword} {t t' : TA} (h : PK X e t) (k : ∀ σ H Q, t' σ H Q → t σ H Q) : PK X e t' := ⟨fun pos pins s σ H Q I q => h.run pos pins s σ H Q I (k σ H Q q)⟩
def SK (X : Cx) (cl : Nat → Addr) (qt : Bool) (es : List Keyword) (c : CBs) : Prop := PK X es (tB ⟨X.K, cl⟩ qt c)
def pick {α : Type} (ix : List Nat) (l : List α) : List α := ix.filterMap fun i => l[i]?
theorem RepWs.get0 {C : Cfg} {H : Hp} {O : AP} : ∀ {ws : List W} {vs : List V} {i : Nat}, RepWs C H O ws vs [] → (∀ w, ws[i]? = some w → ∃ v, vs[i]? = some v ∧ RepW C H O w v []) ∧ (ws[i]? = none → vs[i]? = none)
  | [], vs, i, h => by rw [h.1]; exact ⟨fun w h => by simp at h, fun _ => by simp⟩
  | w :: ws, vs, i, h => by
    obtain ⟨v, r, L1, L2, e, e2, h1, h2⟩ := h
    obtain ⟨z1, z2⟩ := List.append_eq_nil_iff.mp e2.symm
    subst z1; subst z2; subst e
    cases i with
    | zero => exact ⟨fun w' h => by simp at h; subst h; exact ⟨v, by simp, h1⟩, fun h => by simp at h⟩
    | succ i =>
      obtain ⟨g1, g2⟩ := RepWs.get0 (i := i) h2
      exact ⟨fun w' h => by obtain ⟨v', q1, q2⟩ := g1 w' (by simpa using h); exact ⟨v', by simpa using q1, q2⟩, fun h => by simpa using g2 (by simpa using h)⟩
theorem pick_rep {C : Cfg} {H : Hp} {O : AP} {ws : List W} {vs : List V} (r : RepWs C H O ws vs []) : ∀ ix : List Nat, RepWs C H O (pick ix ws) (pick ix vs) []
  | [] => ⟨rfl, rfl⟩
  | i :: ix => by
    unfold pick
    rw [List.filterMap_cons, List.filterMap_cons]
    obtain ⟨g1, g2⟩ := RepWs.get0 (i := i) r
    cases h : ws[i]? with
    | none =>
      rw [g2 h]
      exact pick_rep r ix
    | some w =>
      obtain ⟨v, hv, rv⟩ := g1 w h
      rw [hv]
      exact ⟨v, _, [], [], rfl, rfl, rv, pick_rep r ix⟩
structure FnK (X : Cx) (cl : Nat → Addr) (x : Str) (ks : List Str) (ix : List Nat) (F : Fn) : Prop where
  ex : ∃ (k : Nat) (f : Addr) (fd : FuncData) (ps : List Str), FnOk X.prog X.w X.K X.mg X.base CX0 k f fd ps (spM ⟨X.K, cl⟩ F) ∧ Room k X.A ∧ X.mg x = some (.ref f) ∧ PySem.W.keepIn X.K (.ref f) = true ∧ KBn X.K fd ps 0 ks (fun _ ws => pick ix ws) (fun _ zs => pick ix zs)
def cCallKV (F : Fn) (ix : List Nat) (n : Nat) (cb : CBs) : CE := fun ρ => (cb ρ).bind fun (bs, ρ1) => (chk (bs.length == n)).bind fun _ => (conts bs ρ1).bind fun ws => (F (pick ix (ws.map fun w => .fz (frz w)))).bind fun (r, _) => (chk (scal r)).bind fun _ => .ok (.tmp r, ρ1)
def cCallKP (qd : Bool) (F : Fn) (ix : List Nat) (n : Nat) (cb : CBs) : CE := fun ρ => (cb ρ).bind fun (bs, ρ1) => (chk (bs.length == n)).bind fun _ => (chk (shut qd bs)).bind fun _ => (takes bs ρ1).bind fun (ws, ρ2) => (F (pick ix (ws.map fun w => .fz (frz w)))).bind fun (r, _) => .ok (.tmp r, ρ2)
def tCallK0 (m : Nat) (sp : Sp) (ix : List Nat) (E : XK) (tk : TA) : TE := fun σ H Q => tk σ H fun zs H2 => zs.length = m ∧ sp (pick ix zs) H2 Q E
theorem BRs.length {C : Cfg} {H : Hp} {O : AP} {ρ : En} {σ : Sg} : ∀ {bs : List B} {vs : List V} {L : List Addr}, BRs C H O ρ σ bs vs L → vs.length = bs.length
  | [], _, _, h => by rw [h.1]; rfl
  | b :: bs, vs, L, h => by
    obtain ⟨v, r, _, _, e, _, _, h2⟩ := h
    rw [e, List.length_cons, List.length_cons, BRs.length h2]
theorem callKV_core {C : Cfg} {F : Fn} {ix : List Nat} {n : Nat} {cb : CBs} {qb : Bool} {E : XK} {σ : Sg} {H : Hp} {Q : VK} (h : tE C qb (cCallKV F ix n cb) σ H Q) : tCallK0 n (spM C F) ix E (tB C qb cb) σ H Q := by
  obtain ⟨O, L, ρ, b0, ρ', env, nd, c, q⟩ := h
  obtain ⟨⟨bs, ρ1⟩, c1, c⟩ := Res.of_bind c
  obtain ⟨_, c0, c⟩ := Res.of_bind c
  obtain ⟨ws, c2, c⟩ := Res.of_bind c
  obtain ⟨⟨r, bk⟩, c3, c⟩ := Res.of_bind c
  obtain ⟨_, c4, c⟩ := Res.of_bind c
  cases c
  refine ⟨O, L, ρ, bs, ρ', env, nd, c1, fun vs H1 O1 L1 Lb P => ?_⟩
  refine ⟨P.br.length.trans (by simpa using chk_ok c0), ?_⟩
  have ndd := List.nodup_append.mp P.nd
  have d : ∀ z ∈ L1, z ∉ Lb := fun z hz q => ndd.2.2 z hz z q rfl
  have own1 : ∀ a ∈ L1, O1 a := fun a ha => (P.env.own a ha).1
  refine ⟨Less O1 (L1 ++ Lb), [], _, r, bk, pick_rep (conts_frz P.env ndd.1 P.br (fun a ha => ha) d c2) ix, List.nodup_nil, c3, fun v H' O' L' Lr rr rb ndr st => ?_⟩
  obtain ⟨eL, rr'⟩ := scal_rep (H' := H') (O' := fun a => O' a ∨ a ∈ L1) (chk_ok c4) rr
  subst eL
  have kL : KeepL H1 O1 H' (fun a => O' a ∨ a ∈ L1) L1 := by
    refine ⟨fun a o e n => ⟨st.fr a o e (by simp), fun z => ?_⟩, fun a ha o e => ⟨st.fr a o e (by simp), .inr ha⟩⟩
    rcases z with z | z
    · rcases st.nw a z with z | z
      · exact n z.1
      · rw [e] at z; cases z
    · exact n (own1 a z)
  refine q v H' (fun a => O' a ∨ a ∈ L1) L1 [] ⟨EnvR.keep kL P.env, rr', by rw [List.append_nil]; exact ndd.1, ?_, fun hq => ⟨(P.qu hq).1, fun a o e => st.fr a o ((P.qu hq).2 a o e) (by simp)⟩⟩
  rw [List.append_nil]
  refine P.st.trans ⟨fun a o e _ => st.fr a o e (by simp), fun a z => ?_, fun a o e z n => .inl (st.ol a o e ⟨z, n⟩ (by simp)), fun a ha => .inl (by simp [ha]), st.dm⟩
  rcases z with z | z
  · rcases st.nw a z with z | z
    · exact .inl z.1
    · exact .inr z
  · exact .inl (own1 a z)
theorem callKP_core {C : Cfg} {F : Fn} {ix : List Nat} {n : Nat} {cb : CBs} {qb qd : Bool} {E : XK} {σ : Sg} {H : Hp} {Q : VK} (h : tE C (qb && qd) (cCallKP qd F ix n cb) σ H Q) : tCallK0 n (spM C F) ix E (tB C qb cb) σ H Q := by
  obtain ⟨O, L, ρ, b0, ρ', env, nd, c, q⟩ := h
  obtain ⟨⟨bs, ρ1⟩, c1, c⟩ := Res.of_bind c
  obtain ⟨_, c0, c⟩ := Res.of_bind c
  obtain ⟨_, cs, c⟩ := Res.of_bind c
  obtain ⟨hf, ht⟩ := shut_ok (chk_ok cs)
  obtain ⟨⟨ws, ρ2⟩, c2, c⟩ := Res.of_bind c
  obtain ⟨⟨r, bk⟩, c3, c⟩ := Res.of_bind c
  cases c
  refine ⟨O, L, ρ, bs, ρ1, env, nd, c1, fun vs H1 O1 L1 Lb P => ?_⟩
  refine ⟨P.br.length.trans (by simpa using chk_ok c0), ?_⟩
  obtain ⟨O2, L2, Lw, g1, g2, g3, g4, g5, g6, g7⟩ := takes_rep P.br P.env P.nd hf c2
  have rd : RepDs C H1 (Less O2 Lw) (frzs ws) vs := RepWs.frz ws vs Lw (fun a q => q) g2
  have rs : RepWs C H1 (Less O2 Lw) (ws.map fun w => .fz (frz w)) vs [] := by
    have := RepWs.ofD rd
    rw [frzs_map, List.map_map] at this
    exact this
  have ndw := List.nodup_append.mp g3
  have d2 : ∀ a ∈ L2, a ∉ Lw := fun a ha z => ndw.2.2 a ha a z rfl
  have e2 := g1.less d2
  refine ⟨Less O2 Lw, [], _, r, bk, pick_rep rs ix, List.nodup_nil, c3, fun v H' O' L' Lr rr rb ndr st => ?_⟩
  have own2 : ∀ a ∈ L2, Less O2 Lw a := fun a ha => (e2.own a ha).1
  have kL : KeepL H1 (Less O2 Lw) H' O' L2 := st.keepL (by simp) own2 (by simp)
  have nr : (L2 ++ Lr).Nodup := by
    refine List.nodup_append.mpr ⟨ndw.1, (List.nodup_append.mp ndr).2.1, fun a ha b hb e => ?_⟩
    subst e
    rcases st.ll a (by simp [hb]) with z | z
    · simp at z
    · obtain ⟨_, xs, e⟩ := g1.own a ha; rw [z] at e; cases e
  refine q v H' O' L2 Lr ⟨EnvR.keep kL e2, rr, nr, ?_, fun hq => ?_⟩
  · have s1 : Stp H O L H1 (Less O2 Lw) L2 := (P.st.trans (Stp.ofO g4 g5 g6)).drop
    refine s1.trans ⟨fun a o e _ => st.fr a o e (by simp), st.nw, fun a o e z _ => st.ol a o e z (by simp), fun a ha => ?_, st.dm⟩
    rcases List.mem_append.mp ha with ha | ha
    · exact .inl ha
    · rcases st.ll a (by simp [ha]) with z | z
      · simp at z
      · exact .inr z
  · have hq' : qb = true ∧ qd = true := by simpa using hq
    exact ⟨(g7 (ht hq'.2)).trans (P.qu hq'.1).1, fun a o e => st.fr a o ((P.qu hq'.1).2 a o e) (by simp)⟩
section
variable {X : Cx} {cl : Nat → Addr} {x : Str} {ks : List Str} {ix : List Nat} {F : Fn} {p pos kpos : Pos} {e : Expr} {kws : List Keyword} {ca : CE} {cb : CBs} {qa qb qd : Bool} {nm : Option Str}
theorem sk_nil : SK X cl true [] cNil := by
  refine PK.imp pk_nil fun σ H Q h => ?_
  obtain ⟨O, L, ρ, bs, ρ', env, nd, c, q⟩ := h
  cases c
  exact q [] H O L [] ⟨env, ⟨rfl, rfl⟩, by rw [List.append_nil]; exact nd, by rw [List.append_nil]; exact Stp.refl _ _ _, fun _ => ⟨rfl, fun _ _ e => e⟩⟩
theorem sk_cons (ha : SE X cl qa e ca) (hb : SK X cl qb kws cb) : SK X cl (qa && qb) (⟨nm, e, kpos⟩ :: kws) (cCons qb ca cb) := PK.imp (pk_cons ha hb) fun σ H Q h => cons_core h
theorem pe_callK0 {CX : CXT} {k : Nat} {f : Addr} {fd : FuncData} {ps : List Str} {sp : Sp} {E : XK} {tk : TA} (G : FnOk X.prog X.w X.K X.mg X.base CX k f fd ps sp) (hr : Room k X.A) (hg : Gl X x) (hm : X.mg x = some (.ref f)) (hk : PySem.W.keepIn X.K (.ref f) = true)
    (hb : KBn X.K fd ps 0 ks (fun _ ws => pick ix ws) (fun _ zs => pick ix zs)) (hx : Passes CX X E) (hkw : PK X kws tk)
    (hall : (backToKw pos (keywordEach kws X.env)).all (·.1.isSome) = true := by rfl) (hks : (backToKw pos (keywordEach kws X.env)).filterMap (·.1) = ks := by rfl) (hdb : (x == ("__debug__" : Str)) = false := by decide)
    (hpl : ((backTo pos (starEach [] X.env)).any (·.1) || (backToKw pos (keywordEach kws X.env)).any (·.1.isNone)) = false := by rfl) :
    PE X (.Call (.Name x p) [] kws pos) (tCallK0 ks.length sp ix E tk) := by
  refine ⟨fun pins s σ H Q I h => ?_⟩
  refine wpAny_Call_Name_kw (ld_glob I hg hm ?_ hdb)
  refine PySem.W.callWith_KW0 (h₀ := X.base) I.ok.mod.kin hk hall ?_ hpl
  refine thn (hkw.run pos pins s σ H _ I h) fun ws s2 ⟨zs, H2, I2, rz, l2, q2⟩ => ⟨I2.kIn, ?_⟩
  rw [hks]
  exact run_fnN (us := []) (vs := []) G hr hb hx I2 .nil rz rfl l2 q2
theorem se_callKV (hf : FnK X cl x ks ix F) (hg : Gl X x) (hkw : SK X cl qb kws cb) (hall : (backToKw pos (keywordEach kws X.env)).all (·.1.isSome) = true := by rfl) (hks : (backToKw pos (keywordEach kws X.env)).filterMap (·.1) = ks := by rfl) (hdb : (x == ("__debug__" : Str)) = false := by decide)
    (hpl : ((backTo pos (starEach [] X.env)).any (·.1) || (backToKw pos (keywordEach kws X.env)).any (·.1.isNone)) = false := by rfl) : SE X cl qb (.Call (.Name x p) [] kws pos) (cCallKV F ix ks.length cb) := by
  obtain ⟨k, f, fd, ps, G, hr, hm, hk, hbd⟩ := hf.ex
  exact PE.imp (pe_callK0 G hr hg hm hk hbd pass0 hkw hall hks hdb hpl) fun σ H Q h => callKV_core h
theorem se_callKP (hf : FnK X cl x ks ix F) (hg : Gl X x) (hkw : SK X cl qb kws cb) (hall : (backToKw pos (keywordEach kws X.env)).all (·.1.isSome) = true := by rfl) (hks : (backToKw pos (keywordEach kws X.env)).filterMap (·.1) = ks := by rfl) (hdb : (x == ("__debug__" : Str)) = false := by decide)
    (hpl : ((backTo pos (starEach [] X.env)).any (·.1) || (backToKw pos (keywordEach kws X.env)).any (·.1.isNone)) = false := by rfl) : SE X cl (qb && qd) (.Call (.Name x p) [] kws pos) (cCallKP qd F ix ks.length cb) := by
  obtain ⟨k, f, fd, ps, G, hr, hm, hk, hbd⟩ := hf.ex
  exact PE.imp (pe_callK0 G hr hg hm hk hbd pass0 hkw hall hks hdb hpl) fun σ H Q h => callKP_core h
end
instance {a b : Int} : Decidable (RgOk a b) := inferInstanceAs (Decidable (_ ∧ _))
def cRgTup (c : CE) : CE := fun ρ => (c ρ).bind fun (b, ρ1) => (intOf b).bind fun j => (chk (decide (RgOk 0 j))).bind fun _ => .ok (.tmp (.fz (.tup (rangeD 0 (j - 0).toNat))), ρ1)
def cRgLst (c : CE) : CE := fun ρ => (c ρ).bind fun (b, ρ1) => (intOf b).bind fun j => (chk (decide (RgOk 0 j))).bind fun _ => .ok (.tmp (.lst ((rangeD 0 (j - 0).toNat).map W.fz)), ρ1)
section
variable {X : Cx} {cl : Nat → Addr} {e : Expr} {ca : CE} {qa : Bool} {p p2 pos pos2 : Pos}
theorem PostT.grow {C : Cfg} {σ : Sg} {H H1 H' : Hp} {O O1 O' : AP} {L L1 Lw : List Addr} {ρ ρ1 : En} {w : W} {v : V} (P : PostT C σ H O L ρ qa ρ1 H1 O1 L1) (g : Gr H1 O1 H' O' Lw) (r : RepW C H' O' w v Lw) : PostE C σ H O L ρ qa (.tmp w) ρ1 v H' O' L1 Lw := by
  refine ⟨P.env.grow g, r, ?_, P.st.trans g.stp, fun q => ⟨(P.qu q).1, fun a o e => g.ex a o ((P.qu q).2 a o e)⟩⟩
  refine List.nodup_append.mpr ⟨P.nd, g.nd, fun a ha b hb e => ?_⟩
  subst e
  obtain ⟨_, xs, e⟩ := P.env.own a ha
  rw [g.nw a hb] at e; cases e
end
end Mi
namespace Mi
open PySem PySem.Spec PyProof.Rows L2
structure Blt (mg : Str → Option Value) : Prop where
  len : mg "len" = none
  abs : mg "abs" = none
  max : mg "max" = none
  min : mg "min" = none
  int : mg "int" = none
  str : mg "str" = none
  bool : mg "bool" = none
  sum : mg "sum" = none
  all : mg "all" = none
  any : mg "any" = none
  tuple : mg "tuple" = none
  list : mg "list" = none
  isinstance : mg "isinstance" = none
  range : mg "range" = none
  enumerate : mg "enumerate" = none
  zip : mg "zip" = none
  sorted : mg "sorted" = none
  reversed : mg "reversed" = none
  set : mg "set" = none
theorem FnM.blk {X : Cx} {cl : Nat → Addr} {x : Str} {F : Fn} (h : FnM X cl x F) {s : Shared} {H : Hp} {scope : Scope} {env : Env} {fp : List Addr} : FnM (X.blk s H scope env fp) cl x F := ⟨h.ex⟩
theorem FnK.blk {X : Cx} {cl : Nat → Addr} {x : Str} {ks : List Str} {ix : List Nat} {F : Fn} (h : FnK X cl x ks ix F) {s : Shared} {H : Hp} {scope : Scope} {env : Env} {fp : List Addr} : FnK (X.blk s H scope env fp) cl x ks ix F := ⟨h.ex⟩
abbrev BX (P : Program) (w : World) (K : PySem.W.Frag) (mg : Str → Option Value) (base : Heap) (N : List Str) (q : Str) (sc : Scope) (f : Addr) (cdv : Value) (A : Around) (outer : List Env) (s : Shared) (H : Hp) (E : XK) : Cx := (cxOf CX0 P w K mg base N q sc f cdv A outer s H E).nox
section
variable {X : Cx} {cl : Nat → Addr} {a b c e : Expr} {es : List Expr} {ca cb : CE} {cbs : CBs} {qa qb : Bool} {pos p p2 p3 p4 : Pos}
theorem dv (i : Nat) {x : Str} (hN : X.N[i]? = some x := by rfl) (hv : Vis X.env.scope x := by first | exact Or.inl rfl | exact Or.inr (Or.inl rfl) | exact Or.inr (Or.inr rfl)) (hd : (x == ("__debug__" : Str)) = false := by decide)
    (hcd : (x == ("__classdict__" : Str)) = false := by decide) : SE X cl true (.Name x pos) (cVar i) := se_var hN hv hd hcd
theorem dAdd (ha : SE X cl qa a ca) (hb : SE X cl qb b cb) : SE X cl (qa && qb) (.BinOp a .Add b pos) (cBin fAdd qb ca cb) := se_bin opr_add ops_add ha hb
theorem dSub (ha : SE X cl qa a ca) (hb : SE X cl qb b cb) : SE X cl (qa && qb) (.BinOp a .Sub b pos) (cBin fSub qb ca cb) := se_bin op_sub ops_sub ha hb
theorem dMul (ha : SE X cl qa a ca) (hb : SE X cl qb b cb) : SE X cl (qa && qb) (.BinOp a .Mult b pos) (cBin fMul qb ca cb) := se_bin opr_mul ops_mul ha hb
theorem dDiv (ha : SE X cl qa a ca) (hb : SE X cl qb b cb) : SE X cl (qa && qb) (.BinOp a .FloorDiv b pos) (cBin fDiv qb ca cb) := se_bin op_fdivW ops_div ha hb
theorem dMod (ha : SE X cl qa a ca) (hb : SE X cl qb b cb) : SE X cl (qa && qb) (.BinOp a .Mod b pos) (cBin fMod qb ca cb) := se_bin op_mod ops_mod ha hb
theorem dPow (ha : SE X cl qa a ca) (hb : SE X cl qb b cb) : SE X cl (qa && qb) (.BinOp a .Pow b pos) (cBin fPow qb ca cb) := se_bin op_pow ops_pow ha hb
theorem dNeg (ha : SE X cl qa a ca) : SE X cl qa (.UnaryOp .USub a pos) (cUn fNeg ca) := se_un un_neg uns_neg ha
theorem dGe (ha : SE X cl qa a ca) (hb : SE X cl qb b cb) : SE X cl (qa && qb) (.Compare a [.GtE] [b] pos) (cBin fGe qb ca cb) := se_cmp op_ge ops_ge ha hb (nomark _)
theorem dEq (hu : X.A.units + 64 < cLine) (ha : SE X cl qa a ca) (hb : SE X cl qb b cb) : SE X cl (qa && qb) (.Compare a [.Eq] [b] pos) (cBin fEq qb ca cb) := se_cmp (op_eqD hu) ops_eq ha hb (nomark _)
theorem dIs (ha : SE X cl qa a ca) (hb : SE X cl qb b cb) : SE X cl (qa && qb) (.Compare a [.Is] [b] pos) (cBin fIsN qb ca cb) := se_cmp op_isN ops_isN ha hb (nomark _)
theorem tLt' (ha : SE X cl qa a ca) (hb : SE X cl qb b cb) : ST X cl (qa && qb) (.Compare a [.Lt] [b] pos) (cTest (cBin fLt qb ca cb)) := st_cmp op_lt ops_lt ha hb (nomark _)
theorem tGt' (ha : SE X cl qa a ca) (hb : SE X cl qb b cb) : ST X cl (qa && qb) (.Compare a [.Gt] [b] pos) (cTest (cBin fGt qb ca cb)) := st_cmp op_gt ops_gt ha hb (nomark _)
theorem tEq' (hu : X.A.units + 64 < cLine) (ha : SE X cl qa a ca) (hb : SE X cl qb b cb) : ST X cl (qa && qb) (.Compare a [.Eq] [b] pos) (cTest (cBin fEq qb ca cb)) := st_cmp (op_eqD hu) ops_eq ha hb (nomark _)
theorem tNe' (hu : X.A.units + 64 < cLine) (ha : SE X cl qa a ca) (hb : SE X cl qb b cb) : ST X cl (qa && qb) (.Compare a [.NotEq] [b] pos) (cTest (cBin fNe qb ca cb)) := st_cmp (op_neD hu) ops_ne ha hb (nomark _)
theorem tIs' (ha : SE X cl qa a ca) (hb : SE X cl qb b cb) : ST X cl (qa && qb) (.Compare a [.Is] [b] pos) (cTest (cBin fIsN qb ca cb)) := st_cmp op_isN ops_isN ha hb (nomark _)
theorem dIx (ha : SE X cl qa a ca) (hb : SE X cl qb b cb) (hs : PlainIx b := by intro _ _; rfl) : SE X cl (qa && qb) (.Subscript a b pos) (cBin fIdx qb ca cb) := PE.imp (pe_ix ix_seq ha hb hs) fun σ H Q h => bin_core ops_idx h
theorem dSl {lo hi : Option Expr} {co ch : CO} {ql qh : Bool} (he : SE X cl qa e ca) (hl : SO X cl ql lo co) (hh : SO X cl qh hi ch) : SE X cl (qa && (ql && qh)) (.Subscript e (.Slice lo hi none p2) pos) (cSl fSl (ql && qh) ca co ch) := se_slice slr_seq sls_seq he hl hh
theorem dLen (hg : Gl X "len") (hm : X.mg "len" = none) (hb : SB X cl qb (e :: es) cbs) (he : starEach (e :: es) X.env = (false, eval e X.env) :: starEach es X.env := by rfl) (hpl : (backTo pos (starEach es X.env)).any (·.1) = false := by rfl) :
    SE X cl qb (.Call (.Name "len" p) (e :: es) [] pos) (cCallB fLen cbs) := se_callB cr_lenA cs_len hg hm PySem.boot_len hb (by decide) (by decide) he hpl
theorem dAbs (hg : Gl X "abs") (hm : X.mg "abs" = none) (hb : SB X cl qb (e :: es) cbs) (he : starEach (e :: es) X.env = (false, eval e X.env) :: starEach es X.env := by rfl) (hpl : (backTo pos (starEach es X.env)).any (·.1) = false := by rfl) :
    SE X cl qb (.Call (.Name "abs" p) (e :: es) [] pos) (cCallB fAbs cbs) := se_callB call_abs cs_abs hg hm (by decide +kernel) hb (by decide) (by decide) he hpl
theorem dMin2 (hc : X.calm = true) (hg : Gl X "min") (hm : X.mg "min" = none) (hb : SB X cl qb (e :: es) cbs) (he : starEach (e :: es) X.env = (false, eval e X.env) :: starEach es X.env := by rfl) (hpl : (backTo pos (starEach es X.env)).any (·.1) = false := by rfl) :
    SE X cl qb (.Call (.Name "min" p) (e :: es) [] pos) (cCallB fMin2 cbs) := se_callB (call_min2 hc) cs_min2 hg hm (by decide +kernel) hb (by decide) (by decide) he hpl
theorem dSum (hc : X.calm = true) (hg : Gl X "sum") (hm : X.mg "sum" = none) (hb : SB X cl qb (e :: es) cbs) (he : starEach (e :: es) X.env = (false, eval e X.env) :: starEach es X.env := by rfl) (hpl : (backTo pos (starEach es X.env)).any (·.1) = false := by rfl) :
    SE X cl qb (.Call (.Name "sum" p) (e :: es) [] pos) (cCallB fSum cbs) := se_callB (cr_sum hc) cs_sum hg hm (by decide +kernel) hb (by decide) (by decide) he hpl
theorem dAll (hc : X.calm = true) (hg : Gl X "all") (hm : X.mg "all" = none) (hb : SB X cl qb (e :: es) cbs) (he : starEach (e :: es) X.env = (false, eval e X.env) :: starEach es X.env := by rfl) (hpl : (backTo pos (starEach es X.env)).any (·.1) = false := by rfl) :
    SE X cl qb (.Call (.Name "all" p) (e :: es) [] pos) (cCallB fAll cbs) := se_callB (cr_all hc) cs_all hg hm (by decide +kernel) hb (by decide) (by decide) he hpl
theorem dInt (hg : Gl X "int") (hm : X.mg "int" = none) (hb : SB X cl qb (e :: es) cbs) (he : starEach (e :: es) X.env = (false, eval e X.env) :: starEach es X.env := by rfl) (hpl : (backTo pos (starEach es X.env)).any (·.1) = false := by rfl) :
    SE X cl qb (.Call (.Name "int" p) (e :: es) [] pos) (cCallB fInt cbs) := se_callTy call_int1 cs_int hg hm (by decide +kernel) hb (by decide) (by decide) he hpl
theorem dTuple (hg : Gl X "tuple") (hm : X.mg "tuple" = none) (hb : SB X cl qb (e :: es) cbs) (he : starEach (e :: es) X.env = (false, eval e X.env) :: starEach es X.env := by rfl) (hpl : (backTo pos (starEach es X.env)).any (·.1) = false := by rfl) :
    SE X cl qb (.Call (.Name "tuple" p) (e :: es) [] pos) (cCallB fTuple cbs) := se_callTy call_tuple_of cs_tuple hg hm (by decide +kernel) hb (by decide) (by decide) he hpl
theorem dList (hg : Gl X "list") (hm : X.mg "list" = none) (hb : SB X cl qb (e :: es) cbs) (he : starEach (e :: es) X.env = (false, eval e X.env) :: starEach es X.env := by rfl) (hpl : (backTo pos (starEach es X.env)).any (·.1) = false := by rfl) :
    SE X cl qb (.Call (.Name "list" p) (e :: es) [] pos) (cCallB fList cbs) := se_callTy call_list_of cs_list hg hm (by decide +kernel) hb (by decide) (by decide) he hpl
theorem tyInt (hg : Gl X "int") (hm : X.mg "int" = none) : TyN X "int" "int" := ⟨hg, hm, by decide +kernel, by decide, by decide⟩
theorem tyBool (hg : Gl X "bool") (hm : X.mg "bool" = none) : TyN X "bool" "bool" := ⟨hg, hm, by decide +kernel, by decide, by decide⟩
theorem tyStr (hg : Gl X "str") (hm : X.mg "str" = none) : TyN X "str" "str" := ⟨hg, hm, by decide +kernel, by decide, by decide⟩
theorem tyTuple (hg : Gl X "tuple") (hm : X.mg "tuple" = none) : TyN X "tuple" "tuple" := ⟨hg, hm, by decide +kernel, by decide, by decide⟩
theorem tyList (hg : Gl X "list") (hm : X.mg "list" = none) : TyN X "list" "list" := ⟨hg, hm, by decide +kernel, by decide, by decide⟩
end
theorem fn_def {P : Program} {w : World} {K : PySem.W.Frag} {mg : Str → Option Value} {base : Heap} {cl : Nat → Addr} {x q : Str} {st : Stmt} {N ps : List Str} {k : Nat} {f : Addr} {fd : FuncData} {io : KP} {body : CS}
    (F : FunD K x q (defArgs st) (defBody st) (defScope st) [] [] f fd) (S : FnScope N ps (defScope st)) (hio : ∀ i, ps.length ≤ i → io i = false)
    (hb : ∀ (cdv : Value) (A : Around) (outer : List Env) (s : Shared) (H : Hp) (E : XK), Room k (A.deeper (envOfC q (defScope st) s.heap.objs.size f cdv)) → SSs (BX P w K mg base N q (defScope st) f cdv A outer s H E) cl io (defBody st) body) :
    FnOk P w K mg base CX0 (k + 1) f fd ps (spM ⟨K, cl⟩ (runDef ps.length N.length io body)) := by
  refine F.ok S (fun vs H Q E h => ?_) (fun cdv A outer s H vs Q E hr h => ⟨tS ⟨K, cl⟩ io body, PSs.nox (hb cdv A outer s H E hr), def_core hio h⟩)
  obtain ⟨O, L, ws, r, back, rs, nd, c, _⟩ := h
  obtain ⟨_, c1, _⟩ := Res.of_bind c
  have hl : ws.length = ps.length := by simpa using chk_ok c1
  rw [rs.length, hl]
end Mi
namespace Mi
open PySem PySem.Spec PyProof.Rows L2
def ioOf (l : List Nat) : KP := fun i => l.contains i
theorem ioOf_out {l : List Nat} {n : Nat} (h : (l.all fun j => decide (j < n)) = true) : ∀ i, n ≤ i → ioOf l i = false := fun i hi => by
  unfold ioOf
  cases e : l.contains i with
  | false => rfl
  | true =>
    have := List.all_eq_true.mp h i (by simpa using e)
    have := of_decide_eq_true this
    omega
theorem vals_pick {zs : List V} {ws : List Value} (r : Vals zs ws) : ∀ ix : List Nat, Vals (pick ix zs) (pick ix ws)
  | [] => .nil
  | i :: ix => by
    unfold pick
    rw [List.filterMap_cons, List.filterMap_cons]
    cases h : zs[i]? with
    | none =>
      rw [Vals.none_of r h]
      exact vals_pick r ix
    | some x =>
      obtain ⟨u, hu, ru⟩ := Vals.get r h
      rw [hu]
      exact .cons ru (vals_pick r ix)
section
variable {K : PySem.W.Frag} {x qual : Str} {params : Arguments} {body : List Stmt} {scope : Scope} {f : Addr} {fd : FuncData} {ps : List Str}
theorem kbn_of {ks : List Str} {ix : List Nat} (F : FunD K x qual params body scope [] [] f fd)
    (h : ∀ (kV doc pm : Value) (an : Option Addr) (cdv ct : Value) (us : List Value), us.length = ks.length → bindArgs (PySem.W.fnOf x qual params body scope .none kV doc pm an cdv ct) ⟨[], ks.zip us⟩ = pure (ps.zip (pick ix us))) :
    KBn K fd ps 0 ks (fun _ ws => pick ix ws) (fun _ zs => pick ix zs) := by
  obtain ⟨oc, od, dV, kV, doc, pm, an, cdv, ct, osl, rfl, lk, hcd, hD, hK⟩ := F.ex
  rcases hD with ⟨_, rfl⟩ | ⟨e, _⟩
  · refine ⟨fun s us ws X l1 l2 => ?_, fun r1 r2 => vals_pick r2 ix⟩
    cases us with
    | nil => exact .of_eq (h kV doc pm an cdv ct ws l2)
    | cons u r => cases l1
  · exact absurd rfl e
end
structure Dn (P : Program) (w : World) (K : PySem.W.Frag) (mg : Str → Option Value) (base : Heap) (cl : Nat → Addr) (x : Str) (k : Nat) (F : Fn) : Prop where
  ex : ∃ (f : Addr) (fd : FuncData) (ps : List Str), FnOk P w K mg base CX0 k f fd ps (spM ⟨K, cl⟩ F) ∧ mg x = some (.ref f) ∧ PySem.W.keepIn K (.ref f) = true ∧ Binds K fd ps []
structure Dk (P : Program) (w : World) (K : PySem.W.Frag) (mg : Str → Option Value) (base : Heap) (cl : Nat → Addr) (x : Str) (ks : List Str) (ix : List Nat) (k : Nat) (F : Fn) : Prop where
  ex : ∃ (f : Addr) (fd : FuncData) (ps : List Str), FnOk P w K mg base CX0 k f fd ps (spM ⟨K, cl⟩ F) ∧ mg x = some (.ref f) ∧ PySem.W.keepIn K (.ref f) = true ∧ KBn K fd ps 0 ks (fun _ ws => pick ix ws) (fun _ zs => pick ix zs)
section
variable {P : Program} {w : World} {K : PySem.W.Frag} {mg : Str → Option Value} {base : Heap} {cl : Nat → Addr} {x : Str} {k j : Nat} {F : Fn} {N : List Str} {q : Str} {sc : Scope} {f : Addr} {cdv : Value} {A : Around} {outer : List Env} {s : Shared} {H : Hp} {E : XK}
theorem Dn.fm (d : Dn P w K mg base cl x k F) (hr : Room j (A.deeper (envOfC q sc s.heap.objs.size f cdv))) (h : k ≤ j) : FnM (BX P w K mg base N q sc f cdv A outer s H E) cl x F := by
  obtain ⟨f, fd, ps, G, m, kp, b⟩ := d.ex
  exact ⟨k, f, fd, ps, G, hr.mono h, m, kp, b⟩
theorem Dk.fm {ks : List Str} {ix : List Nat} (d : Dk P w K mg base cl x ks ix k F) (hr : Room j (A.deeper (envOfC q sc s.heap.objs.size f cdv))) (h : k ≤ j) : FnK (BX P w K mg base N q sc f cdv A outer s H E) cl x ks ix F := by
  obtain ⟨f, fd, ps, G, m, kp, b⟩ := d.ex
  exact ⟨k, f, fd, ps, G, hr.mono h, m, kp, b⟩
end
abbrev errF : Fn := fun _ => .err
theorem fn_zero {P : Program} {w : World} {K : PySem.W.Frag} {mg : Str → Option Value} {base : Heap} {cl : Nat → Addr} {x q : Str} {st : Stmt} {N ps : List Str} {k : Nat} {f : Addr} {fd : FuncData}
    (F : FunD K x q (defArgs st) (defBody st) (defScope st) [] [] f fd) (S : FnScope N ps (defScope st)) : FnOk P w K mg base CX0 (k + 1) f fd ps (spM ⟨K, cl⟩ errF) := by
  refine F.ok S (fun vs H Q E h => ?_) (fun cdv A outer s H vs Q E hr h => ?_)
  · obtain ⟨O, L, ws, r, back, rs, nd, c, _⟩ := h
    cases c
  · obtain ⟨O, L, ws, r, back, rs, nd, c, _⟩ := h
    cases c
theorem ints_rep {C : Cfg} {H : Hp} {O : AP} : ∀ ns : List Int, RepDs C H O (ns.map D.int) (ns.map V.int)
  | [] => rfl
  | n :: ns => ⟨.int n, _, rfl, rfl, ints_rep ns⟩
theorem law_sp {K : PySem.W.Frag} {cl : Nat → Addr} {F : Fn} {H : Hp} {a : Addr} {ns : List Int} {E : XK} (hS : SqL K H a (ns.map V.int)) (h : ∃ bk, F [.fz (.scr (ns.map D.int))] = .ok (.fz (.bl true), bk)) : spM ⟨K, cl⟩ F [.ref a] H (fun v _ => v = .bl true) E := by
  obtain ⟨bk, h⟩ := h
  have sc : Sc ⟨K, cl⟩ H (fun _ => False) a (ns.map V.int) := by
    rcases hS with z | z
    · exact .inl ⟨z, fun q => q⟩
    · exact .inr z
  have r0 : RepW ⟨K, cl⟩ H (fun _ => False) (.fz (.scr (ns.map D.int))) (.ref a) [] := ⟨rfl, a, ns.map V.int, rfl, sc, ints_rep ns⟩
  have rs : RepWs ⟨K, cl⟩ H (fun _ => False) [.fz (.scr (ns.map D.int))] [.ref a] [] := ⟨.ref a, [], [], [], rfl, rfl, r0, rfl, rfl⟩
  exact ⟨fun _ => False, [], _, _, bk, rs, List.nodup_nil, h, fun v H' O' L' Lr r _ _ _ => r.2⟩
end Mi
namespace Mi
open PySem PySem.Spec PyProof.Rows L2
def cChainI (p p' : Int → Int → Bool) (ca cb cc : CE) : CE := fun ρ => (ca ρ).bind fun (a, ρ1) => (intOf a).bind fun i => (cb ρ1).bind fun (b, ρ2) => (intOf b).bind fun j =>
  if p i j = true then (cc ρ2).bind fun (c, ρ3) => (intOf c).bind fun k => .ok (.tmp (.fz (.bl (p' j k))), ρ3) else .ok (.tmp (.fz (.bl false)), ρ2)
theorem PostT.bl {C : Cfg} {σ : Sg} {H H1 : Hp} {O O1 : AP} {L L1 : List Addr} {ρ ρ1 : En} {q : Bool} (P : PostT C σ H O L ρ q ρ1 H1 O1 L1) (k : Bool) : PostE C σ H O L ρ q (.tmp (.fz (.bl k))) ρ1 (.bl k) H1 O1 L1 [] :=
  ⟨P.env, ⟨rfl, rfl⟩, by rw [List.append_nil]; exact P.nd, by rw [List.append_nil]; exact P.st, P.qu⟩
section
variable {X : Cx} {cl : Nat → Addr} {a b c : Expr} {ca cb cc : CE} {qa qb qc : Bool} {pos : Pos}
end
theorem env_setF {C : Cfg} {kp : KP} {σ : Sg} {H : Hp} {O : AP} {L Lw T : List Addr} {ρ : En} {i : Nat} {w : W} {v : V} (env : EnvR C H O ρ σ L) (r : RepW C H O w v Lw) (nd : (L ++ (Lw ++ T)).Nodup) (ht : ∀ a ∈ T, O a) (hi : i < ρ.length) (hk : kp i = false) :
    ∃ O' L', EnvR C H O' (ρ.set i (some w)) (σ.set i (some v)) L' ∧ (L' ++ T).Nodup ∧ KeepL H O H O' T ∧ (∀ a, O' a → O a) ∧ (∀ a ∈ L', a ∈ L ++ Lw) ∧ (∀ a, O a → a ∉ L ++ Lw → O' a) ∧ ∀ j, kp j = true → (σ.set i (some v))[j]? = σ[j]? := by
  obtain ⟨y, M1, M0, q1, q2, q4, q5⟩ := env.focus (List.getElem?_eq_getElem hi)
  have pm : (L ++ (Lw ++ T)).Perm (M1 ++ (M0 ++ (Lw ++ T))) := by rw [← List.append_assoc M1]; exact q4.append_right (Lw ++ T)
  have ndM := pm.nodup_iff.mp nd
  have ow : ∀ a ∈ L ++ (Lw ++ T), O a := fun a ha => by
    rcases List.mem_append.mp ha with h | h
    · exact (env.own a h).1
    · rcases List.mem_append.mp h with h | h
      · exact (RepW.own w v Lw r a h).1
      · exact ht a h
  have dis : ∀ a ∈ M0 ++ (Lw ++ T), a ∉ M1 := fun a ha z => (List.nodup_append.mp ndM).2.2 a z a ha rfl
  have k0 : KeepL H O H (Less O M1) (M0 ++ (Lw ++ T)) := keep_less dis fun a ha => ow a (pm.mem_iff.mpr (by simp only [List.mem_append] at ha ⊢; exact .inr ha))
  obtain ⟨L', p1, p2⟩ := q5 H (Less O M1) (some w) (some v) Lw (k0.sub fun a ha => by simp [ha]) ⟨v, rfl, RepW.keep w v Lw (k0.sub fun a ha => by simp [ha]) r⟩
  have nd0 := (List.nodup_append.mp ndM).2.1
  refine ⟨Less O M1, L', p2, ?_, k0.sub fun a ha => by simp [ha], fun a q => q.1, fun a ha => ?_, fun a q n => ⟨q, fun z => n ?_⟩, fun j hj => ?_⟩
  · have : (M0 ++ Lw ++ T).Nodup := by rw [List.append_assoc]; exact nd0
    exact ((p1.trans List.perm_append_comm).append_right T).nodup_iff.mpr this
  · have h1 := p1.mem_iff.mp ha
    rcases List.mem_append.mp h1 with h | h
    · simp [h]
    · exact List.mem_append.mpr (.inl (q4.mem_iff.mpr (by simp [h])))
  · exact List.mem_append.mpr (.inl (q4.mem_iff.mpr (by simp [z])))
  · have hne : i ≠ j := fun z => by rw [z, hj] at hk; cases hk
    rw [List.getElem?_set_ne hne]
def cPar2 (i j : Nat) (cb : CBs) : CS := fun ρ => (cb ρ).bind fun (bs, ρ1) => (chk (bs.all flatB)).bind fun _ => (takes bs ρ1).bind fun (ws, ρ2) => match ws with
  | [v, w] => (chk (decide (i < ρ2.length ∧ j < ρ2.length))).bind fun _ => .ok (.nx, (ρ2.set i (some v)).set j (some w))
  | _ => .err
section
variable {X : Cx} {cl : Nat → Addr} {a b : Expr} {cb : CBs} {qb : Bool} {pos : Pos} {kp : KP}
theorem ss_par2 {i j : Nat} {x y : Str} {px py pt : Pos} {kt k2 pt2} (hc : X.calm = true) (hN : X.N.Nodup) (hi : X.N[i]? = some x) (hj : X.N[j]? = some y) (hij : i ≠ j) (hx : X.env.scope.names.lookup x = some .local) (hy : X.env.scope.names.lookup y = some .local)
    (hki : kp i = false) (hkj : kp j = false) (hb : SB X cl qb [a, b] cb) (hw : swappedStores [.Tuple [.Name x px, .Name y py] kt pt] (.Tuple [a, b] k2 pt2) X.env = pure (some [x, y]))
    (hs : swapsWithSole [.Tuple [.Name x px, .Name y py] kt pt] (.Tuple [a, b] k2 pt2) pos.line X.env = pure false := by rfl) : SS X cl kp (.Assign [.Tuple [.Name x px, .Name y py] kt pt] (.Tuple [a, b] k2 pt2) pos) (cPar2 i j cb) := by
  refine PS.imp (ps_par hc hN hi hj hij hx hy hb hw hs) fun Dn σ H h => ?_
  obtain ⟨O, L, ρ, fl, ρ', env, nd, c, q⟩ := h
  obtain ⟨⟨bs, ρ1⟩, c1, c⟩ := Res.of_bind c
  obtain ⟨_, c2, c⟩ := Res.of_bind c
  obtain ⟨⟨ws, ρ2⟩, c3, c⟩ := Res.of_bind c
  refine ⟨O, L, ρ, bs, ρ1, env, nd, c1, fun vs H1 O1 L1 Lb P => ?_⟩
  obtain ⟨O2, L2, Lw, g1, g2, g3, g4, g5, g6, _⟩ := takes_rep P.br P.env P.nd (chk_ok c2) c3
  match ws, c, g2 with
  | [v, w], c, g2 =>
    obtain ⟨_, c4, c⟩ := Res.of_bind c
    cases c
    have hl := chk_dec c4
    obtain ⟨xv, r, La, Lr, e1, e2, r1, yv, r', Lc, Ld, e3, e4, r2, e5, e6⟩ := g2
    subst e3; subst e4; subst e5; subst e6; subst e1; subst e2
    rw [List.append_nil] at g3
    have g5 : ∀ a ∈ L2 ++ (La ++ Lc), a ∈ L1 ++ Lb := fun a ha => g5 a (by rw [List.append_nil]; exact ha)
    have o2 : ∀ z ∈ Lc, O2 z := fun z hz => (RepW.own w yv Lc r2 z hz).1
    obtain ⟨O3, L3, f1, f2, f3, f4, f5, f6, f7⟩ := env_setF (kp := kp) g1 r1 g3 o2 hl.1 hki
    obtain ⟨O4, L4, P4⟩ := env_set (kp := kp) f1 (RepW.keep w yv Lc f3 r2) f2 (by rw [List.length_set]; exact hl.2) hkj
    refine ⟨xv, yv, rfl, q _ H1 O4 L4 [] ⟨P4.env, P4.nd, ?_, fun k hk => (P4.kp k hk).trans (f7 k hk), P4.ln.trans (List.length_set ..)⟩ rfl⟩
    have s1 : Stp H1 O1 (L1 ++ Lb) H1 O2 (L2 ++ (La ++ Lc)) := Stp.ofO g4 g5 g6
    have s2 : Stp H1 O2 (L2 ++ (La ++ Lc)) H1 O3 (L3 ++ Lc) := Stp.ofO f4 (fun z hz => by
      rcases List.mem_append.mp hz with h | h
      · have := f5 z h; simp only [List.mem_append] at this ⊢; rcases this with h | h; exact .inl h; exact .inr (.inl h)
      · simp [h]) fun z q n => f6 z q fun m => n (by simp only [List.mem_append] at m ⊢; rcases m with h | h; exact .inl h; exact .inr (.inl h))
    exact ((P.st.trans s1).trans s2).trans P4.st
end
end Mi
namespace Mi
open PySem PySem.Spec PyProof.Rows L2
def cAugI (i : Nat) (f : Int → Int → Int) (ce : CE) : CS := fun ρ => match ρ[i]? with
  | some (some (.fz (.int n))) => (ce ρ).bind fun (b, ρ1) => (intOf b).bind fun k => (chk (decide (i < ρ1.length))).bind fun _ => .ok (.nx, ρ1.set i (some (.fz (.int (f n k)))))
  | _ => .err
section
variable {X : Cx} {cl : Nat → Addr} {e : Expr} {ce : CE} {q : Bool} {pos : Pos} {kp : KP}
end
end Mi
namespace Mi
open PySem PySem.Spec PyProof.Rows L2
section
variable {X : Cx} {cl : Nat → Addr} {a b c : Expr} {ca cb : CE} {qa qb : Bool} {pos : Pos}
end
def cPar3 (i j l : Nat) (cb : CBs) : CS := fun ρ => (cb ρ).bind fun (bs, ρ1) => (chk (bs.all flatB)).bind fun _ => (takes bs ρ1).bind fun (ws, ρ2) => match ws with
  | [u, v, w] => (chk (decide (i < ρ2.length ∧ j < ρ2.length ∧ l < ρ2.length))).bind fun _ => .ok (.nx, ((ρ2.set i (some u)).set j (some v)).set l (some w))
  | _ => .err
end Mi
namespace Mi
open PySem PySem.Spec PyProof.Rows L2
section
variable {X : Cx} {cl : Nat → Addr} {a b c : Expr} {cb : CBs} {qb : Bool} {pos : Pos} {kp : KP}
end
end Mi
namespace Mi
open PySem PySem.Spec PyProof.Rows L2
def extV : W → Option (List W)
  | .lst ws => some ws
  | .fz (.lst ds) => some (ds.map W.fz)
  | _ => none
def cExt (qa : Bool) (co ca : CE) : CE := fun ρ => (co ρ).bind fun (b, ρ1) => (isPl b ρ1).bind fun (i, p) => (pend qa (.bor i p)).bind fun _ => (ca ρ1).bind fun (a, ρ2) => (chk (p.isEmpty || isTmp a)).bind fun _ => (take a ρ2).bind fun (w, ρ3) =>
  (Res.of (extV w)).bind fun ws2 => (mutP i p (fun ws => if ws.length + ws2.length ≤ 16777216 then some (ws ++ ws2) else none) ρ3).bind fun ρ4 => .ok (.tmp (.fz .non), ρ4)
section
variable {X : Cx} {cl : Nat → Addr} {o e : Expr} {co ca : CE} {qo qa : Bool} {apos cpos : Pos}
end
end Mi
namespace Mi
open PySem PySem.Spec PyProof.Rows L2
def cRgTup2 (ca cb : CE) : CE := fun ρ => (ca ρ).bind fun (a, ρ1) => (intOf a).bind fun i => (cb ρ1).bind fun (b, ρ2) => (intOf b).bind fun j => (chk (decide (RgOk i j))).bind fun _ => .ok (.tmp (.fz (.tup (rangeD i (j - i).toNat))), ρ2)
def cRgLst2 (ca cb : CE) : CE := fun ρ => (ca ρ).bind fun (a, ρ1) => (intOf a).bind fun i => (cb ρ1).bind fun (b, ρ2) => (intOf b).bind fun j => (chk (decide (RgOk i j))).bind fun _ => .ok (.tmp (.lst ((rangeD i (j - i).toNat).map W.fz)), ρ2)
section
variable {X : Cx} {cl : Nat → Addr} {e e2 : Expr} {ca cb : CE} {qa qb : Bool} {p p2 pos pos2 : Pos}
end
end Mi
namespace Mi
open PySem PySem.Spec PyProof.Rows L2 HT
section
variable {prog : Program} {w : World} {A : Around} {s : Shared} {E : Value → Shared → Prop}
theorem adjust_rev (n : Nat) : Builtin.Slice.sliceAdjust none none (-1) (n : Int) = ((n : Int) - 1, -1) := by
  have h1 : ((-1 : Int) < 0) := by omega
  unfold Builtin.Slice.sliceAdjust
  simp only [h1, if_true]
theorem places_rev (n : Nat) : Builtin.Slice.slicePlaces ((n : Int) - 1) (-1) (-1) = n := by
  unfold Builtin.Slice.slicePlaces
  have h1 : ¬ ((-1 : Int) > 0) := by omega
  have e : (-(-1) : Int) = 1 := rfl
  simp only [h1, if_false, e, Int.ediv_one]
  split <;> omega
theorem sliceApplied_rev {sl : Addr} {vl vu vs : Value} {n : Nat} {Q : Int × Int × Nat → Shared → Prop} (hs : s.heap.IsSliceOf sl vl vu vs) (pl : IsPart vl none) (pu : IsPart vu none) (ps : IsPart vs (some (-1)))
    (h : Q ((n : Int) - 1, -1, n) s) : wpAny (model prog w) A (Builtin.Slice.sliceApplied (.ref sl) (pure (n : Int))) Q E s := by
  obtain ⟨os, hos, hcs, hds⟩ := id hs
  unfold Builtin.Slice.sliceApplied Builtin.Slice.sliceFields
  refine wpAny_bind (wpAny_bind (wpAny_field hos hds (x := vl) rfl (wpAny_bind (wpAny_field hos hds (x := vu) rfl (wpAny_bind (wpAny_field hos hds (x := vs) rfl (wpAny_pure ?_)))))))
  refine wpAny_bind (slicePart_ ps ?_)
  show wpAny _ _ (if ((-1 : Int) == 0) = true then _ else _) _ _ s
  rw [if_neg (by decide)]
  refine wpAny_bind (slicePart_ pl (wpAny_bind (slicePart_ pu (wpAny_bind (wpAny_pure ?_)))))
  show wpAny _ _ (match Builtin.Slice.sliceAdjust none none (-1) (n : Int) with | (lo, hi) => pure (lo, (-1 : Int), Builtin.Slice.slicePlaces lo hi (-1))) _ _ s
  rw [adjust_rev n]
  show wpAny _ _ (pure ((n : Int) - 1, (-1 : Int), Builtin.Slice.slicePlaces ((n : Int) - 1) (-1) (-1))) _ _ s
  rw [places_rev]
  exact wpAny_pure h
theorem pick_rev (xs : Array Value) : ((List.range xs.size).filterMap fun (m : Nat) => xs[((xs.size : Int) - 1 + (m : Int) * (-1)).toNat]?).toArray = xs.toList.reverse.toArray := by
  congr 1
  obtain ⟨l⟩ := xs
  simp only [List.size_toArray, List.getElem?_toArray]
  have key : ∀ k, k ≤ l.length → ((List.range k).filterMap fun (m : Nat) => l[((l.length : Int) - 1 + (m : Int) * (-1)).toNat]?) = (l.drop (l.length - k)).reverse := by
    intro k
    induction k with
    | zero => intro _; simp
    | succ k ih =>
      intro hk
      rw [List.range_succ, List.filterMap_append, ih (by omega)]
      have e1 : ((l.length : Int) - 1 + (k : Int) * (-1)).toNat = l.length - (k + 1) := by omega
      have hx : l.length - (k + 1) < l.length := by omega
      have e2 : l.drop (l.length - (k + 1)) = l[l.length - (k + 1)] :: l.drop (l.length - k) := by
        rw [List.drop_eq_getElem_cons hx]
        congr 2
        omega
      rw [e2, List.reverse_cons]
      congr 1
      simp only [List.filterMap_cons, List.filterMap_nil, e1, List.getElem?_eq_getElem hx]
  have := key l.length (Nat.le_refl _)
  rw [Nat.sub_self, List.drop_zero] at this
  exact this
theorem getItem_tuple_rev {t sl : Addr} {items : Array Value} {vl vu vs : Value} {Q : Value → Shared → Prop} (ht : IsTup s.heap t items) (hs : s.heap.IsSliceOf sl vl vu vs) (pl : IsPart vl none) (pu : IsPart vu none) (ps : IsPart vs (some (-1)))
    (h : Q (.ref s.heap.objs.size) { s with heap := s.heap.push { cls := .type "tuple", data := .seq items.toList.reverse.toArray } })
    (hsz : items.size ≤ sizeLine) : wpAny (model prog w) A (getItem (.ref t) (.ref sl)) Q E s := by
  have htake : sizeOk (.seq items.toList.reverse.toArray) := by
    show items.toList.reverse.toArray.size ≤ sizeLine
    rw [List.size_toArray, List.length_reverse, Array.length_toList]
    exact hsz
  obtain ⟨os, hos, hcs, hds⟩ := id hs
  have hTs : s.TypeIs (.ref sl) "slice" := ⟨os, hos, hcs⟩
  unfold getItem
  try with_reducible refine wpAny_holding ?_
  first | refine wpAny_bind (wpAny_pure ?_) | skip
  refine wpAny_bind (wpAny_sequenceKey ht.typeIs (by decide) ?_)
  refine wpAny_bind (wpAny_callSpecial?_slot (name := Str.ofString "__getitem__") ht.typeIs PyProof.Rows.slot_tuple_getitem
    (wpAny_call_entry PyProof.Rows.slot_tuple_getitem ht.typeIs entry_tuple_getitem ?_ (args_tuple_getitem _ _)))
  show wpAny _ _ (Builtin.Tuple.tupleItemsOf (.ref t) >>= _) _ _ s
  refine wpAny_bind (tupleItemsOf_ ht ?_)
  refine wpAny_bind (wpAny_typeOf hTs ?_)
  rw [if_pos (by decide)]
  refine wpAny_bind (sliceApplied_rev hs pl pu ps ?_)
  have hno : ¬ ((((items.size : Int) - 1) == 0 && (-1 : Int) == 1 && items.size == items.size) = true) := by
    intro q
    rw [Bool.and_eq_true, Bool.and_eq_true] at q
    exact absurd q.1.2 (by decide)
  show wpAny _ _ (if (((items.size : Int) - 1) == 0 && (-1 : Int) == 1 && items.size == items.size) = true then _ else _) _ _ s
  rw [if_neg hno, pick_rev]
  first
    | exact wpAny_bind (m := Builtin.Tuple.tupleExact _) (wpAny_newObj_type (wpAny_pure ⟨_, rfl, wpAny_pure h⟩) htake)
    | exact wpAny_bind (m := Builtin.Tuple.tupleExact _) (wpAny_newObj_type (wpAny_bind (wpAny_pure (wpAny_pure ⟨_, rfl, wpAny_pure h⟩))) htake)
    | exact wpAny_bind (wpAny_bind (m := Builtin.Tuple.tupleExact _) (wpAny_newObj_type (wpAny_pure (wpAny_pure ⟨_, rfl, wpAny_pure h⟩)) htake))
    | exact wpAny_bind (wpAny_bind (m := Builtin.Tuple.tupleExact _) (wpAny_newObj_type (wpAny_pure ⟨_, rfl, wpAny_pure h⟩) htake))
end
def rRev (K : PySem.W.Frag) (x : V) (H : Hp) (Q : VK) : Prop := (∃ a xs, x = .ref a ∧ SqT K H a xs ∧ ∀ p, H p = none → Q (.ref p) (upd H p (.tup xs.reverse))) ∨ (∃ a xs, x = .ref a ∧ SqL K H a xs ∧ ∀ p, H p = none → Q (.ref p) (upd H p (.lst xs.reverse)))
theorem pe_rev {X : Cx} {e : Expr} {te : TE} {k : Nat} {p1 p2 p3 pos : Pos} (he : PE X e te) : PE X (.Subscript e (.Slice none none (some (.UnaryOp .USub (.Constant (.int 1) k p1) p2)) p3) pos) (tUn (rRev X.K) te) := by
  refine ⟨fun pins s σ H Q I h => ?_⟩
  refine Subscript_ (thn (he.run pins s σ H _ I h) fun v s1 ⟨x, H1, I1, r1, q1⟩ => ?_)
  have hst : PO X (some (.UnaryOp .USub (.Constant (.int 1) k p1) p2)) (tPart (tUn (rU fun i => .int (-i)) (tC (.int 1)))) := po_some (pe_un un_neg pe_int)
  have main : ∃ a, x = .ref a := by
    rcases q1 with ⟨a, xs, ex, _⟩ | ⟨a, xs, ex, _⟩ <;> exact ⟨a, ex⟩
  obtain ⟨a, ex⟩ := main
  subst ex
  cases r1
  refine wpAny_Slice (thn (po_none.run pins s1 σ H1 (fun o H2 => o = none ∧ H2 = H1) I1 ⟨rfl, rfl⟩) fun vl s2 ⟨l, H2, I2, pl, el, e2⟩ => ?_)
  subst el e2
  refine thn (po_none.run pins s2 σ H2 (fun o H3 => o = none ∧ H3 = H2) I2 ⟨rfl, rfl⟩) fun vu s3 ⟨u, H3, I3, pu, eu, e3⟩ => ?_
  subst eu e3
  refine thn (hst.run pins s3 σ H3 (fun o H4 => o = some (-1) ∧ H4 = H3) I3 ⟨1, rfl, -1, rfl, rfl, rfl⟩) fun vs s4 ⟨o, H4, I4, ps, eo, e4⟩ => ?_
  subst eo e4
  have I5 : Inv X pins σ H4 { s4 with heap := s4.heap.push { cls := .type "slice", data := .fields #[vl, vu, vs] } } := I4.kept (t' := s4.toks) fun b ob q => Heap.get?_push_of_some _ q
  show wpAny (model X.prog X.w) X.A (subscriptTail e (.Slice none none (some (.UnaryOp .USub (.Constant (.int 1) k p1) p2)) p3) (.ref a) (.ref s4.heap.objs.size)) (EP X pins σ Q) X.xe { s4 with heap := s4.heap.push { cls := .type "slice", data := .fields #[vl, vu, vs] } }
  rcases q1 with ⟨a', xs, ex, hx, q⟩ | ⟨a', xs, ex, hx, q⟩
  · cases ex
    obtain ⟨its, r, ht, hz⟩ := I5.tuple hx
    have hlen := r.length
    refine tail_any (ops := [.ref a, .ref s4.heap.objs.size]) ht.typeIs (PyProof.Rows.slot_tuple_getitem.lookup) ?_ (by with_unfolding_all rfl)
    refine getItem_tuple_rev ht (Heap.IsSliceOf.new _ vl vu vs) pl pu ps ?_ (by rw [List.size_toArray]; omega)
    refine ⟨.ref _, _, I5.laid (t' := s4.toks) (o := .tup xs.reverse) (fun b ob q => Heap.get?_push_of_some _ q) (Nat.le_refl _) ?_, rfl, q _ (I5.hok.fresh (Nat.le_refl _))⟩
    exact ⟨by rw [List.length_reverse]; exact hz, _, r.reverse, IsTup.new _ _⟩
  · cases ex
    obtain ⟨its, r, ht, hz⟩ := I5.list hx
    have hlen := r.length
    refine tail_any (ops := [.ref a, .ref s4.heap.objs.size]) ht.isList.typeIs (PySem.slot_list_getitem.lookup) ?_ (by with_unfolding_all rfl)
    refine wpAny_getItem_list_slice ht.isList (Heap.IsSliceOf.new _ vl vu vs) pl pu ps (by decide) ?_ (by rw [List.size_toArray]; omega)
    rw [PySem.W.krv_pick]
    refine ⟨.ref _, _, I5.laid (t' := s4.toks) (o := .lst xs.reverse) (fun b ob q => Heap.get?_push_of_some _ q) (Nat.le_refl _) ?_, rfl, q _ (I5.hok.fresh (Nat.le_refl _))⟩
    exact ⟨by rw [List.length_reverse]; exact hz, _, 0, r.reverse, Heap.get?_push_size _ rfl⟩
theorem RepDs.reverse {C : Cfg} {H : Hp} {O : AP} : ∀ {ds : List D} {xs : List V}, RepDs C H O ds xs → RepDs C H O ds.reverse xs.reverse
  | [], xs, h => by rw [show xs = [] from h]; exact RepDs.nil
  | d :: ds, xs, h => by
    obtain ⟨x, r, e, h1, h2⟩ := h
    subst e
    rw [List.reverse_cons, List.reverse_cons]
    exact RepDs.append (RepDs.reverse h2) (.cons h1 .nil)
def fRev (x : W) : Res W := if isT x = true then (match tupV x with
  | some ds => .ok (.fz (.tup ds.reverse))
  | none => .err) else match lsV x with
  | some ds => .ok (.lst (ds.reverse.map W.fz))
  | none => .err
theorem uns_rev {C : Cfg} : UnS C (rRev C.K) fRev := by
  intro H O x wx w Lx Q rx e q
  unfold fRev at e
  split at e
  · split at e
    · rename_i ds hd
      cases e
      obtain ⟨a, xs, e1, t, r⟩ := tupV_rep rx hd
      exact .inl ⟨a, xs, e1, t.sq, fun p hp => q (.ref p) _ _ [] (new_tup hp r.reverse) (Gr.new hp)⟩
    · cases e
  · split at e
    · rename_i ds hd
      cases e
      obtain ⟨a, xs, e1, h1, r⟩ := lsV_rep rx hd
      exact .inr ⟨a, xs, e1, h1, fun p hp => q (.ref p) _ _ [p] (new_lst hp r.reverse) (Gr.newO hp)⟩
    · cases e
theorem dRev {X : Cx} {cl : Nat → Addr} {e : Expr} {ca : CE} {qa : Bool} {k : Nat} {p1 p2 p3 pos : Pos} (ha : SE X cl qa e ca) : SE X cl qa (.Subscript e (.Slice none none (some (.UnaryOp .USub (.Constant (.int 1) k p1) p2)) p3) pos) (cUn fRev ca) :=
  PE.imp (pe_rev ha) fun σ H Q h => un_core uns_rev h
end Mi
namespace Mi
open PySem PySem.Spec PyProof.Rows L2
theorem PG.or {X : Cx} {e : Expr} {t t' : TG} (h : PG X e t) (h' : PG X e t') : PG X e (fun v σ H Q => t v σ H Q ∨ t' v σ H Q) :=
  ⟨fun pins s σ H v u Q I r q => q.elim (fun q => h.run pins s σ H v u Q I r q) (fun q => h'.run pins s σ H v u Q I r q)⟩
def gUnp (gs : CGs) : CG := fun w ρ => match frz w with
  | .tup ds => gs ds ρ
  | .lst ds => gs ds ρ
  | _ => .err
theorem Stp.give {H H' : Hp} {O O' : AP} {L Lw M : List Addr} (s : Stp H (Less O Lw) L H' O' M) : Stp H O (L ++ Lw) H' O' M where
  fr := fun a o e n => s.fr a o e fun z => n (by simp [z])
  nw := fun a q => (s.nw a q).imp (fun z => z.1) id
  ol := fun a o e q n => s.ol a o e ⟨q, fun z => n (by simp [z])⟩ fun z => n (by simp [z])
  ll := fun a h => (s.ll a h).imp (fun z => by simp [z]) id
  dm := s.dm
theorem sg_unp {X : Cx} {cl : Nat → Addr} {kp : KP} {pos : Pos} {es : List Expr} {k n : Nat} {gs : CGs} (hc : X.calm = true) (h : SGs X cl kp es gs) (hl : ∀ ds ρ ρ', gs ds ρ = .ok ρ' → ds.length = n)
    (hn : (assignEach es X.env).length = n := by rfl) (hst : (assignEach es X.env).findIdx? (·.1) = none := by rfl) : SG X cl kp (.Tuple es k pos) (gUnp gs) := by
  refine PG.imp (PG.or (pg_tup hc h hn hst) (pg_unl hc h hn hst)) fun v σ H Q hw => ?_
  obtain ⟨O, L, Lw, ρ, w, ρ', env, r, nd, c, q⟩ := hw
  have ndd := List.nodup_append.mp nd
  have rD : RepD ⟨X.K, cl⟩ H (Less O Lw) (frz w) v := RepW.frz w v Lw (fun a z => ⟨z.1, z.2⟩) r
  have env' : EnvR ⟨X.K, cl⟩ H (Less O Lw) ρ σ L := env.less fun a ha z => ndd.2.2 a ha a z rfl
  have fin : ∀ σ' H' O' L', PostS ⟨X.K, cl⟩ kp σ H (Less O Lw) L ρ' σ' H' O' L' [] → Q σ' H' := fun σ' H' O' L' P => q σ' H' O' L' ⟨P.env, P.nd, P.st.give, P.kp, P.ln⟩
  unfold gUnp at c
  split at c
  · rename_i ds e
    rw [e] at rD
    obtain ⟨a, xs, e1, tp, rs⟩ := rD
    exact .inl ⟨a, xs, e1, tp.sq, by rw [rs.length]; exact hl _ _ _ c, Less O Lw, L, ρ, ds, ρ', env', rs, ndd.1, c, fin⟩
  · rename_i ds e
    rw [e] at rD
    obtain ⟨a, xs, e1, h1, n1, rs⟩ := rD
    exact .inr ⟨a, xs, e1, .inl (.inl h1), by rw [rs.length]; exact hl _ _ _ c, Less O Lw, L, ρ, ds, ρ', env', rs, ndd.1, c, fin⟩
  · cases c
end Mi
namespace Mi
open PySem PySem.Spec PyProof.Rows L2
def cBinF (f : W → W → Res W) (q : Bool) (ca cb : CE) : CE := fun ρ => (ca ρ).bind fun (a, ρ1) => (pend q a).bind fun _ => (cb ρ1).bind fun (b, ρ2) => (chk (Mi.flatB b)).bind fun _ => (take a ρ2).bind fun (x, ρ3) => (cont b ρ3).bind fun y => (f (.fz (frz x)) y).bind fun w => .ok (.tmp w, ρ3)
theorem binF_core {C : Cfg} {r : R2} {f : W → W → Res W} {qa qb : Bool} {ca cb : CE} (hs : OpS C r f) {σ : Sg} {H : Hp} {Q : VK} (h : tE C false (cBinF f qb ca cb) σ H Q) : tOp r (tE C qa ca) (tE C qb cb) σ H Q := by
  obtain ⟨O, L, ρ, b0, ρ', env, nd, c, q⟩ := h
  obtain ⟨⟨a, ρ1⟩, c1, c⟩ := Res.of_bind c
  obtain ⟨⟨⟩, c2, c⟩ := Res.of_bind c
  obtain ⟨⟨b, ρ2⟩, c3, c⟩ := Res.of_bind c
  obtain ⟨_, c0, c⟩ := Res.of_bind c
  obtain ⟨⟨x, ρ3⟩, c4, c⟩ := Res.of_bind c
  obtain ⟨y, c5, c⟩ := Res.of_bind c
  obtain ⟨w, c6, c⟩ := Res.of_bind c
  cases c
  have fb := chk_ok c0
  refine ⟨O, L, ρ, a, ρ1, env, nd, c1, fun va H1 O1 L1 La P1 => ?_⟩
  have own1 : ∀ z ∈ L1, O1 z := fun z hz => (P1.env.own z hz).1
  refine ⟨O1, L1, ρ1, b, ρ2, P1.env, (List.nodup_append.mp P1.nd).1, c3, fun vb H2 O2 L2 Lb P2 => ?_⟩
  obtain ⟨ba, nd2⟩ := P1.br.pend own1 P1.nd P2 c2
  -- (L2 ++ Lb) ++ La
  have nA := List.nodup_append.mp nd2
  have nB := List.nodup_append.mp nA.1
  have ndA : (L2 ++ La).Nodup := List.nodup_append.mpr ⟨nB.1, nA.2.1, fun a ha b hb e => nA.2.2 a (by simp [ha]) b hb e⟩
  obtain ⟨O3, L3, Lw, g1, g2, g3, g4, g5, g6⟩ := take_rep ba P2.env ndA c4
  have dB : ∀ z ∈ Lb, z ∉ L2 ++ La := fun z hz q => by
    rcases List.mem_append.mp q with q | q
    · exact nB.2.2 z q z hz rfl
    · exact nA.2.2 z (by simp [hz]) z q rfl
  have ownB : ∀ z ∈ Lb, O2 z := by
    intro z hz
    cases b with
    | tmp wb => exact (RepW.own wb vb Lb P2.br z hz).1
    | bor i p => obtain ⟨e, _⟩ := P2.br; rw [e] at hz; simp at hz
  have kB : KeepL H2 O2 H2 O3 Lb := ⟨fun z o e n => ⟨e, fun q => n (g4 z q)⟩, fun z hz o e => ⟨e, g6 z (ownB z hz) (dB z hz)⟩⟩
  have bb : BR C H2 O3 ρ' σ b vb Lb := BR.keep fb P2.br kB
  have ndd := List.nodup_append.mp g3
  have d3 : ∀ z ∈ L3, z ∉ Lb ++ Lw := fun z hz q => by
    rcases List.mem_append.mp q with q | q
    · exact dB z q (g5 z (by simp [hz]))
    · exact ndd.2.2 z hz z q rfl
  have nd4 : (L3 ++ (Lb ++ Lw)).Nodup := List.nodup_append.mpr ⟨ndd.1, List.nodup_append.mpr ⟨nB.2.1, ndd.2.1, fun a ha b hb e => by subst e; exact dB a ha (g5 a (by simp [hb]))⟩, fun a ha b hb e => by subst e; exact d3 a ha hb⟩
  obtain ⟨Ly, ry, _⟩ := cont_rep (T := Lb ++ Lw) bb g1 ndd.1 d3 (fun z hz => by simp [hz]) c5
  have rx : RepD C H2 (Less O3 (Lb ++ Lw)) (frz x) va := RepW.frz x va Lw (fun a q => ⟨q.1, fun z => q.2 (by simp [z])⟩) g2
  refine hs H2 (Less O3 (Lb ++ Lw)) va vb (.fz (frz x)) y w [] Ly _ ⟨rfl, rx⟩ ry c6 fun v H' O' Lw' rw' g => ?_
  refine q v H' O' L3 Lw' (post_of g1 nd4 ?_ (fun hq => by cases hq) g rw')
  refine (P1.st.trans (P2.st.frame La)).trans (Stp.ofO g4 (fun z hz => ?_) (fun z q n => g6 z q fun k => n ?_))
  · rcases List.mem_append.mp hz with hz | hz
    · have := g5 z (by simp [hz])
      rcases List.mem_append.mp this with k | k <;> simp [k]
    · rcases List.mem_append.mp hz with hz | hz
      · simp [hz]
      · have := g5 z (by simp [hz])
        rcases List.mem_append.mp this with k | k <;> simp [k]
  · rcases List.mem_append.mp k with k | k <;> simp [k]
section
variable {X : Cx} {cl : Nat → Addr} {a b : Expr} {ca cb : CE} {qa qb : Bool} {pos : Pos}
theorem se_binF {op : Operator} {r : R2} {f : W → W → Res W} (ho : OpR X (binaryOp op) r) (hs : OpS ⟨X.K, cl⟩ r f) (ha : SE X cl qa a ca) (hb : SE X cl qb b cb) : SE X cl false (.BinOp a op b pos) (cBinF f qb ca cb) :=
  PE.imp (pe_op ho ha hb) fun σ H Q h => binF_core hs h
end
def chain (l : List CS) (z : CS) : CS := l.foldr cSeq z
end Mi
namespace Mi
open PySem PySem.Spec PyProof.Rows L2
def mutS (i : Nat) (p : List Nat) (k : Int) (w : W) (ρ : En) : Res En := mutP i p (fun ws => match ixN ws.length k with
    | some j => some (ws.set j w)
    | none => none) ρ
def mutA (i : Nat) (p : List Nat) (w : W) (ρ : En) : Res En := mutP i p (fun ws => if ws.length < 16777216 then some (ws ++ [w]) else none) ρ
def fzT (b : B) (ρ : En) : Res (W × En) := (take b ρ).bind fun (w, ρ') => .ok (.fz (frz w), ρ')
def backs1 (io : KP) (n : Nat) (w x : W) : Res W := if io n = true then .ok x else match w with
    | .fz d => .ok (.fz d)
    | .lst _ => .err
    | .ob _ _ => .err
    | .di _ => .err
def lcT (vs : List Nat) (g : CG) (ct : CT) (ce : CE) (dl : List D) (ρ : En) : Res (List W × En) := (ce ρ).bind fun (b, ρc) => (take b ρc).bind fun (w, ρd) => (lcL vs g ct ce dl (wipeE ρd vs)).bind fun (ws, ρ') => .ok (w :: ws, ρ')
def kbin5 (op : W → W → Res W) (q : Bool) (ca : CE) (cb : CE) (ρ : En) (a : B) (ρ1 : En) (u : Unit) (b : B) (ρ2 : En) (x : W) (y : W) : (W) → Res (B × En) := fun z => match z with
  | w => .ok (.tmp w, ρ2)
def kbin4 (op : W → W → Res W) (q : Bool) (ca : CE) (cb : CE) (ρ : En) (a : B) (ρ1 : En) (u : Unit) (b : B) (ρ2 : En) (x : W) : (W) → Res (B × En) := fun z => match z with
  | y => (op x y).bind (kbin5 op q ca cb ρ a ρ1 u b ρ2 x y)
def kbin3 (op : W → W → Res W) (q : Bool) (ca : CE) (cb : CE) (ρ : En) (a : B) (ρ1 : En) (u : Unit) (b : B) (ρ2 : En) : (W) → Res (B × En) := fun z => match z with
  | x => (cont b ρ2).bind (kbin4 op q ca cb ρ a ρ1 u b ρ2 x)
def kbin2 (op : W → W → Res W) (q : Bool) (ca : CE) (cb : CE) (ρ : En) (a : B) (ρ1 : En) (u : Unit) : (B) × (En) → Res (B × En) := fun z => match z with
  | (b, ρ2) => (cont a ρ2).bind (kbin3 op q ca cb ρ a ρ1 u b ρ2)
def kbin1 (op : W → W → Res W) (q : Bool) (ca : CE) (cb : CE) (ρ : En) (a : B) (ρ1 : En) : (Unit) → Res (B × En) := fun z => match z with
  | u => (cb ρ1).bind (kbin2 op q ca cb ρ a ρ1 u)
def kbin0 (op : W → W → Res W) (q : Bool) (ca : CE) (cb : CE) (ρ : En) : (B) × (En) → Res (B × En) := fun z => match z with
  | (a, ρ1) => (pend q a).bind (kbin1 op q ca cb ρ a ρ1)
theorem v_bin6 {op : W → W → Res W} {q : Bool} {ca : CE} {cb : CE} {ρ : En} {a : B} {ρ1 : En} {u : Unit} {b : B} {ρ2 : En} {x : W} {y : W} {w : W} : kbin5 op q ca cb ρ a ρ1 u b ρ2 x y w = .ok (.tmp w, ρ2) := rfl
theorem v_bin5 {op : W → W → Res W} {q : Bool} {ca : CE} {cb : CE} {ρ : En} {a : B} {ρ1 : En} {u : Unit} {b : B} {ρ2 : En} {x : W} {y : W} : kbin4 op q ca cb ρ a ρ1 u b ρ2 x y = (op x y).bind (kbin5 op q ca cb ρ a ρ1 u b ρ2 x y) := rfl
theorem v_bin4 {op : W → W → Res W} {q : Bool} {ca : CE} {cb : CE} {ρ : En} {a : B} {ρ1 : En} {u : Unit} {b : B} {ρ2 : En} {x : W} : kbin3 op q ca cb ρ a ρ1 u b ρ2 x = (cont b ρ2).bind (kbin4 op q ca cb ρ a ρ1 u b ρ2 x) := rfl
theorem v_bin3 {op : W → W → Res W} {q : Bool} {ca : CE} {cb : CE} {ρ : En} {a : B} {ρ1 : En} {u : Unit} {b : B} {ρ2 : En} : kbin2 op q ca cb ρ a ρ1 u (b, ρ2) = (cont a ρ2).bind (kbin3 op q ca cb ρ a ρ1 u b ρ2) := rfl
theorem v_bin2 {op : W → W → Res W} {q : Bool} {ca : CE} {cb : CE} {ρ : En} {a : B} {ρ1 : En} {u : Unit} : kbin1 op q ca cb ρ a ρ1 u = (cb ρ1).bind (kbin2 op q ca cb ρ a ρ1 u) := rfl
theorem v_bin1 {op : W → W → Res W} {q : Bool} {ca : CE} {cb : CE} {ρ : En} {a : B} {ρ1 : En} : kbin0 op q ca cb ρ (a, ρ1) = (pend q a).bind (kbin1 op q ca cb ρ a ρ1) := rfl
theorem v_bin {op : W → W → Res W} {q : Bool} {ca : CE} {cb : CE} {ρ : En} : cBin op q ca cb ρ = (ca ρ).bind (kbin0 op q ca cb ρ) := rfl
def kun2 (un : W → Res W) (ca : CE) (ρ : En) (a : B) (ρ1 : En) (x : W) : (W) → Res (B × En) := fun z => match z with
  | w => .ok (.tmp w, ρ1)
def kun1 (un : W → Res W) (ca : CE) (ρ : En) (a : B) (ρ1 : En) : (W) → Res (B × En) := fun z => match z with
  | x => (un x).bind (kun2 un ca ρ a ρ1 x)
def kun0 (un : W → Res W) (ca : CE) (ρ : En) : (B) × (En) → Res (B × En) := fun z => match z with
  | (a, ρ1) => (cont a ρ1).bind (kun1 un ca ρ a ρ1)
theorem v_un3 {un : W → Res W} {ca : CE} {ρ : En} {a : B} {ρ1 : En} {x : W} {w : W} : kun2 un ca ρ a ρ1 x w = .ok (.tmp w, ρ1) := rfl
theorem v_un2 {un : W → Res W} {ca : CE} {ρ : En} {a : B} {ρ1 : En} {x : W} : kun1 un ca ρ a ρ1 x = (un x).bind (kun2 un ca ρ a ρ1 x) := rfl
theorem v_un1 {un : W → Res W} {ca : CE} {ρ : En} {a : B} {ρ1 : En} : kun0 un ca ρ (a, ρ1) = (cont a ρ1).bind (kun1 un ca ρ a ρ1) := rfl
theorem v_un {un : W → Res W} {ca : CE} {ρ : En} : cUn un ca ρ = (ca ρ).bind (kun0 un ca ρ) := rfl
def ktest1 (ce : CE) (ρ : En) (b : B) (ρ1 : En) : (Bool) → Res (Bool × En) := fun z => match z with
  | k => .ok (k, ρ1)
def ktest0 (ce : CE) (ρ : En) : (B) × (En) → Res (Bool × En) := fun z => match z with
  | (b, ρ1) => (boolOf b).bind (ktest1 ce ρ b ρ1)
theorem v_test2 {ce : CE} {ρ : En} {b : B} {ρ1 : En} {k : Bool} : ktest1 ce ρ b ρ1 k = .ok (k, ρ1) := rfl
theorem v_test1 {ce : CE} {ρ : En} {b : B} {ρ1 : En} : ktest0 ce ρ (b, ρ1) = (boolOf b).bind (ktest1 ce ρ b ρ1) := rfl
theorem v_test {ce : CE} {ρ : En} : cTest ce ρ = (ce ρ).bind (ktest0 ce ρ) := rfl
def kcons2 (q : Bool) (ca : CE) (cbs : CBs) (ρ : En) (a : B) (ρ1 : En) (b : B) (ρ2 : En) : (List B) × (En) → Res (List B × En) := fun z => match z with
  | (bs, ρ3) => .ok (b :: bs, ρ3)
def kcons1 (q : Bool) (ca : CE) (cbs : CBs) (ρ : En) (a : B) (ρ1 : En) : (B) × (En) → Res (List B × En) := fun z => match z with
  | (b, ρ2) => (cbs ρ2).bind (kcons2 q ca cbs ρ a ρ1 b ρ2)
def kcons0 (q : Bool) (ca : CE) (cbs : CBs) (ρ : En) : (B) × (En) → Res (List B × En) := fun z => match z with
  | (a, ρ1) => (early q a ρ1).bind (kcons1 q ca cbs ρ a ρ1)
theorem v_cons3 {q : Bool} {ca : CE} {cbs : CBs} {ρ : En} {a : B} {ρ1 : En} {b : B} {ρ2 : En} {bs : List B} {ρ3 : En} : kcons2 q ca cbs ρ a ρ1 b ρ2 (bs, ρ3) = .ok (b :: bs, ρ3) := rfl
theorem v_cons2 {q : Bool} {ca : CE} {cbs : CBs} {ρ : En} {a : B} {ρ1 : En} {b : B} {ρ2 : En} : kcons1 q ca cbs ρ a ρ1 (b, ρ2) = (cbs ρ2).bind (kcons2 q ca cbs ρ a ρ1 b ρ2) := rfl
theorem v_cons1 {q : Bool} {ca : CE} {cbs : CBs} {ρ : En} {a : B} {ρ1 : En} : kcons0 q ca cbs ρ (a, ρ1) = (early q a ρ1).bind (kcons1 q ca cbs ρ a ρ1) := rfl
theorem v_cons {q : Bool} {ca : CE} {cbs : CBs} {ρ : En} : cCons q ca cbs ρ = (ca ρ).bind (kcons0 q ca cbs ρ) := rfl
def kstar3 (ca : CE) (cbs : CBs) (ρ : En) (a : B) (ρ1 : En) (x : W) (ds : List D) : (List B) × (En) → Res (List B × En) := fun z => match z with
  | (bs, ρ2) => .ok (ds.map (fun d => B.tmp (.fz d)) ++ bs, ρ2)
def kstar2 (ca : CE) (cbs : CBs) (ρ : En) (a : B) (ρ1 : En) (x : W) : (List D) → Res (List B × En) := fun z => match z with
  | ds => (cbs ρ1).bind (kstar3 ca cbs ρ a ρ1 x ds)
def kstar1 (ca : CE) (cbs : CBs) (ρ : En) (a : B) (ρ1 : En) : (W) → Res (List B × En) := fun z => match z with
  | x => (Res.of (seqV x)).bind (kstar2 ca cbs ρ a ρ1 x)
def kstar0 (ca : CE) (cbs : CBs) (ρ : En) : (B) × (En) → Res (List B × En) := fun z => match z with
  | (a, ρ1) => (cont a ρ1).bind (kstar1 ca cbs ρ a ρ1)
theorem v_star4 {ca : CE} {cbs : CBs} {ρ : En} {a : B} {ρ1 : En} {x : W} {ds : List D} {bs : List B} {ρ2 : En} : kstar3 ca cbs ρ a ρ1 x ds (bs, ρ2) = .ok (ds.map (fun d => B.tmp (.fz d)) ++ bs, ρ2) := rfl
theorem v_star3 {ca : CE} {cbs : CBs} {ρ : En} {a : B} {ρ1 : En} {x : W} {ds : List D} : kstar2 ca cbs ρ a ρ1 x ds = (cbs ρ1).bind (kstar3 ca cbs ρ a ρ1 x ds) := rfl
theorem v_star2 {ca : CE} {cbs : CBs} {ρ : En} {a : B} {ρ1 : En} {x : W} : kstar1 ca cbs ρ a ρ1 x = (Res.of (seqV x)).bind (kstar2 ca cbs ρ a ρ1 x) := rfl
theorem v_star1 {ca : CE} {cbs : CBs} {ρ : En} {a : B} {ρ1 : En} : kstar0 ca cbs ρ (a, ρ1) = (cont a ρ1).bind (kstar1 ca cbs ρ a ρ1) := rfl
theorem v_star {ca : CE} {cbs : CBs} {ρ : En} : cStar ca cbs seqV ρ = (ca ρ).bind (kstar0 ca cbs ρ) := rfl
def ktup3 (q : Bool) (cbs : CBs) (ρ : En) (bs : List B) (ρ1 : En) (u : Unit) (ws : List W) (ρ2 : En) : (Unit) → Res (B × En) := fun z => match z with
  | u2 => .ok (.tmp (.fz (.tup (frzs ws))), ρ2)
def ktup2 (q : Bool) (cbs : CBs) (ρ : En) (bs : List B) (ρ1 : En) (u : Unit) : (List W) × (En) → Res (B × En) := fun z => match z with
  | (ws, ρ2) => (chk (decide (ws.length ≤ 16777216))).bind (ktup3 q cbs ρ bs ρ1 u ws ρ2)
def ktup1 (q : Bool) (cbs : CBs) (ρ : En) (bs : List B) (ρ1 : En) : (Unit) → Res (B × En) := fun z => match z with
  | u => (takes bs ρ1).bind (ktup2 q cbs ρ bs ρ1 u)
def ktup0 (q : Bool) (cbs : CBs) (ρ : En) : (List B) × (En) → Res (B × En) := fun z => match z with
  | (bs, ρ1) => (chk (shut q bs)).bind (ktup1 q cbs ρ bs ρ1)
theorem v_tup3 {q : Bool} {cbs : CBs} {ρ : En} {bs : List B} {ρ1 : En} {u : Unit} {ws : List W} {ρ2 : En} : ktup2 q cbs ρ bs ρ1 u (ws, ρ2) = (chk (decide (ws.length ≤ 16777216))).bind (ktup3 q cbs ρ bs ρ1 u ws ρ2) := rfl
theorem v_tup2 {q : Bool} {cbs : CBs} {ρ : En} {bs : List B} {ρ1 : En} {u : Unit} : ktup1 q cbs ρ bs ρ1 u = (takes bs ρ1).bind (ktup2 q cbs ρ bs ρ1 u) := rfl
theorem v_tup1 {q : Bool} {cbs : CBs} {ρ : En} {bs : List B} {ρ1 : En} : ktup0 q cbs ρ (bs, ρ1) = (chk (shut q bs)).bind (ktup1 q cbs ρ bs ρ1) := rfl
theorem v_tup {q : Bool} {cbs : CBs} {ρ : En} : cTup q cbs ρ = (cbs ρ).bind (ktup0 q cbs ρ) := rfl
def klst3 (q : Bool) (cbs : CBs) (ρ : En) (bs : List B) (ρ1 : En) (u : Unit) (ws : List W) (ρ2 : En) : (Unit) → Res (B × En) := fun z => match z with
  | u2 => .ok (.tmp (.lst ws), ρ2)
def klst2 (q : Bool) (cbs : CBs) (ρ : En) (bs : List B) (ρ1 : En) (u : Unit) : (List W) × (En) → Res (B × En) := fun z => match z with
  | (ws, ρ2) => (chk (decide (ws.length ≤ 16777216))).bind (klst3 q cbs ρ bs ρ1 u ws ρ2)
def klst1 (q : Bool) (cbs : CBs) (ρ : En) (bs : List B) (ρ1 : En) : (Unit) → Res (B × En) := fun z => match z with
  | u => (takes bs ρ1).bind (klst2 q cbs ρ bs ρ1 u)
def klst0 (q : Bool) (cbs : CBs) (ρ : En) : (List B) × (En) → Res (B × En) := fun z => match z with
  | (bs, ρ1) => (chk (shut q bs)).bind (klst1 q cbs ρ bs ρ1)
theorem v_lst3 {q : Bool} {cbs : CBs} {ρ : En} {bs : List B} {ρ1 : En} {u : Unit} {ws : List W} {ρ2 : En} : klst2 q cbs ρ bs ρ1 u (ws, ρ2) = (chk (decide (ws.length ≤ 16777216))).bind (klst3 q cbs ρ bs ρ1 u ws ρ2) := rfl
theorem v_lst2 {q : Bool} {cbs : CBs} {ρ : En} {bs : List B} {ρ1 : En} {u : Unit} : klst1 q cbs ρ bs ρ1 u = (takes bs ρ1).bind (klst2 q cbs ρ bs ρ1 u) := rfl
theorem v_lst1 {q : Bool} {cbs : CBs} {ρ : En} {bs : List B} {ρ1 : En} : klst0 q cbs ρ (bs, ρ1) = (chk (shut q bs)).bind (klst1 q cbs ρ bs ρ1) := rfl
theorem v_lst {q : Bool} {cbs : CBs} {ρ : En} : cLst q cbs ρ = (cbs ρ).bind (klst0 q cbs ρ) := rfl
def kcallB2 (fl : List W → Res W) (cbs : CBs) (ρ : En) (bs : List B) (ρ1 : En) (ws : List W) : (W) → Res (B × En) := fun z => match z with
  | w => .ok (.tmp w, ρ1)
def kcallB1 (fl : List W → Res W) (cbs : CBs) (ρ : En) (bs : List B) (ρ1 : En) : (List W) → Res (B × En) := fun z => match z with
  | ws => (fl ws).bind (kcallB2 fl cbs ρ bs ρ1 ws)
def kcallB0 (fl : List W → Res W) (cbs : CBs) (ρ : En) : (List B) × (En) → Res (B × En) := fun z => match z with
  | (bs, ρ1) => (conts bs ρ1).bind (kcallB1 fl cbs ρ bs ρ1)
theorem v_callB3 {fl : List W → Res W} {cbs : CBs} {ρ : En} {bs : List B} {ρ1 : En} {ws : List W} {w : W} : kcallB2 fl cbs ρ bs ρ1 ws w = .ok (.tmp w, ρ1) := rfl
theorem v_callB2 {fl : List W → Res W} {cbs : CBs} {ρ : En} {bs : List B} {ρ1 : En} {ws : List W} : kcallB1 fl cbs ρ bs ρ1 ws = (fl ws).bind (kcallB2 fl cbs ρ bs ρ1 ws) := rfl
theorem v_callB1 {fl : List W → Res W} {cbs : CBs} {ρ : En} {bs : List B} {ρ1 : En} : kcallB0 fl cbs ρ (bs, ρ1) = (conts bs ρ1).bind (kcallB1 fl cbs ρ bs ρ1) := rfl
theorem v_callB {fl : List W → Res W} {cbs : CBs} {ρ : En} : cCallB fl cbs ρ = (cbs ρ).bind (kcallB0 fl cbs ρ) := rfl
def kandT0 (ct : CT) (ct2 : CT) (ρ : En) : (Bool) × (En) → Res (Bool × En) := fun z => match z with
  | (k, ρ1) => if k = true then ct2 ρ1 else .ok (false, ρ1)
theorem v_andT1 {ct : CT} {ct2 : CT} {ρ : En} {k : Bool} {ρ1 : En} : kandT0 ct ct2 ρ (k, ρ1) = if k = true then ct2 ρ1 else .ok (false, ρ1) := rfl
theorem v_andT {ct : CT} {ct2 : CT} {ρ : En} : cAndT ct ct2 ρ = (ct ρ).bind (kandT0 ct ct2 ρ) := rfl
def korT0 (ct : CT) (ct2 : CT) (ρ : En) : (Bool) × (En) → Res (Bool × En) := fun z => match z with
  | (k, ρ1) => if k = true then .ok (true, ρ1) else ct2 ρ1
theorem v_orT1 {ct : CT} {ct2 : CT} {ρ : En} {k : Bool} {ρ1 : En} : korT0 ct ct2 ρ (k, ρ1) = if k = true then .ok (true, ρ1) else ct2 ρ1 := rfl
theorem v_orT {ct : CT} {ct2 : CT} {ρ : En} : cOrT ct ct2 ρ = (ct ρ).bind (korT0 ct ct2 ρ) := rfl
def knotT0 (ct : CT) (ρ : En) : (Bool) × (En) → Res (Bool × En) := fun z => match z with
  | (k, ρ1) => .ok (!k, ρ1)
theorem v_notT1 {ct : CT} {ρ : En} {k : Bool} {ρ1 : En} : knotT0 ct ρ (k, ρ1) = .ok (!k, ρ1) := rfl
theorem v_notT {ct : CT} {ρ : En} : cNotT ct ρ = (ct ρ).bind (knotT0 ct ρ) := rfl
def kand1 (ca : CE) (cb : CE) (ρ : En) (a : B) (ρ1 : En) : (Bool) → Res (B × En) := fun z => match z with
  | k => if k = true then cb ρ1 else .ok (.tmp (.fz (.bl false)), ρ1)
def kand0 (ca : CE) (cb : CE) (ρ : En) : (B) × (En) → Res (B × En) := fun z => match z with
  | (a, ρ1) => (boolOf a).bind (kand1 ca cb ρ a ρ1)
theorem v_and2 {ca : CE} {cb : CE} {ρ : En} {a : B} {ρ1 : En} {k : Bool} : kand1 ca cb ρ a ρ1 k = if k = true then cb ρ1 else .ok (.tmp (.fz (.bl false)), ρ1) := rfl
theorem v_and1 {ca : CE} {cb : CE} {ρ : En} {a : B} {ρ1 : En} : kand0 ca cb ρ (a, ρ1) = (boolOf a).bind (kand1 ca cb ρ a ρ1) := rfl
theorem v_and {ca : CE} {cb : CE} {ρ : En} : cAnd ca cb ρ = (ca ρ).bind (kand0 ca cb ρ) := rfl
def kor1 (ca : CE) (cb : CE) (ρ : En) (a : B) (ρ1 : En) : (Bool) → Res (B × En) := fun z => match z with
  | k => if k = true then .ok (.tmp (.fz (.bl true)), ρ1) else cb ρ1
def kor0 (ca : CE) (cb : CE) (ρ : En) : (B) × (En) → Res (B × En) := fun z => match z with
  | (a, ρ1) => (boolOf a).bind (kor1 ca cb ρ a ρ1)
theorem v_or2 {ca : CE} {cb : CE} {ρ : En} {a : B} {ρ1 : En} {k : Bool} : kor1 ca cb ρ a ρ1 k = if k = true then .ok (.tmp (.fz (.bl true)), ρ1) else cb ρ1 := rfl
theorem v_or1 {ca : CE} {cb : CE} {ρ : En} {a : B} {ρ1 : En} : kor0 ca cb ρ (a, ρ1) = (boolOf a).bind (kor1 ca cb ρ a ρ1) := rfl
theorem v_or {ca : CE} {cb : CE} {ρ : En} : cOr ca cb ρ = (ca ρ).bind (kor0 ca cb ρ) := rfl
def knot1 (ca : CE) (ρ : En) (a : B) (ρ1 : En) : (Bool) → Res (B × En) := fun z => match z with
  | k => .ok (.tmp (.fz (.bl (!k))), ρ1)
def knot0 (ca : CE) (ρ : En) : (B) × (En) → Res (B × En) := fun z => match z with
  | (a, ρ1) => (boolOf a).bind (knot1 ca ρ a ρ1)
theorem v_not2 {ca : CE} {ρ : En} {a : B} {ρ1 : En} {k : Bool} : knot1 ca ρ a ρ1 k = .ok (.tmp (.fz (.bl (!k))), ρ1) := rfl
theorem v_not1 {ca : CE} {ρ : En} {a : B} {ρ1 : En} : knot0 ca ρ (a, ρ1) = (boolOf a).bind (knot1 ca ρ a ρ1) := rfl
theorem v_not {ca : CE} {ρ : En} : cNot ca ρ = (ca ρ).bind (knot0 ca ρ) := rfl
def kif0 (ct : CT) (ca : CE) (cb : CE) (ρ : En) : (Bool) × (En) → Res (B × En) := fun z => match z with
  | (k, ρ1) => if k = true then ca ρ1 else cb ρ1
theorem v_if1 {ct : CT} {ca : CE} {cb : CE} {ρ : En} {k : Bool} {ρ1 : En} : kif0 ct ca cb ρ (k, ρ1) = if k = true then ca ρ1 else cb ρ1 := rfl
theorem v_if {ct : CT} {ca : CE} {cb : CE} {ρ : En} : cIf ct ca cb ρ = (ct ρ).bind (kif0 ct ca cb ρ) := rfl
def korL0 (ca : CE) (cb : CE) (ρ : En) : (B) × (En) → Res (B × En) := fun z => match z with
  | (a, ρ1) => match a with
      | .tmp (.lst ws) => if ws.isEmpty = true then cb ρ1 else .ok (.tmp (.lst ws), ρ1)
      | _ => .err
theorem v_orL1 {ca : CE} {cb : CE} {ρ : En} {a : B} {ρ1 : En} : korL0 ca cb ρ (a, ρ1) = match a with
  | .tmp (.lst ws) => if ws.isEmpty = true then cb ρ1 else .ok (.tmp (.lst ws), ρ1)
  | _ => .err := rfl
theorem v_orL {ca : CE} {cb : CE} {ρ : En} : cOrL ca cb ρ = (ca ρ).bind (korL0 ca cb ρ) := rfl
def kseq0 (c1 : CS) (c2 : CS) (ρ : En) : (Fl) × (En) → Res (Fl × En) := fun z => match z with
  | (f, ρ1) => match f with
      | .nx => c2 ρ1
      | f => .ok (f, ρ1)
theorem v_seq1 {c1 : CS} {c2 : CS} {ρ : En} {f : Fl} {ρ1 : En} : kseq0 c1 c2 ρ (f, ρ1) = match f with
  | .nx => c2 ρ1
  | f => .ok (f, ρ1) := rfl
theorem v_seq {c1 : CS} {c2 : CS} {ρ : En} : cSeq c1 c2 ρ = (c1 ρ).bind (kseq0 c1 c2 ρ) := rfl
def kifS0 (ct : CT) (c1 : CS) (c2 : CS) (ρ : En) : (Bool) × (En) → Res (Fl × En) := fun z => match z with
  | (k, ρ1) => if k = true then c1 ρ1 else c2 ρ1
theorem v_ifS1 {ct : CT} {c1 : CS} {c2 : CS} {ρ : En} {k : Bool} {ρ1 : En} : kifS0 ct c1 c2 ρ (k, ρ1) = if k = true then c1 ρ1 else c2 ρ1 := rfl
theorem v_ifS {ct : CT} {c1 : CS} {c2 : CS} {ρ : En} : cIfS ct c1 c2 ρ = (ct ρ).bind (kifS0 ct c1 c2 ρ) := rfl
def kret1 (ce : CE) (ρ : En) (b : B) (ρ1 : En) : (W) × (En) → Res (Fl × En) := fun z => match z with
  | (w, ρ2) => .ok (.ret w, ρ2)
def kret0 (ce : CE) (ρ : En) : (B) × (En) → Res (Fl × En) := fun z => match z with
  | (b, ρ1) => (move b ρ1).bind (kret1 ce ρ b ρ1)
theorem v_ret2 {ce : CE} {ρ : En} {b : B} {ρ1 : En} {w : W} {ρ2 : En} : kret1 ce ρ b ρ1 (w, ρ2) = .ok (.ret w, ρ2) := rfl
theorem v_ret1 {ce : CE} {ρ : En} {b : B} {ρ1 : En} : kret0 ce ρ (b, ρ1) = (move b ρ1).bind (kret1 ce ρ b ρ1) := rfl
theorem v_ret {ce : CE} {ρ : En} : cRet ce ρ = (ce ρ).bind (kret0 ce ρ) := rfl
def kdrop0 (ce : CE) (ρ : En) : (B) × (En) → Res (Fl × En) := fun z => match z with
  | (b, ρ1) => .ok (.nx, ρ1)
theorem v_drop1 {ce : CE} {ρ : En} {b : B} {ρ1 : En} : kdrop0 ce ρ (b, ρ1) = .ok (.nx, ρ1) := rfl
theorem v_drop {ce : CE} {ρ : En} : cDrop ce ρ = (ce ρ).bind (kdrop0 ce ρ) := rfl
def kasg2 (g : CG) (ce : CE) (ρ : En) (b : B) (ρ1 : En) (w : W) (ρ2 : En) : (En) → Res (Fl × En) := fun z => match z with
  | ρ3 => .ok (.nx, ρ3)
def kasg1 (g : CG) (ce : CE) (ρ : En) (b : B) (ρ1 : En) : (W) × (En) → Res (Fl × En) := fun z => match z with
  | (w, ρ2) => (g w ρ2).bind (kasg2 g ce ρ b ρ1 w ρ2)
def kasg0 (g : CG) (ce : CE) (ρ : En) : (B) × (En) → Res (Fl × En) := fun z => match z with
  | (b, ρ1) => (take b ρ1).bind (kasg1 g ce ρ b ρ1)
theorem v_asg3 {g : CG} {ce : CE} {ρ : En} {b : B} {ρ1 : En} {w : W} {ρ2 : En} {ρ3 : En} : kasg2 g ce ρ b ρ1 w ρ2 ρ3 = .ok (.nx, ρ3) := rfl
theorem v_asg2 {g : CG} {ce : CE} {ρ : En} {b : B} {ρ1 : En} {w : W} {ρ2 : En} : kasg1 g ce ρ b ρ1 (w, ρ2) = (g w ρ2).bind (kasg2 g ce ρ b ρ1 w ρ2) := rfl
theorem v_asg1 {g : CG} {ce : CE} {ρ : En} {b : B} {ρ1 : En} : kasg0 g ce ρ (b, ρ1) = (take b ρ1).bind (kasg1 g ce ρ b ρ1) := rfl
theorem v_asg {g : CG} {ce : CE} {ρ : En} : cAsg g ce ρ = (ce ρ).bind (kasg0 g ce ρ) := rfl
def kgset0 (i : Nat) (w : W) (ρ : En) : (Unit) → Res (En) := fun z => match z with
  | u => .ok (ρ.set i (some w))
theorem v_gset1 {i : Nat} {w : W} {ρ : En} {u : Unit} : kgset0 i w ρ u = .ok (ρ.set i (some w)) := rfl
theorem v_gset {i : Nat} {w : W} {ρ : En} : gSet i w ρ = (chk (decide (i < ρ.length))).bind (kgset0 i w ρ) := rfl
def kgsub4 (q : Bool) (co : CE) (ci : CE) (w : W) (ρ : En) (b : B) (ρ1 : En) (u : Unit) (bi : B) (ρ2 : En) (j : Int) : (Nat) × (List Nat) → Res (En) := fun z => match z with
  | (i, p) => mutS i p j w ρ2
def kgsub3 (q : Bool) (co : CE) (ci : CE) (w : W) (ρ : En) (b : B) (ρ1 : En) (u : Unit) (bi : B) (ρ2 : En) : (Int) → Res (En) := fun z => match z with
  | j => (isPl b ρ2).bind (kgsub4 q co ci w ρ b ρ1 u bi ρ2 j)
def kgsub2 (q : Bool) (co : CE) (ci : CE) (w : W) (ρ : En) (b : B) (ρ1 : En) (u : Unit) : (B) × (En) → Res (En) := fun z => match z with
  | (bi, ρ2) => (intOf bi).bind (kgsub3 q co ci w ρ b ρ1 u bi ρ2)
def kgsub1 (q : Bool) (co : CE) (ci : CE) (w : W) (ρ : En) (b : B) (ρ1 : En) : (Unit) → Res (En) := fun z => match z with
  | u => (ci ρ1).bind (kgsub2 q co ci w ρ b ρ1 u)
def kgsub0 (q : Bool) (co : CE) (ci : CE) (w : W) (ρ : En) : (B) × (En) → Res (En) := fun z => match z with
  | (b, ρ1) => (pend q b).bind (kgsub1 q co ci w ρ b ρ1)
theorem v_gsub5 {q : Bool} {co : CE} {ci : CE} {w : W} {ρ : En} {b : B} {ρ1 : En} {u : Unit} {bi : B} {ρ2 : En} {j : Int} {i : Nat} {p : List Nat} : kgsub4 q co ci w ρ b ρ1 u bi ρ2 j (i, p) = mutS i p j w ρ2 := rfl
theorem v_gsub4 {q : Bool} {co : CE} {ci : CE} {w : W} {ρ : En} {b : B} {ρ1 : En} {u : Unit} {bi : B} {ρ2 : En} {j : Int} : kgsub3 q co ci w ρ b ρ1 u bi ρ2 j = (isPl b ρ2).bind (kgsub4 q co ci w ρ b ρ1 u bi ρ2 j) := rfl
theorem v_gsub3 {q : Bool} {co : CE} {ci : CE} {w : W} {ρ : En} {b : B} {ρ1 : En} {u : Unit} {bi : B} {ρ2 : En} : kgsub2 q co ci w ρ b ρ1 u (bi, ρ2) = (intOf bi).bind (kgsub3 q co ci w ρ b ρ1 u bi ρ2) := rfl
theorem v_gsub2 {q : Bool} {co : CE} {ci : CE} {w : W} {ρ : En} {b : B} {ρ1 : En} {u : Unit} : kgsub1 q co ci w ρ b ρ1 u = (ci ρ1).bind (kgsub2 q co ci w ρ b ρ1 u) := rfl
theorem v_gsub1 {q : Bool} {co : CE} {ci : CE} {w : W} {ρ : En} {b : B} {ρ1 : En} : kgsub0 q co ci w ρ (b, ρ1) = (pend q b).bind (kgsub1 q co ci w ρ b ρ1) := rfl
theorem v_gsub {q : Bool} {co : CE} {ci : CE} {w : W} {ρ : En} : gSub q co ci w ρ = (co ρ).bind (kgsub0 q co ci w ρ) := rfl
def kgsc0 (g : CG) (gs : CGs) (d : D) (dl : List D) (ρ : En) : (En) → Res (En) := fun z => match z with
  | ρ1 => gs dl ρ1
theorem v_gsc1 {g : CG} {gs : CGs} {d : D} {dl : List D} {ρ : En} {ρ1 : En} : kgsc0 g gs d dl ρ ρ1 = gs dl ρ1 := rfl
theorem v_gsc {g : CG} {gs : CGs} {d : D} {dl : List D} {ρ : En} : gsCons g gs (d :: dl) ρ = (g (.fz d) ρ).bind (kgsc0 g gs d dl ρ) := rfl
def kgsn0 (dl : List D) (ρ : En) : (Unit) → Res (En) := fun z => match z with
  | u => .ok ρ
theorem v_gsn1 {dl : List D} {ρ : En} {u : Unit} : kgsn0 dl ρ u = .ok ρ := rfl
theorem v_gsn {dl : List D} {ρ : En} : gsNil dl ρ = (chk dl.isEmpty).bind (kgsn0 dl ρ) := rfl
def kfor0 (it : CI) (g : CG) (c1 : CS) (ρ : En) : (List D) × (En) → Res (Fl × En) := fun z => match z with
  | (ds, ρ1) => forL g c1 ds ρ1
theorem v_for1 {it : CI} {g : CG} {c1 : CS} {ρ : En} {ds : List D} {ρ1 : En} : kfor0 it g c1 ρ (ds, ρ1) = forL g c1 ds ρ1 := rfl
theorem v_for {it : CI} {g : CG} {c1 : CS} {ρ : En} : cFor it g c1 ρ = (it ρ).bind (kfor0 it g c1 ρ) := rfl
def kforc1 (g : CG) (c1 : CS) (d : D) (dl : List D) (ρ : En) (ρ1 : En) : (Fl) × (En) → Res (Fl × En) := fun z => match z with
  | (f, ρ2) => match f with
        | .nx => forL g c1 dl ρ2
        | .ct => forL g c1 dl ρ2
        | .bk => .ok (.nx, ρ2)
        | .ret w => .ok (.ret w, ρ2)
def kforc0 (g : CG) (c1 : CS) (d : D) (dl : List D) (ρ : En) : (En) → Res (Fl × En) := fun z => match z with
  | ρ1 => (c1 ρ1).bind (kforc1 g c1 d dl ρ ρ1)
theorem v_forc2 {g : CG} {c1 : CS} {d : D} {dl : List D} {ρ : En} {ρ1 : En} {f : Fl} {ρ2 : En} : kforc1 g c1 d dl ρ ρ1 (f, ρ2) = match f with
    | .nx => forL g c1 dl ρ2
    | .ct => forL g c1 dl ρ2
    | .bk => .ok (.nx, ρ2)
    | .ret w => .ok (.ret w, ρ2) := rfl
theorem v_forc1 {g : CG} {c1 : CS} {d : D} {dl : List D} {ρ : En} {ρ1 : En} : kforc0 g c1 d dl ρ ρ1 = (c1 ρ1).bind (kforc1 g c1 d dl ρ ρ1) := rfl
theorem v_forc {g : CG} {c1 : CS} {d : D} {dl : List D} {ρ : En} : forL g c1 (d :: dl) ρ = (g (.fz d) ρ).bind (kforc0 g c1 d dl ρ) := rfl
def klcc1 (vs : List Nat) (g : CG) (ct : CT) (ce : CE) (d : D) (dl : List D) (ρ : En) (ρ1 : En) : (Bool) × (En) → Res (List W × En) := fun z => match z with
  | (k, ρ2) => if k = true then lcT vs g ct ce dl ρ2 else lcL vs g ct ce dl (wipeE ρ2 vs)
def klcc0 (vs : List Nat) (g : CG) (ct : CT) (ce : CE) (d : D) (dl : List D) (ρ : En) : (En) → Res (List W × En) := fun z => match z with
  | ρ1 => (ct ρ1).bind (klcc1 vs g ct ce d dl ρ ρ1)
theorem v_lcc2 {vs : List Nat} {g : CG} {ct : CT} {ce : CE} {d : D} {dl : List D} {ρ : En} {ρ1 : En} {k : Bool} {ρ2 : En} : klcc1 vs g ct ce d dl ρ ρ1 (k, ρ2) = if k = true then lcT vs g ct ce dl ρ2 else lcL vs g ct ce dl (wipeE ρ2 vs) := rfl
theorem v_lcc1 {vs : List Nat} {g : CG} {ct : CT} {ce : CE} {d : D} {dl : List D} {ρ : En} {ρ1 : En} : klcc0 vs g ct ce d dl ρ ρ1 = (ct ρ1).bind (klcc1 vs g ct ce d dl ρ ρ1) := rfl
theorem v_lcc {vs : List Nat} {g : CG} {ct : CT} {ce : CE} {d : D} {dl : List D} {ρ : En} : lcL vs g ct ce (d :: dl) ρ = (g (.fz d) ρ).bind (klcc0 vs g ct ce d dl ρ) := rfl
def klcT2 (vs : List Nat) (g : CG) (ct : CT) (ce : CE) (dl : List D) (ρ : En) (b : B) (ρ1 : En) (w : W) (ρ2 : En) : (List W) × (En) → Res (List W × En) := fun z => match z with
  | (ws, ρ3) => .ok (w :: ws, ρ3)
def klcT1 (vs : List Nat) (g : CG) (ct : CT) (ce : CE) (dl : List D) (ρ : En) (b : B) (ρ1 : En) : (W) × (En) → Res (List W × En) := fun z => match z with
  | (w, ρ2) => (lcL vs g ct ce dl (wipeE ρ2 vs)).bind (klcT2 vs g ct ce dl ρ b ρ1 w ρ2)
def klcT0 (vs : List Nat) (g : CG) (ct : CT) (ce : CE) (dl : List D) (ρ : En) : (B) × (En) → Res (List W × En) := fun z => match z with
  | (b, ρ1) => (take b ρ1).bind (klcT1 vs g ct ce dl ρ b ρ1)
theorem v_lcT3 {vs : List Nat} {g : CG} {ct : CT} {ce : CE} {dl : List D} {ρ : En} {b : B} {ρ1 : En} {w : W} {ρ2 : En} {ws : List W} {ρ3 : En} : klcT2 vs g ct ce dl ρ b ρ1 w ρ2 (ws, ρ3) = .ok (w :: ws, ρ3) := rfl
theorem v_lcT2 {vs : List Nat} {g : CG} {ct : CT} {ce : CE} {dl : List D} {ρ : En} {b : B} {ρ1 : En} {w : W} {ρ2 : En} : klcT1 vs g ct ce dl ρ b ρ1 (w, ρ2) = (lcL vs g ct ce dl (wipeE ρ2 vs)).bind (klcT2 vs g ct ce dl ρ b ρ1 w ρ2) := rfl
theorem v_lcT1 {vs : List Nat} {g : CG} {ct : CT} {ce : CE} {dl : List D} {ρ : En} {b : B} {ρ1 : En} : klcT0 vs g ct ce dl ρ (b, ρ1) = (take b ρ1).bind (klcT1 vs g ct ce dl ρ b ρ1) := rfl
theorem v_lcT {vs : List Nat} {g : CG} {ct : CT} {ce : CE} {dl : List D} {ρ : En} : lcT vs g ct ce dl ρ = (ce ρ).bind (klcT0 vs g ct ce dl ρ) := rfl
def klc3 (vs : List Nat) (it : CI) (g : CG) (ct : CT) (ce : CE) (ρ : En) (ds : List D) (ρ1 : En) (u : Unit) (u2 : Unit) : (List W) × (En) → Res (B × En) := fun z => match z with
  | (ws, ρ2) => .ok (.tmp (.lst ws), restE ρ1 vs ρ2)
def klc2 (vs : List Nat) (it : CI) (g : CG) (ct : CT) (ce : CE) (ρ : En) (ds : List D) (ρ1 : En) (u : Unit) : (Unit) → Res (B × En) := fun z => match z with
  | u2 => (lcL vs g ct ce ds (wipeE ρ1 vs)).bind (klc3 vs it g ct ce ρ ds ρ1 u u2)
def klc1 (vs : List Nat) (it : CI) (g : CG) (ct : CT) (ce : CE) (ρ : En) (ds : List D) (ρ1 : En) : (Unit) → Res (B × En) := fun z => match z with
  | u => (chk (decide (ds.length ≤ 16777216))).bind (klc2 vs it g ct ce ρ ds ρ1 u)
def klc0 (vs : List Nat) (it : CI) (g : CG) (ct : CT) (ce : CE) (ρ : En) : (List D) × (En) → Res (B × En) := fun z => match z with
  | (ds, ρ1) => (chk (vs.all fun v => decide (v < ρ1.length))).bind (klc1 vs it g ct ce ρ ds ρ1)
theorem v_lc4 {vs : List Nat} {it : CI} {g : CG} {ct : CT} {ce : CE} {ρ : En} {ds : List D} {ρ1 : En} {u : Unit} {u2 : Unit} {ws : List W} {ρ2 : En} : klc3 vs it g ct ce ρ ds ρ1 u u2 (ws, ρ2) = .ok (.tmp (.lst ws), restE ρ1 vs ρ2) := rfl
theorem v_lc2 {vs : List Nat} {it : CI} {g : CG} {ct : CT} {ce : CE} {ρ : En} {ds : List D} {ρ1 : En} {u : Unit} : klc1 vs it g ct ce ρ ds ρ1 u = (chk (decide (ds.length ≤ 16777216))).bind (klc2 vs it g ct ce ρ ds ρ1 u) := rfl
theorem v_lc1 {vs : List Nat} {it : CI} {g : CG} {ct : CT} {ce : CE} {ρ : En} {ds : List D} {ρ1 : En} : klc0 vs it g ct ce ρ (ds, ρ1) = (chk (vs.all fun v => decide (v < ρ1.length))).bind (klc1 vs it g ct ce ρ ds ρ1) := rfl
theorem v_lc {vs : List Nat} {it : CI} {g : CG} {ct : CT} {ce : CE} {ρ : En} : cLc vs it g ct ce ρ = (it ρ).bind (klc0 vs it g ct ce ρ) := rfl
def kdef3 (np : Nat) (ns : Nat) (io : KP) (c1 : CS) (ws : List W) (u : Unit) (f : Fl) (ρ1 : En) (r : W) : (List W) → Res (W × List W) := fun z => match z with
  | bk => .ok (r, bk)
def kdef2 (np : Nat) (ns : Nat) (io : KP) (c1 : CS) (ws : List W) (u : Unit) (f : Fl) (ρ1 : En) : (W) → Res (W × List W) := fun z => match z with
  | r => (backs io 0 ws ρ1).bind (kdef3 np ns io c1 ws u f ρ1 r)
def kdef1 (np : Nat) (ns : Nat) (io : KP) (c1 : CS) (ws : List W) (u : Unit) : (Fl) × (En) → Res (W × List W) := fun z => match z with
  | (f, ρ1) => (retOf f).bind (kdef2 np ns io c1 ws u f ρ1)
def kdef0 (np : Nat) (ns : Nat) (io : KP) (c1 : CS) (ws : List W) : (Unit) → Res (W × List W) := fun z => match z with
  | u => (c1 (ws.map some ++ List.replicate (ns - np) none)).bind (kdef1 np ns io c1 ws u)
theorem v_def4 {np : Nat} {ns : Nat} {io : KP} {c1 : CS} {ws : List W} {u : Unit} {f : Fl} {ρ1 : En} {r : W} {bk : List W} : kdef3 np ns io c1 ws u f ρ1 r bk = .ok (r, bk) := rfl
theorem v_def3 {np : Nat} {ns : Nat} {io : KP} {c1 : CS} {ws : List W} {u : Unit} {f : Fl} {ρ1 : En} {r : W} : kdef2 np ns io c1 ws u f ρ1 r = (backs io 0 ws ρ1).bind (kdef3 np ns io c1 ws u f ρ1 r) := rfl
theorem v_def2 {np : Nat} {ns : Nat} {io : KP} {c1 : CS} {ws : List W} {u : Unit} {f : Fl} {ρ1 : En} : kdef1 np ns io c1 ws u (f, ρ1) = (retOf f).bind (kdef2 np ns io c1 ws u f ρ1) := rfl
theorem v_def1 {np : Nat} {ns : Nat} {io : KP} {c1 : CS} {ws : List W} {u : Unit} : kdef0 np ns io c1 ws u = (c1 (ws.map some ++ List.replicate (ns - np) none)).bind (kdef1 np ns io c1 ws u) := rfl
theorem v_def {np : Nat} {ns : Nat} {io : KP} {c1 : CS} {ws : List W} : runDef np ns io c1 ws = (chk (ws.length == np)).bind (kdef0 np ns io c1 ws) := rfl
def kcallV3 (F : Fn) (cbs : CBs) (ρ : En) (bs : List B) (ρ1 : En) (ws : List W) (r : W) (bk : List W) : (Unit) → Res (B × En) := fun z => match z with
  | u => .ok (.tmp r, ρ1)
def kcallV2 (F : Fn) (cbs : CBs) (ρ : En) (bs : List B) (ρ1 : En) (ws : List W) : (W) × (List W) → Res (B × En) := fun z => match z with
  | (r, bk) => (chk (scal r)).bind (kcallV3 F cbs ρ bs ρ1 ws r bk)
def kcallV1 (F : Fn) (cbs : CBs) (ρ : En) (bs : List B) (ρ1 : En) : (List W) → Res (B × En) := fun z => match z with
  | ws => (F (ws.map fun w => .fz (frz w))).bind (kcallV2 F cbs ρ bs ρ1 ws)
def kcallV0 (F : Fn) (cbs : CBs) (ρ : En) : (List B) × (En) → Res (B × En) := fun z => match z with
  | (bs, ρ1) => (conts bs ρ1).bind (kcallV1 F cbs ρ bs ρ1)
theorem v_callV4 {F : Fn} {cbs : CBs} {ρ : En} {bs : List B} {ρ1 : En} {ws : List W} {r : W} {bk : List W} {u : Unit} : kcallV3 F cbs ρ bs ρ1 ws r bk u = .ok (.tmp r, ρ1) := rfl
theorem v_callV3 {F : Fn} {cbs : CBs} {ρ : En} {bs : List B} {ρ1 : En} {ws : List W} {r : W} {bk : List W} : kcallV2 F cbs ρ bs ρ1 ws (r, bk) = (chk (scal r)).bind (kcallV3 F cbs ρ bs ρ1 ws r bk) := rfl
theorem v_callV2 {F : Fn} {cbs : CBs} {ρ : En} {bs : List B} {ρ1 : En} {ws : List W} : kcallV1 F cbs ρ bs ρ1 ws = (F (ws.map fun w => .fz (frz w))).bind (kcallV2 F cbs ρ bs ρ1 ws) := rfl
theorem v_callV1 {F : Fn} {cbs : CBs} {ρ : En} {bs : List B} {ρ1 : En} : kcallV0 F cbs ρ (bs, ρ1) = (conts bs ρ1).bind (kcallV1 F cbs ρ bs ρ1) := rfl
theorem v_callV {F : Fn} {cbs : CBs} {ρ : En} : cCallV F cbs ρ = (cbs ρ).bind (kcallV0 F cbs ρ) := rfl
def kcallP3 (q : Bool) (F : Fn) (cbs : CBs) (ρ : En) (bs : List B) (ρ1 : En) (u : Unit) (ws : List W) (ρ2 : En) : (W) × (List W) → Res (B × En) := fun z => match z with
  | (r, bk) => .ok (.tmp r, ρ2)
def kcallP2 (q : Bool) (F : Fn) (cbs : CBs) (ρ : En) (bs : List B) (ρ1 : En) (u : Unit) : (List W) × (En) → Res (B × En) := fun z => match z with
  | (ws, ρ2) => (F (ws.map fun w => .fz (frz w))).bind (kcallP3 q F cbs ρ bs ρ1 u ws ρ2)
def kcallP1 (q : Bool) (F : Fn) (cbs : CBs) (ρ : En) (bs : List B) (ρ1 : En) : (Unit) → Res (B × En) := fun z => match z with
  | u => (takes bs ρ1).bind (kcallP2 q F cbs ρ bs ρ1 u)
def kcallP0 (q : Bool) (F : Fn) (cbs : CBs) (ρ : En) : (List B) × (En) → Res (B × En) := fun z => match z with
  | (bs, ρ1) => (chk (shut q bs)).bind (kcallP1 q F cbs ρ bs ρ1)
theorem v_callP4 {q : Bool} {F : Fn} {cbs : CBs} {ρ : En} {bs : List B} {ρ1 : En} {u : Unit} {ws : List W} {ρ2 : En} {r : W} {bk : List W} : kcallP3 q F cbs ρ bs ρ1 u ws ρ2 (r, bk) = .ok (.tmp r, ρ2) := rfl
theorem v_callP3 {q : Bool} {F : Fn} {cbs : CBs} {ρ : En} {bs : List B} {ρ1 : En} {u : Unit} {ws : List W} {ρ2 : En} : kcallP2 q F cbs ρ bs ρ1 u (ws, ρ2) = (F (ws.map fun w => .fz (frz w))).bind (kcallP3 q F cbs ρ bs ρ1 u ws ρ2) := rfl
theorem v_callP2 {q : Bool} {F : Fn} {cbs : CBs} {ρ : En} {bs : List B} {ρ1 : En} {u : Unit} : kcallP1 q F cbs ρ bs ρ1 u = (takes bs ρ1).bind (kcallP2 q F cbs ρ bs ρ1 u) := rfl
theorem v_callP1 {q : Bool} {F : Fn} {cbs : CBs} {ρ : En} {bs : List B} {ρ1 : En} : kcallP0 q F cbs ρ (bs, ρ1) = (chk (shut q bs)).bind (kcallP1 q F cbs ρ bs ρ1) := rfl
theorem v_callP {q : Bool} {F : Fn} {cbs : CBs} {ρ : En} : cCallP q F cbs ρ = (cbs ρ).bind (kcallP0 q F cbs ρ) := rfl
def kcallKV4 (F : Fn) (ix : List Nat) (n : Nat) (cbs : CBs) (ρ : En) (bs : List B) (ρ1 : En) (u2 : Unit) (ws : List W) (r : W) (bk : List W) : (Unit) → Res (B × En) := fun z => match z with
  | u => .ok (.tmp r, ρ1)
def kcallKV3 (F : Fn) (ix : List Nat) (n : Nat) (cbs : CBs) (ρ : En) (bs : List B) (ρ1 : En) (u2 : Unit) (ws : List W) : (W) × (List W) → Res (B × En) := fun z => match z with
  | (r, bk) => (chk (scal r)).bind (kcallKV4 F ix n cbs ρ bs ρ1 u2 ws r bk)
def kcallKV2 (F : Fn) (ix : List Nat) (n : Nat) (cbs : CBs) (ρ : En) (bs : List B) (ρ1 : En) (u2 : Unit) : (List W) → Res (B × En) := fun z => match z with
  | ws => (F (pick ix (ws.map fun w => .fz (frz w)))).bind (kcallKV3 F ix n cbs ρ bs ρ1 u2 ws)
def kcallKV1 (F : Fn) (ix : List Nat) (n : Nat) (cbs : CBs) (ρ : En) (bs : List B) (ρ1 : En) : (Unit) → Res (B × En) := fun z => match z with
  | u2 => (conts bs ρ1).bind (kcallKV2 F ix n cbs ρ bs ρ1 u2)
def kcallKV0 (F : Fn) (ix : List Nat) (n : Nat) (cbs : CBs) (ρ : En) : (List B) × (En) → Res (B × En) := fun z => match z with
  | (bs, ρ1) => (chk (bs.length == n)).bind (kcallKV1 F ix n cbs ρ bs ρ1)
theorem v_callKV5 {F : Fn} {ix : List Nat} {n : Nat} {cbs : CBs} {ρ : En} {bs : List B} {ρ1 : En} {u2 : Unit} {ws : List W} {r : W} {bk : List W} {u : Unit} : kcallKV4 F ix n cbs ρ bs ρ1 u2 ws r bk u = .ok (.tmp r, ρ1) := rfl
theorem v_callKV4 {F : Fn} {ix : List Nat} {n : Nat} {cbs : CBs} {ρ : En} {bs : List B} {ρ1 : En} {u2 : Unit} {ws : List W} {r : W} {bk : List W} : kcallKV3 F ix n cbs ρ bs ρ1 u2 ws (r, bk) = (chk (scal r)).bind (kcallKV4 F ix n cbs ρ bs ρ1 u2 ws r bk) := rfl
theorem v_callKV3 {F : Fn} {ix : List Nat} {n : Nat} {cbs : CBs} {ρ : En} {bs : List B} {ρ1 : En} {u2 : Unit} {ws : List W} : kcallKV2 F ix n cbs ρ bs ρ1 u2 ws = (F (pick ix (ws.map fun w => .fz (frz w)))).bind (kcallKV3 F ix n cbs ρ bs ρ1 u2 ws) := rfl
theorem v_callKV2 {F : Fn} {ix : List Nat} {n : Nat} {cbs : CBs} {ρ : En} {bs : List B} {ρ1 : En} {u2 : Unit} : kcallKV1 F ix n cbs ρ bs ρ1 u2 = (conts bs ρ1).bind (kcallKV2 F ix n cbs ρ bs ρ1 u2) := rfl
theorem v_callKV1 {F : Fn} {ix : List Nat} {n : Nat} {cbs : CBs} {ρ : En} {bs : List B} {ρ1 : En} : kcallKV0 F ix n cbs ρ (bs, ρ1) = (chk (bs.length == n)).bind (kcallKV1 F ix n cbs ρ bs ρ1) := rfl
theorem v_callKV {F : Fn} {ix : List Nat} {n : Nat} {cbs : CBs} {ρ : En} : cCallKV F ix n cbs ρ = (cbs ρ).bind (kcallKV0 F ix n cbs ρ) := rfl
def kcallKP4 (q : Bool) (F : Fn) (ix : List Nat) (n : Nat) (cbs : CBs) (ρ : En) (bs : List B) (ρ1 : En) (u2 : Unit) (u : Unit) (ws : List W) (ρ2 : En) : (W) × (List W) → Res (B × En) := fun z => match z with
  | (r, bk) => .ok (.tmp r, ρ2)
def kcallKP3 (q : Bool) (F : Fn) (ix : List Nat) (n : Nat) (cbs : CBs) (ρ : En) (bs : List B) (ρ1 : En) (u2 : Unit) (u : Unit) : (List W) × (En) → Res (B × En) := fun z => match z with
  | (ws, ρ2) => (F (pick ix (ws.map fun w => .fz (frz w)))).bind (kcallKP4 q F ix n cbs ρ bs ρ1 u2 u ws ρ2)
def kcallKP2 (q : Bool) (F : Fn) (ix : List Nat) (n : Nat) (cbs : CBs) (ρ : En) (bs : List B) (ρ1 : En) (u2 : Unit) : (Unit) → Res (B × En) := fun z => match z with
  | u => (takes bs ρ1).bind (kcallKP3 q F ix n cbs ρ bs ρ1 u2 u)
def kcallKP1 (q : Bool) (F : Fn) (ix : List Nat) (n : Nat) (cbs : CBs) (ρ : En) (bs : List B) (ρ1 : En) : (Unit) → Res (B × En) := fun z => match z with
  | u2 => (chk (shut q bs)).bind (kcallKP2 q F ix n cbs ρ bs ρ1 u2)
def kcallKP0 (q : Bool) (F : Fn) (ix : List Nat) (n : Nat) (cbs : CBs) (ρ : En) : (List B) × (En) → Res (B × En) := fun z => match z with
  | (bs, ρ1) => (chk (bs.length == n)).bind (kcallKP1 q F ix n cbs ρ bs ρ1)
theorem v_callKP5 {q : Bool} {F : Fn} {ix : List Nat} {n : Nat} {cbs : CBs} {ρ : En} {bs : List B} {ρ1 : En} {u2 : Unit} {u : Unit} {ws : List W} {ρ2 : En} {r : W} {bk : List W} : kcallKP4 q F ix n cbs ρ bs ρ1 u2 u ws ρ2 (r, bk) = .ok (.tmp r, ρ2) := rfl
theorem v_callKP4 {q : Bool} {F : Fn} {ix : List Nat} {n : Nat} {cbs : CBs} {ρ : En} {bs : List B} {ρ1 : En} {u2 : Unit} {u : Unit} {ws : List W} {ρ2 : En} : kcallKP3 q F ix n cbs ρ bs ρ1 u2 u (ws, ρ2) = (F (pick ix (ws.map fun w => .fz (frz w)))).bind (kcallKP4 q F ix n cbs ρ bs ρ1 u2 u ws ρ2) := rfl
theorem v_callKP3 {q : Bool} {F : Fn} {ix : List Nat} {n : Nat} {cbs : CBs} {ρ : En} {bs : List B} {ρ1 : En} {u2 : Unit} {u : Unit} : kcallKP2 q F ix n cbs ρ bs ρ1 u2 u = (takes bs ρ1).bind (kcallKP3 q F ix n cbs ρ bs ρ1 u2 u) := rfl
theorem v_callKP2 {q : Bool} {F : Fn} {ix : List Nat} {n : Nat} {cbs : CBs} {ρ : En} {bs : List B} {ρ1 : En} {u2 : Unit} : kcallKP1 q F ix n cbs ρ bs ρ1 u2 = (chk (shut q bs)).bind (kcallKP2 q F ix n cbs ρ bs ρ1 u2) := rfl
theorem v_callKP1 {q : Bool} {F : Fn} {ix : List Nat} {n : Nat} {cbs : CBs} {ρ : En} {bs : List B} {ρ1 : En} : kcallKP0 q F ix n cbs ρ (bs, ρ1) = (chk (bs.length == n)).bind (kcallKP1 q F ix n cbs ρ bs ρ1) := rfl
theorem v_callKP {q : Bool} {F : Fn} {ix : List Nat} {n : Nat} {cbs : CBs} {ρ : En} : cCallKP q F ix n cbs ρ = (cbs ρ).bind (kcallKP0 q F ix n cbs ρ) := rfl
def kcallIO4 (F : Fn) (io : KP) (cbs : CBs) (ρ : En) (bs : List B) (ρ1 : En) (u : Unit) (ws : List W) (ρ2 : En) (r : W) (bk : List W) : (En) → Res (B × En) := fun z => match z with
  | ρ3 => .ok (.tmp r, ρ3)
def kcallIO3 (F : Fn) (io : KP) (cbs : CBs) (ρ : En) (bs : List B) (ρ1 : En) (u : Unit) (ws : List W) (ρ2 : En) : (W) × (List W) → Res (B × En) := fun z => match z with
  | (r, bk) => (putB io 0 bs bk ρ2).bind (kcallIO4 F io cbs ρ bs ρ1 u ws ρ2 r bk)
def kcallIO2 (F : Fn) (io : KP) (cbs : CBs) (ρ : En) (bs : List B) (ρ1 : En) (u : Unit) : (List W) × (En) → Res (B × En) := fun z => match z with
  | (ws, ρ2) => (F ws).bind (kcallIO3 F io cbs ρ bs ρ1 u ws ρ2)
def kcallIO1 (F : Fn) (io : KP) (cbs : CBs) (ρ : En) (bs : List B) (ρ1 : En) : (Unit) → Res (B × En) := fun z => match z with
  | u => (argsIO io 0 bs ρ1).bind (kcallIO2 F io cbs ρ bs ρ1 u)
def kcallIO0 (F : Fn) (io : KP) (cbs : CBs) (ρ : En) : (List B) × (En) → Res (B × En) := fun z => match z with
  | (bs, ρ1) => (chk (bs.all flatB)).bind (kcallIO1 F io cbs ρ bs ρ1)
theorem v_callIO5 {F : Fn} {io : KP} {cbs : CBs} {ρ : En} {bs : List B} {ρ1 : En} {u : Unit} {ws : List W} {ρ2 : En} {r : W} {bk : List W} {ρ3 : En} : kcallIO4 F io cbs ρ bs ρ1 u ws ρ2 r bk ρ3 = .ok (.tmp r, ρ3) := rfl
theorem v_callIO4 {F : Fn} {io : KP} {cbs : CBs} {ρ : En} {bs : List B} {ρ1 : En} {u : Unit} {ws : List W} {ρ2 : En} {r : W} {bk : List W} : kcallIO3 F io cbs ρ bs ρ1 u ws ρ2 (r, bk) = (putB io 0 bs bk ρ2).bind (kcallIO4 F io cbs ρ bs ρ1 u ws ρ2 r bk) := rfl
theorem v_callIO3 {F : Fn} {io : KP} {cbs : CBs} {ρ : En} {bs : List B} {ρ1 : En} {u : Unit} {ws : List W} {ρ2 : En} : kcallIO2 F io cbs ρ bs ρ1 u (ws, ρ2) = (F ws).bind (kcallIO3 F io cbs ρ bs ρ1 u ws ρ2) := rfl
theorem v_callIO2 {F : Fn} {io : KP} {cbs : CBs} {ρ : En} {bs : List B} {ρ1 : En} {u : Unit} : kcallIO1 F io cbs ρ bs ρ1 u = (argsIO io 0 bs ρ1).bind (kcallIO2 F io cbs ρ bs ρ1 u) := rfl
theorem v_callIO1 {F : Fn} {io : KP} {cbs : CBs} {ρ : En} {bs : List B} {ρ1 : En} : kcallIO0 F io cbs ρ (bs, ρ1) = (chk (bs.all flatB)).bind (kcallIO1 F io cbs ρ bs ρ1) := rfl
theorem v_callIO {F : Fn} {io : KP} {cbs : CBs} {ρ : En} : cCallIO F io cbs ρ = (cbs ρ).bind (kcallIO0 F io cbs ρ) := rfl
def kapp6 (q : Bool) (co : CE) (ca : CE) (ρ : En) (b : B) (ρ1 : En) (i : Nat) (p : List Nat) (u : Unit) (a : B) (ρ2 : En) (u2 : Unit) (w : W) (ρ3 : En) : (En) → Res (B × En) := fun z => match z with
  | ρ4 => .ok (.tmp (.fz .non), ρ4)
def kapp5 (q : Bool) (co : CE) (ca : CE) (ρ : En) (b : B) (ρ1 : En) (i : Nat) (p : List Nat) (u : Unit) (a : B) (ρ2 : En) (u2 : Unit) : (W) × (En) → Res (B × En) := fun z => match z with
  | (w, ρ3) => (mutA i p w ρ3).bind (kapp6 q co ca ρ b ρ1 i p u a ρ2 u2 w ρ3)
def kapp4 (q : Bool) (co : CE) (ca : CE) (ρ : En) (b : B) (ρ1 : En) (i : Nat) (p : List Nat) (u : Unit) (a : B) (ρ2 : En) : (Unit) → Res (B × En) := fun z => match z with
  | u2 => (take a ρ2).bind (kapp5 q co ca ρ b ρ1 i p u a ρ2 u2)
def kapp3 (q : Bool) (co : CE) (ca : CE) (ρ : En) (b : B) (ρ1 : En) (i : Nat) (p : List Nat) (u : Unit) : (B) × (En) → Res (B × En) := fun z => match z with
  | (a, ρ2) => (chk (p.isEmpty || isTmp a)).bind (kapp4 q co ca ρ b ρ1 i p u a ρ2)
def kapp2 (q : Bool) (co : CE) (ca : CE) (ρ : En) (b : B) (ρ1 : En) (i : Nat) (p : List Nat) : (Unit) → Res (B × En) := fun z => match z with
  | u => (ca ρ1).bind (kapp3 q co ca ρ b ρ1 i p u)
def kapp1 (q : Bool) (co : CE) (ca : CE) (ρ : En) (b : B) (ρ1 : En) : (Nat) × (List Nat) → Res (B × En) := fun z => match z with
  | (i, p) => (pend q (.bor i p)).bind (kapp2 q co ca ρ b ρ1 i p)
def kapp0 (q : Bool) (co : CE) (ca : CE) (ρ : En) : (B) × (En) → Res (B × En) := fun z => match z with
  | (b, ρ1) => (isPl b ρ1).bind (kapp1 q co ca ρ b ρ1)
theorem v_app7 {q : Bool} {co : CE} {ca : CE} {ρ : En} {b : B} {ρ1 : En} {i : Nat} {p : List Nat} {u : Unit} {a : B} {ρ2 : En} {u2 : Unit} {w : W} {ρ3 : En} {ρ4 : En} : kapp6 q co ca ρ b ρ1 i p u a ρ2 u2 w ρ3 ρ4 = .ok (.tmp (.fz .non), ρ4) := rfl
theorem v_app6 {q : Bool} {co : CE} {ca : CE} {ρ : En} {b : B} {ρ1 : En} {i : Nat} {p : List Nat} {u : Unit} {a : B} {ρ2 : En} {u2 : Unit} {w : W} {ρ3 : En} : kapp5 q co ca ρ b ρ1 i p u a ρ2 u2 (w, ρ3) = (mutA i p w ρ3).bind (kapp6 q co ca ρ b ρ1 i p u a ρ2 u2 w ρ3) := rfl
theorem v_app5 {q : Bool} {co : CE} {ca : CE} {ρ : En} {b : B} {ρ1 : En} {i : Nat} {p : List Nat} {u : Unit} {a : B} {ρ2 : En} {u2 : Unit} : kapp4 q co ca ρ b ρ1 i p u a ρ2 u2 = (take a ρ2).bind (kapp5 q co ca ρ b ρ1 i p u a ρ2 u2) := rfl
theorem v_app4 {q : Bool} {co : CE} {ca : CE} {ρ : En} {b : B} {ρ1 : En} {i : Nat} {p : List Nat} {u : Unit} {a : B} {ρ2 : En} : kapp3 q co ca ρ b ρ1 i p u (a, ρ2) = (chk (p.isEmpty || isTmp a)).bind (kapp4 q co ca ρ b ρ1 i p u a ρ2) := rfl
theorem v_app3 {q : Bool} {co : CE} {ca : CE} {ρ : En} {b : B} {ρ1 : En} {i : Nat} {p : List Nat} {u : Unit} : kapp2 q co ca ρ b ρ1 i p u = (ca ρ1).bind (kapp3 q co ca ρ b ρ1 i p u) := rfl
theorem v_app2 {q : Bool} {co : CE} {ca : CE} {ρ : En} {b : B} {ρ1 : En} {i : Nat} {p : List Nat} : kapp1 q co ca ρ b ρ1 (i, p) = (pend q (.bor i p)).bind (kapp2 q co ca ρ b ρ1 i p) := rfl
theorem v_app1 {q : Bool} {co : CE} {ca : CE} {ρ : En} {b : B} {ρ1 : En} : kapp0 q co ca ρ (b, ρ1) = (isPl b ρ1).bind (kapp1 q co ca ρ b ρ1) := rfl
theorem v_app {q : Bool} {co : CE} {ca : CE} {ρ : En} : cApp q co ca ρ = (co ρ).bind (kapp0 q co ca ρ) := rfl
def ksl5 (sl : W → Option Int → Option Int → Res W) (q : Bool) (ca : CE) (o1 : CO) (o2 : CO) (ρ : En) (a : B) (ρ1 : En) (u : Unit) (lo : Option Int) (ρ2 : En) (hi : Option Int) (ρ3 : En) (x : W) : (W) → Res (B × En) := fun z => match z with
  | w => .ok (.tmp w, ρ3)
def ksl4 (sl : W → Option Int → Option Int → Res W) (q : Bool) (ca : CE) (o1 : CO) (o2 : CO) (ρ : En) (a : B) (ρ1 : En) (u : Unit) (lo : Option Int) (ρ2 : En) (hi : Option Int) (ρ3 : En) : (W) → Res (B × En) := fun z => match z with
  | x => (sl x lo hi).bind (ksl5 sl q ca o1 o2 ρ a ρ1 u lo ρ2 hi ρ3 x)
def ksl3 (sl : W → Option Int → Option Int → Res W) (q : Bool) (ca : CE) (o1 : CO) (o2 : CO) (ρ : En) (a : B) (ρ1 : En) (u : Unit) (lo : Option Int) (ρ2 : En) : (Option Int) × (En) → Res (B × En) := fun z => match z with
  | (hi, ρ3) => (cont a ρ3).bind (ksl4 sl q ca o1 o2 ρ a ρ1 u lo ρ2 hi ρ3)
def ksl2 (sl : W → Option Int → Option Int → Res W) (q : Bool) (ca : CE) (o1 : CO) (o2 : CO) (ρ : En) (a : B) (ρ1 : En) (u : Unit) : (Option Int) × (En) → Res (B × En) := fun z => match z with
  | (lo, ρ2) => (o2 ρ2).bind (ksl3 sl q ca o1 o2 ρ a ρ1 u lo ρ2)
def ksl1 (sl : W → Option Int → Option Int → Res W) (q : Bool) (ca : CE) (o1 : CO) (o2 : CO) (ρ : En) (a : B) (ρ1 : En) : (Unit) → Res (B × En) := fun z => match z with
  | u => (o1 ρ1).bind (ksl2 sl q ca o1 o2 ρ a ρ1 u)
def ksl0 (sl : W → Option Int → Option Int → Res W) (q : Bool) (ca : CE) (o1 : CO) (o2 : CO) (ρ : En) : (B) × (En) → Res (B × En) := fun z => match z with
  | (a, ρ1) => (pend q a).bind (ksl1 sl q ca o1 o2 ρ a ρ1)
theorem v_sl6 {sl : W → Option Int → Option Int → Res W} {q : Bool} {ca : CE} {o1 : CO} {o2 : CO} {ρ : En} {a : B} {ρ1 : En} {u : Unit} {lo : Option Int} {ρ2 : En} {hi : Option Int} {ρ3 : En} {x : W} {w : W} : ksl5 sl q ca o1 o2 ρ a ρ1 u lo ρ2 hi ρ3 x w = .ok (.tmp w, ρ3) := rfl
theorem v_sl5 {sl : W → Option Int → Option Int → Res W} {q : Bool} {ca : CE} {o1 : CO} {o2 : CO} {ρ : En} {a : B} {ρ1 : En} {u : Unit} {lo : Option Int} {ρ2 : En} {hi : Option Int} {ρ3 : En} {x : W} : ksl4 sl q ca o1 o2 ρ a ρ1 u lo ρ2 hi ρ3 x = (sl x lo hi).bind (ksl5 sl q ca o1 o2 ρ a ρ1 u lo ρ2 hi ρ3 x) := rfl
theorem v_sl4 {sl : W → Option Int → Option Int → Res W} {q : Bool} {ca : CE} {o1 : CO} {o2 : CO} {ρ : En} {a : B} {ρ1 : En} {u : Unit} {lo : Option Int} {ρ2 : En} {hi : Option Int} {ρ3 : En} : ksl3 sl q ca o1 o2 ρ a ρ1 u lo ρ2 (hi, ρ3) = (cont a ρ3).bind (ksl4 sl q ca o1 o2 ρ a ρ1 u lo ρ2 hi ρ3) := rfl
theorem v_sl3 {sl : W → Option Int → Option Int → Res W} {q : Bool} {ca : CE} {o1 : CO} {o2 : CO} {ρ : En} {a : B} {ρ1 : En} {u : Unit} {lo : Option Int} {ρ2 : En} : ksl2 sl q ca o1 o2 ρ a ρ1 u (lo, ρ2) = (o2 ρ2).bind (ksl3 sl q ca o1 o2 ρ a ρ1 u lo ρ2) := rfl
theorem v_sl2 {sl : W → Option Int → Option Int → Res W} {q : Bool} {ca : CE} {o1 : CO} {o2 : CO} {ρ : En} {a : B} {ρ1 : En} {u : Unit} : ksl1 sl q ca o1 o2 ρ a ρ1 u = (o1 ρ1).bind (ksl2 sl q ca o1 o2 ρ a ρ1 u) := rfl
theorem v_sl1 {sl : W → Option Int → Option Int → Res W} {q : Bool} {ca : CE} {o1 : CO} {o2 : CO} {ρ : En} {a : B} {ρ1 : En} : ksl0 sl q ca o1 o2 ρ (a, ρ1) = (pend q a).bind (ksl1 sl q ca o1 o2 ρ a ρ1) := rfl
theorem v_sl {sl : W → Option Int → Option Int → Res W} {q : Bool} {ca : CE} {o1 : CO} {o2 : CO} {ρ : En} : cSl sl q ca o1 o2 ρ = (ca ρ).bind (ksl0 sl q ca o1 o2 ρ) := rfl
def koS1 (ce : CE) (ρ : En) (b : B) (ρ1 : En) : (Int) → Res (Option Int × En) := fun z => match z with
  | j => .ok (some j, ρ1)
def koS0 (ce : CE) (ρ : En) : (B) × (En) → Res (Option Int × En) := fun z => match z with
  | (b, ρ1) => (intOf b).bind (koS1 ce ρ b ρ1)
theorem v_oS2 {ce : CE} {ρ : En} {b : B} {ρ1 : En} {j : Int} : koS1 ce ρ b ρ1 j = .ok (some j, ρ1) := rfl
theorem v_oS1 {ce : CE} {ρ : En} {b : B} {ρ1 : En} : koS0 ce ρ (b, ρ1) = (intOf b).bind (koS1 ce ρ b ρ1) := rfl
theorem v_oS {ce : CE} {ρ : En} : oSome ce ρ = (ce ρ).bind (koS0 ce ρ) := rfl
def kiseq2 (ce : CE) (ρ : En) (b : B) (ρ1 : En) (w : W) (ρ2 : En) : (List D) → Res (List D × En) := fun z => match z with
  | ds => .ok (ds, ρ2)
def kiseq1 (ce : CE) (ρ : En) (b : B) (ρ1 : En) : (W) × (En) → Res (List D × En) := fun z => match z with
  | (w, ρ2) => (Res.of (srcV w)).bind (kiseq2 ce ρ b ρ1 w ρ2)
def kiseq0 (ce : CE) (ρ : En) : (B) × (En) → Res (List D × En) := fun z => match z with
  | (b, ρ1) => (take b ρ1).bind (kiseq1 ce ρ b ρ1)
theorem v_iseq3 {ce : CE} {ρ : En} {b : B} {ρ1 : En} {w : W} {ρ2 : En} {ds : List D} : kiseq2 ce ρ b ρ1 w ρ2 ds = .ok (ds, ρ2) := rfl
theorem v_iseq2 {ce : CE} {ρ : En} {b : B} {ρ1 : En} {w : W} {ρ2 : En} : kiseq1 ce ρ b ρ1 (w, ρ2) = (Res.of (srcV w)).bind (kiseq2 ce ρ b ρ1 w ρ2) := rfl
theorem v_iseq1 {ce : CE} {ρ : En} {b : B} {ρ1 : En} : kiseq0 ce ρ (b, ρ1) = (take b ρ1).bind (kiseq1 ce ρ b ρ1) := rfl
theorem v_iseq {ce : CE} {ρ : En} : iSeq ce ρ = (ce ρ).bind (kiseq0 ce ρ) := rfl
def kienum2 (ce : CE) (ρ : En) (b : B) (ρ1 : En) (w : W) (ρ2 : En) : (List D) → Res (List D × En) := fun z => match z with
  | ds => .ok (enumD 0 ds, ρ2)
def kienum1 (ce : CE) (ρ : En) (b : B) (ρ1 : En) : (W) × (En) → Res (List D × En) := fun z => match z with
  | (w, ρ2) => (Res.of (srcV w)).bind (kienum2 ce ρ b ρ1 w ρ2)
def kienum0 (ce : CE) (ρ : En) : (B) × (En) → Res (List D × En) := fun z => match z with
  | (b, ρ1) => (take b ρ1).bind (kienum1 ce ρ b ρ1)
theorem v_ienum3 {ce : CE} {ρ : En} {b : B} {ρ1 : En} {w : W} {ρ2 : En} {ds : List D} : kienum2 ce ρ b ρ1 w ρ2 ds = .ok (enumD 0 ds, ρ2) := rfl
theorem v_ienum2 {ce : CE} {ρ : En} {b : B} {ρ1 : En} {w : W} {ρ2 : En} : kienum1 ce ρ b ρ1 (w, ρ2) = (Res.of (srcV w)).bind (kienum2 ce ρ b ρ1 w ρ2) := rfl
theorem v_ienum1 {ce : CE} {ρ : En} {b : B} {ρ1 : En} : kienum0 ce ρ (b, ρ1) = (take b ρ1).bind (kienum1 ce ρ b ρ1) := rfl
theorem v_ienum {ce : CE} {ρ : En} : iEnumM ce ρ = (ce ρ).bind (kienum0 ce ρ) := rfl
def kirg2 (ce : CE) (ρ : En) (b : B) (ρ1 : En) (j : Int) : (Unit) → Res (List D × En) := fun z => match z with
  | u => .ok (rangeD 0 j.toNat, ρ1)
def kirg1 (ce : CE) (ρ : En) (b : B) (ρ1 : En) : (Int) → Res (List D × En) := fun z => match z with
  | j => (chk (decide (-(2 ^ 62) ≤ j ∧ j < 2 ^ 62))).bind (kirg2 ce ρ b ρ1 j)
def kirg0 (ce : CE) (ρ : En) : (B) × (En) → Res (List D × En) := fun z => match z with
  | (b, ρ1) => (intOf b).bind (kirg1 ce ρ b ρ1)
theorem v_irg3 {ce : CE} {ρ : En} {b : B} {ρ1 : En} {j : Int} {u : Unit} : kirg2 ce ρ b ρ1 j u = .ok (rangeD 0 j.toNat, ρ1) := rfl
theorem v_irg2 {ce : CE} {ρ : En} {b : B} {ρ1 : En} {j : Int} : kirg1 ce ρ b ρ1 j = (chk (decide (-(2 ^ 62) ≤ j ∧ j < 2 ^ 62))).bind (kirg2 ce ρ b ρ1 j) := rfl
theorem v_irg1 {ce : CE} {ρ : En} {b : B} {ρ1 : En} : kirg0 ce ρ (b, ρ1) = (intOf b).bind (kirg1 ce ρ b ρ1) := rfl
theorem v_irg {ce : CE} {ρ : En} : iRange1 ce ρ = (ce ρ).bind (kirg0 ce ρ) := rfl
def krgTup2 (ce : CE) (ρ : En) (b : B) (ρ1 : En) (j : Int) : (Unit) → Res (B × En) := fun z => match z with
  | u => .ok (.tmp (.fz (.tup (rangeD 0 (j - 0).toNat))), ρ1)
def krgTup1 (ce : CE) (ρ : En) (b : B) (ρ1 : En) : (Int) → Res (B × En) := fun z => match z with
  | j => (chk (decide (RgOk 0 j))).bind (krgTup2 ce ρ b ρ1 j)
def krgTup0 (ce : CE) (ρ : En) : (B) × (En) → Res (B × En) := fun z => match z with
  | (b, ρ1) => (intOf b).bind (krgTup1 ce ρ b ρ1)
theorem v_rgTup3 {ce : CE} {ρ : En} {b : B} {ρ1 : En} {j : Int} {u : Unit} : krgTup2 ce ρ b ρ1 j u = .ok (.tmp (.fz (.tup (rangeD 0 (j - 0).toNat))), ρ1) := rfl
theorem v_rgTup2 {ce : CE} {ρ : En} {b : B} {ρ1 : En} {j : Int} : krgTup1 ce ρ b ρ1 j = (chk (decide (RgOk 0 j))).bind (krgTup2 ce ρ b ρ1 j) := rfl
theorem v_rgTup1 {ce : CE} {ρ : En} {b : B} {ρ1 : En} : krgTup0 ce ρ (b, ρ1) = (intOf b).bind (krgTup1 ce ρ b ρ1) := rfl
theorem v_rgTup {ce : CE} {ρ : En} : cRgTup ce ρ = (ce ρ).bind (krgTup0 ce ρ) := rfl
def kargsc1 (io : KP) (n : Nat) (b : B) (bs : List B) (ρ : En) (w : W) (ρ1 : En) : (List W) × (En) → Res (List W × En) := fun z => match z with
  | (ws, ρ2) => .ok (w :: ws, ρ2)
def kargsc0 (io : KP) (n : Nat) (b : B) (bs : List B) (ρ : En) : (W) × (En) → Res (List W × En) := fun z => match z with
  | (w, ρ1) => (argsIO io (n + 1) bs ρ1).bind (kargsc1 io n b bs ρ w ρ1)
theorem v_argsc2 {io : KP} {n : Nat} {b : B} {bs : List B} {ρ : En} {w : W} {ρ1 : En} {ws : List W} {ρ2 : En} : kargsc1 io n b bs ρ w ρ1 (ws, ρ2) = .ok (w :: ws, ρ2) := rfl
theorem v_argsc1 {io : KP} {n : Nat} {b : B} {bs : List B} {ρ : En} {w : W} {ρ1 : En} : kargsc0 io n b bs ρ (w, ρ1) = (argsIO io (n + 1) bs ρ1).bind (kargsc1 io n b bs ρ w ρ1) := rfl
theorem v_argsc {io : KP} {n : Nat} {b : B} {bs : List B} {ρ : En} : argsIO io n (b :: bs) ρ = ((if io n = true then move b ρ else fzT b ρ)).bind (kargsc0 io n b bs ρ) := rfl
def kputc0 (io : KP) (n : Nat) (b : B) (bs : List B) (w : W) (ws : List W) (ρ : En) : (En) → Res (En) := fun z => match z with
  | ρ1 => putB io (n + 1) bs ws ρ1
theorem v_putc1 {io : KP} {n : Nat} {b : B} {bs : List B} {w : W} {ws : List W} {ρ : En} {ρ1 : En} : kputc0 io n b bs w ws ρ ρ1 = putB io (n + 1) bs ws ρ1 := rfl
theorem v_putc {io : KP} {n : Nat} {b : B} {bs : List B} {w : W} {ws : List W} {ρ : En} : putB io n (b :: bs) (w :: ws) ρ = ((if io n = true then put1 b w ρ else Res.ok ρ)).bind (kputc0 io n b bs w ws ρ) := rfl
def ktakesc1 (b : B) (bs : List B) (ρ : En) (w : W) (ρ1 : En) : (List W) × (En) → Res (List W × En) := fun z => match z with
  | (ws, ρ2) => .ok (w :: ws, ρ2)
def ktakesc0 (b : B) (bs : List B) (ρ : En) : (W) × (En) → Res (List W × En) := fun z => match z with
  | (w, ρ1) => (takes bs ρ1).bind (ktakesc1 b bs ρ w ρ1)
theorem v_takesc2 {b : B} {bs : List B} {ρ : En} {w : W} {ρ1 : En} {ws : List W} {ρ2 : En} : ktakesc1 b bs ρ w ρ1 (ws, ρ2) = .ok (w :: ws, ρ2) := rfl
theorem v_takesc1 {b : B} {bs : List B} {ρ : En} {w : W} {ρ1 : En} : ktakesc0 b bs ρ (w, ρ1) = (takes bs ρ1).bind (ktakesc1 b bs ρ w ρ1) := rfl
theorem v_takesc {b : B} {bs : List B} {ρ : En} : takes (b :: bs) ρ = (take b ρ).bind (ktakesc0 b bs ρ) := rfl
def kcontsc1 (b : B) (bs : List B) (ρ : En) (w : W) : (List W) → Res (List W) := fun z => match z with
  | ws => .ok (w :: ws)
def kcontsc0 (b : B) (bs : List B) (ρ : En) : (W) → Res (List W) := fun z => match z with
  | w => (conts bs ρ).bind (kcontsc1 b bs ρ w)
theorem v_contsc2 {b : B} {bs : List B} {ρ : En} {w : W} {ws : List W} : kcontsc1 b bs ρ w ws = .ok (w :: ws) := rfl
theorem v_contsc1 {b : B} {bs : List B} {ρ : En} {w : W} : kcontsc0 b bs ρ w = (conts bs ρ).bind (kcontsc1 b bs ρ w) := rfl
theorem v_contsc {b : B} {bs : List B} {ρ : En} : conts (b :: bs) ρ = (cont b ρ).bind (kcontsc0 b bs ρ) := rfl
def kbacksI1 (io : KP) (n : Nat) (w : W) (ws : List W) (x : W) (ρ : En) (y : W) : (List W) → Res (List W) := fun z => match z with
  | rr => .ok (y :: rr)
def kbacksI0 (io : KP) (n : Nat) (w : W) (ws : List W) (x : W) (ρ : En) : (W) → Res (List W) := fun z => match z with
  | y => (backs io (n + 1) ws ρ).bind (kbacksI1 io n w ws x ρ y)
theorem v_backsI2 {io : KP} {n : Nat} {w : W} {ws : List W} {x : W} {ρ : En} {y : W} {rr : List W} : kbacksI1 io n w ws x ρ y rr = .ok (y :: rr) := rfl
theorem v_backsI1 {io : KP} {n : Nat} {w : W} {ws : List W} {x : W} {ρ : En} {y : W} : kbacksI0 io n w ws x ρ y = (backs io (n + 1) ws ρ).bind (kbacksI1 io n w ws x ρ y) := rfl
theorem v_backsI {io : KP} {n : Nat} {w : W} {ws : List W} {x : W} {ρ : En} : backs io n (w :: ws) (some x :: ρ) = (backs1 io n w x).bind (kbacksI0 io n w ws x ρ) := rfl
def kbinF6 (op : W → W → Res W) (q : Bool) (ca : CE) (cb : CE) (ρ : En) (a : B) (ρ1 : En) (u : Unit) (b : B) (ρ2 : En) (u2 : Unit) (x : W) (ρ3 : En) (y : W) : (W) → Res (B × En) := fun z => match z with
  | w => .ok (.tmp w, ρ3)
def kbinF5 (op : W → W → Res W) (q : Bool) (ca : CE) (cb : CE) (ρ : En) (a : B) (ρ1 : En) (u : Unit) (b : B) (ρ2 : En) (u2 : Unit) (x : W) (ρ3 : En) : (W) → Res (B × En) := fun z => match z with
  | y => (op (.fz (frz x)) y).bind (kbinF6 op q ca cb ρ a ρ1 u b ρ2 u2 x ρ3 y)
def kbinF4 (op : W → W → Res W) (q : Bool) (ca : CE) (cb : CE) (ρ : En) (a : B) (ρ1 : En) (u : Unit) (b : B) (ρ2 : En) (u2 : Unit) : (W) × (En) → Res (B × En) := fun z => match z with
  | (x, ρ3) => (cont b ρ3).bind (kbinF5 op q ca cb ρ a ρ1 u b ρ2 u2 x ρ3)
def kbinF3 (op : W → W → Res W) (q : Bool) (ca : CE) (cb : CE) (ρ : En) (a : B) (ρ1 : En) (u : Unit) (b : B) (ρ2 : En) : (Unit) → Res (B × En) := fun z => match z with
  | u2 => (take a ρ2).bind (kbinF4 op q ca cb ρ a ρ1 u b ρ2 u2)
def kbinF2 (op : W → W → Res W) (q : Bool) (ca : CE) (cb : CE) (ρ : En) (a : B) (ρ1 : En) (u : Unit) : (B) × (En) → Res (B × En) := fun z => match z with
  | (b, ρ2) => (chk (flatB b)).bind (kbinF3 op q ca cb ρ a ρ1 u b ρ2)
def kbinF1 (op : W → W → Res W) (q : Bool) (ca : CE) (cb : CE) (ρ : En) (a : B) (ρ1 : En) : (Unit) → Res (B × En) := fun z => match z with
  | u => (cb ρ1).bind (kbinF2 op q ca cb ρ a ρ1 u)
def kbinF0 (op : W → W → Res W) (q : Bool) (ca : CE) (cb : CE) (ρ : En) : (B) × (En) → Res (B × En) := fun z => match z with
  | (a, ρ1) => (pend q a).bind (kbinF1 op q ca cb ρ a ρ1)
theorem v_binF7 {op : W → W → Res W} {q : Bool} {ca : CE} {cb : CE} {ρ : En} {a : B} {ρ1 : En} {u : Unit} {b : B} {ρ2 : En} {u2 : Unit} {x : W} {ρ3 : En} {y : W} {w : W} : kbinF6 op q ca cb ρ a ρ1 u b ρ2 u2 x ρ3 y w = .ok (.tmp w, ρ3) := rfl
theorem v_binF6 {op : W → W → Res W} {q : Bool} {ca : CE} {cb : CE} {ρ : En} {a : B} {ρ1 : En} {u : Unit} {b : B} {ρ2 : En} {u2 : Unit} {x : W} {ρ3 : En} {y : W} : kbinF5 op q ca cb ρ a ρ1 u b ρ2 u2 x ρ3 y = (op (.fz (frz x)) y).bind (kbinF6 op q ca cb ρ a ρ1 u b ρ2 u2 x ρ3 y) := rfl
theorem v_binF5 {op : W → W → Res W} {q : Bool} {ca : CE} {cb : CE} {ρ : En} {a : B} {ρ1 : En} {u : Unit} {b : B} {ρ2 : En} {u2 : Unit} {x : W} {ρ3 : En} : kbinF4 op q ca cb ρ a ρ1 u b ρ2 u2 (x, ρ3) = (cont b ρ3).bind (kbinF5 op q ca cb ρ a ρ1 u b ρ2 u2 x ρ3) := rfl
theorem v_binF4 {op : W → W → Res W} {q : Bool} {ca : CE} {cb : CE} {ρ : En} {a : B} {ρ1 : En} {u : Unit} {b : B} {ρ2 : En} {u2 : Unit} : kbinF3 op q ca cb ρ a ρ1 u b ρ2 u2 = (take a ρ2).bind (kbinF4 op q ca cb ρ a ρ1 u b ρ2 u2) := rfl
theorem v_binF3 {op : W → W → Res W} {q : Bool} {ca : CE} {cb : CE} {ρ : En} {a : B} {ρ1 : En} {u : Unit} {b : B} {ρ2 : En} : kbinF2 op q ca cb ρ a ρ1 u (b, ρ2) = (chk (flatB b)).bind (kbinF3 op q ca cb ρ a ρ1 u b ρ2) := rfl
theorem v_binF2 {op : W → W → Res W} {q : Bool} {ca : CE} {cb : CE} {ρ : En} {a : B} {ρ1 : En} {u : Unit} : kbinF1 op q ca cb ρ a ρ1 u = (cb ρ1).bind (kbinF2 op q ca cb ρ a ρ1 u) := rfl
theorem v_binF1 {op : W → W → Res W} {q : Bool} {ca : CE} {cb : CE} {ρ : En} {a : B} {ρ1 : En} : kbinF0 op q ca cb ρ (a, ρ1) = (pend q a).bind (kbinF1 op q ca cb ρ a ρ1) := rfl
theorem v_binF {op : W → W → Res W} {q : Bool} {ca : CE} {cb : CE} {ρ : En} : cBinF op q ca cb ρ = (ca ρ).bind (kbinF0 op q ca cb ρ) := rfl
def kpar22 (i : Nat) (jn : Nat) (cbs : CBs) (ρ : En) (bs : List B) (ρ1 : En) (u : Unit) : (List W) × (En) → Res (Fl × En) := fun z => match z with
  | (ws, ρ2) => match ws with
      | [v, w] => (chk (decide (i < ρ2.length ∧ jn < ρ2.length))).bind fun _ => .ok (.nx, (ρ2.set i (some v)).set jn (some w))
      | _ => .err
def kpar21 (i : Nat) (jn : Nat) (cbs : CBs) (ρ : En) (bs : List B) (ρ1 : En) : (Unit) → Res (Fl × En) := fun z => match z with
  | u => (takes bs ρ1).bind (kpar22 i jn cbs ρ bs ρ1 u)
def kpar20 (i : Nat) (jn : Nat) (cbs : CBs) (ρ : En) : (List B) × (En) → Res (Fl × En) := fun z => match z with
  | (bs, ρ1) => (chk (bs.all flatB)).bind (kpar21 i jn cbs ρ bs ρ1)
theorem v_par22 {i : Nat} {jn : Nat} {cbs : CBs} {ρ : En} {bs : List B} {ρ1 : En} {u : Unit} : kpar21 i jn cbs ρ bs ρ1 u = (takes bs ρ1).bind (kpar22 i jn cbs ρ bs ρ1 u) := rfl
theorem v_par21 {i : Nat} {jn : Nat} {cbs : CBs} {ρ : En} {bs : List B} {ρ1 : En} : kpar20 i jn cbs ρ (bs, ρ1) = (chk (bs.all flatB)).bind (kpar21 i jn cbs ρ bs ρ1) := rfl
theorem v_par2 {i : Nat} {jn : Nat} {cbs : CBs} {ρ : En} : cPar2 i jn cbs ρ = (cbs ρ).bind (kpar20 i jn cbs ρ) := rfl
def kpar32 (i : Nat) (jn : Nat) (ln : Nat) (cbs : CBs) (ρ : En) (bs : List B) (ρ1 : En) (u : Unit) : (List W) × (En) → Res (Fl × En) := fun z => match z with
  | (ws, ρ2) => match ws with
      | [u, v, w] => (chk (decide (i < ρ2.length ∧ jn < ρ2.length ∧ ln < ρ2.length))).bind fun _ => .ok (.nx, ((ρ2.set i (some u)).set jn (some v)).set ln (some w))
      | _ => .err
def kpar31 (i : Nat) (jn : Nat) (ln : Nat) (cbs : CBs) (ρ : En) (bs : List B) (ρ1 : En) : (Unit) → Res (Fl × En) := fun z => match z with
  | u => (takes bs ρ1).bind (kpar32 i jn ln cbs ρ bs ρ1 u)
def kpar30 (i : Nat) (jn : Nat) (ln : Nat) (cbs : CBs) (ρ : En) : (List B) × (En) → Res (Fl × En) := fun z => match z with
  | (bs, ρ1) => (chk (bs.all flatB)).bind (kpar31 i jn ln cbs ρ bs ρ1)
theorem v_par32 {i : Nat} {jn : Nat} {ln : Nat} {cbs : CBs} {ρ : En} {bs : List B} {ρ1 : En} {u : Unit} : kpar31 i jn ln cbs ρ bs ρ1 u = (takes bs ρ1).bind (kpar32 i jn ln cbs ρ bs ρ1 u) := rfl
theorem v_par31 {i : Nat} {jn : Nat} {ln : Nat} {cbs : CBs} {ρ : En} {bs : List B} {ρ1 : En} : kpar30 i jn ln cbs ρ (bs, ρ1) = (chk (bs.all flatB)).bind (kpar31 i jn ln cbs ρ bs ρ1) := rfl
theorem v_par3 {i : Nat} {jn : Nat} {ln : Nat} {cbs : CBs} {ρ : En} : cPar3 i jn ln cbs ρ = (cbs ρ).bind (kpar30 i jn ln cbs ρ) := rfl
def kext7 (q : Bool) (co : CE) (ca : CE) (ρ : En) (b : B) (ρ1 : En) (i : Nat) (p : List Nat) (u : Unit) (a : B) (ρ2 : En) (u2 : Unit) (w : W) (ρ3 : En) (ws : List W) : (En) → Res (B × En) := fun z => match z with
  | ρ4 => .ok (.tmp (.fz .non), ρ4)
def kext6 (q : Bool) (co : CE) (ca : CE) (ρ : En) (b : B) (ρ1 : En) (i : Nat) (p : List Nat) (u : Unit) (a : B) (ρ2 : En) (u2 : Unit) (w : W) (ρ3 : En) : (List W) → Res (B × En) := fun z => match z with
  | ws => (mutP i p (fun zs => if zs.length + ws.length ≤ 16777216 then some (zs ++ ws) else none) ρ3).bind (kext7 q co ca ρ b ρ1 i p u a ρ2 u2 w ρ3 ws)
def kext5 (q : Bool) (co : CE) (ca : CE) (ρ : En) (b : B) (ρ1 : En) (i : Nat) (p : List Nat) (u : Unit) (a : B) (ρ2 : En) (u2 : Unit) : (W) × (En) → Res (B × En) := fun z => match z with
  | (w, ρ3) => (Res.of (extV w)).bind (kext6 q co ca ρ b ρ1 i p u a ρ2 u2 w ρ3)
def kext4 (q : Bool) (co : CE) (ca : CE) (ρ : En) (b : B) (ρ1 : En) (i : Nat) (p : List Nat) (u : Unit) (a : B) (ρ2 : En) : (Unit) → Res (B × En) := fun z => match z with
  | u2 => (take a ρ2).bind (kext5 q co ca ρ b ρ1 i p u a ρ2 u2)
def kext3 (q : Bool) (co : CE) (ca : CE) (ρ : En) (b : B) (ρ1 : En) (i : Nat) (p : List Nat) (u : Unit) : (B) × (En) → Res (B × En) := fun z => match z with
  | (a, ρ2) => (chk (p.isEmpty || isTmp a)).bind (kext4 q co ca ρ b ρ1 i p u a ρ2)
def kext2 (q : Bool) (co : CE) (ca : CE) (ρ : En) (b : B) (ρ1 : En) (i : Nat) (p : List Nat) : (Unit) → Res (B × En) := fun z => match z with
  | u => (ca ρ1).bind (kext3 q co ca ρ b ρ1 i p u)
def kext1 (q : Bool) (co : CE) (ca : CE) (ρ : En) (b : B) (ρ1 : En) : (Nat) × (List Nat) → Res (B × En) := fun z => match z with
  | (i, p) => (pend q (.bor i p)).bind (kext2 q co ca ρ b ρ1 i p)
def kext0 (q : Bool) (co : CE) (ca : CE) (ρ : En) : (B) × (En) → Res (B × En) := fun z => match z with
  | (b, ρ1) => (isPl b ρ1).bind (kext1 q co ca ρ b ρ1)
theorem v_ext8 {q : Bool} {co : CE} {ca : CE} {ρ : En} {b : B} {ρ1 : En} {i : Nat} {p : List Nat} {u : Unit} {a : B} {ρ2 : En} {u2 : Unit} {w : W} {ρ3 : En} {ws : List W} {ρ4 : En} : kext7 q co ca ρ b ρ1 i p u a ρ2 u2 w ρ3 ws ρ4 = .ok (.tmp (.fz .non), ρ4) := rfl
theorem v_ext7 {q : Bool} {co : CE} {ca : CE} {ρ : En} {b : B} {ρ1 : En} {i : Nat} {p : List Nat} {u : Unit} {a : B} {ρ2 : En} {u2 : Unit} {w : W} {ρ3 : En} {ws : List W} : kext6 q co ca ρ b ρ1 i p u a ρ2 u2 w ρ3 ws = (mutP i p (fun zs => if zs.length + ws.length ≤ 16777216 then some (zs ++ ws) else none) ρ3).bind (kext7 q co ca ρ b ρ1 i p u a ρ2 u2 w ρ3 ws) := rfl
theorem v_ext6 {q : Bool} {co : CE} {ca : CE} {ρ : En} {b : B} {ρ1 : En} {i : Nat} {p : List Nat} {u : Unit} {a : B} {ρ2 : En} {u2 : Unit} {w : W} {ρ3 : En} : kext5 q co ca ρ b ρ1 i p u a ρ2 u2 (w, ρ3) = (Res.of (extV w)).bind (kext6 q co ca ρ b ρ1 i p u a ρ2 u2 w ρ3) := rfl
theorem v_ext5 {q : Bool} {co : CE} {ca : CE} {ρ : En} {b : B} {ρ1 : En} {i : Nat} {p : List Nat} {u : Unit} {a : B} {ρ2 : En} {u2 : Unit} : kext4 q co ca ρ b ρ1 i p u a ρ2 u2 = (take a ρ2).bind (kext5 q co ca ρ b ρ1 i p u a ρ2 u2) := rfl
theorem v_ext4 {q : Bool} {co : CE} {ca : CE} {ρ : En} {b : B} {ρ1 : En} {i : Nat} {p : List Nat} {u : Unit} {a : B} {ρ2 : En} : kext3 q co ca ρ b ρ1 i p u (a, ρ2) = (chk (p.isEmpty || isTmp a)).bind (kext4 q co ca ρ b ρ1 i p u a ρ2) := rfl
theorem v_ext3 {q : Bool} {co : CE} {ca : CE} {ρ : En} {b : B} {ρ1 : En} {i : Nat} {p : List Nat} {u : Unit} : kext2 q co ca ρ b ρ1 i p u = (ca ρ1).bind (kext3 q co ca ρ b ρ1 i p u) := rfl
theorem v_ext2 {q : Bool} {co : CE} {ca : CE} {ρ : En} {b : B} {ρ1 : En} {i : Nat} {p : List Nat} : kext1 q co ca ρ b ρ1 (i, p) = (pend q (.bor i p)).bind (kext2 q co ca ρ b ρ1 i p) := rfl
theorem v_ext1 {q : Bool} {co : CE} {ca : CE} {ρ : En} {b : B} {ρ1 : En} : kext0 q co ca ρ (b, ρ1) = (isPl b ρ1).bind (kext1 q co ca ρ b ρ1) := rfl
theorem v_ext {q : Bool} {co : CE} {ca : CE} {ρ : En} : cExt q co ca ρ = (co ρ).bind (kext0 q co ca ρ) := rfl
def kzip2 (cbs : CBs) (ρ : En) (bs : List B) (ρ1 : En) (u : Unit) : (List W) × (En) → Res (List D × En) := fun z => match z with
  | (ws, ρ2) => match ws with
      | [a, b] => (chk (isT a == isT b)).bind fun _ => (Res.of (srcV a)).bind fun ds => (Res.of (srcV b)).bind fun es => .ok (zipD ds es, ρ2)
      | _ => .err
def kzip1 (cbs : CBs) (ρ : En) (bs : List B) (ρ1 : En) : (Unit) → Res (List D × En) := fun z => match z with
  | u => (takes bs ρ1).bind (kzip2 cbs ρ bs ρ1 u)
def kzip0 (cbs : CBs) (ρ : En) : (List B) × (En) → Res (List D × En) := fun z => match z with
  | (bs, ρ1) => (chk (bs.all flatB)).bind (kzip1 cbs ρ bs ρ1)
theorem v_zip2 {cbs : CBs} {ρ : En} {bs : List B} {ρ1 : En} {u : Unit} : kzip1 cbs ρ bs ρ1 u = (takes bs ρ1).bind (kzip2 cbs ρ bs ρ1 u) := rfl
theorem v_zip1 {cbs : CBs} {ρ : En} {bs : List B} {ρ1 : En} : kzip0 cbs ρ (bs, ρ1) = (chk (bs.all flatB)).bind (kzip1 cbs ρ bs ρ1) := rfl
theorem v_zip {cbs : CBs} {ρ : En} : iZipM cbs ρ = (cbs ρ).bind (kzip0 cbs ρ) := rfl
def kirgB4 (ca : CE) (cb : CE) (ρ : En) (a : B) (ρ1 : En) (j : Int) (b : B) (ρ2 : En) (j2 : Int) : (Unit) → Res (List D × En) := fun z => match z with
  | u => .ok (rangeD j (j2 - j).toNat, ρ2)
def kirgB3 (ca : CE) (cb : CE) (ρ : En) (a : B) (ρ1 : En) (j : Int) (b : B) (ρ2 : En) : (Int) → Res (List D × En) := fun z => match z with
  | j2 => (chk (decide (-(2 ^ 62) ≤ j ∧ j < 2 ^ 62 ∧ -(2 ^ 62) ≤ j2 ∧ j2 < 2 ^ 62))).bind (kirgB4 ca cb ρ a ρ1 j b ρ2 j2)
def kirgB2 (ca : CE) (cb : CE) (ρ : En) (a : B) (ρ1 : En) (j : Int) : (B) × (En) → Res (List D × En) := fun z => match z with
  | (b, ρ2) => (intOf b).bind (kirgB3 ca cb ρ a ρ1 j b ρ2)
def kirgB1 (ca : CE) (cb : CE) (ρ : En) (a : B) (ρ1 : En) : (Int) → Res (List D × En) := fun z => match z with
  | j => (cb ρ1).bind (kirgB2 ca cb ρ a ρ1 j)
def kirgB0 (ca : CE) (cb : CE) (ρ : En) : (B) × (En) → Res (List D × En) := fun z => match z with
  | (a, ρ1) => (intOf a).bind (kirgB1 ca cb ρ a ρ1)
theorem v_irgB4 {ca : CE} {cb : CE} {ρ : En} {a : B} {ρ1 : En} {j : Int} {b : B} {ρ2 : En} {j2 : Int} : kirgB3 ca cb ρ a ρ1 j b ρ2 j2 = (chk (decide (-(2 ^ 62) ≤ j ∧ j < 2 ^ 62 ∧ -(2 ^ 62) ≤ j2 ∧ j2 < 2 ^ 62))).bind (kirgB4 ca cb ρ a ρ1 j b ρ2 j2) := rfl
theorem v_irgB3 {ca : CE} {cb : CE} {ρ : En} {a : B} {ρ1 : En} {j : Int} {b : B} {ρ2 : En} : kirgB2 ca cb ρ a ρ1 j (b, ρ2) = (intOf b).bind (kirgB3 ca cb ρ a ρ1 j b ρ2) := rfl
theorem v_irgB2 {ca : CE} {cb : CE} {ρ : En} {a : B} {ρ1 : En} {j : Int} : kirgB1 ca cb ρ a ρ1 j = (cb ρ1).bind (kirgB2 ca cb ρ a ρ1 j) := rfl
theorem v_irgB1 {ca : CE} {cb : CE} {ρ : En} {a : B} {ρ1 : En} : kirgB0 ca cb ρ (a, ρ1) = (intOf a).bind (kirgB1 ca cb ρ a ρ1) := rfl
theorem v_irgB {ca : CE} {cb : CE} {ρ : En} : iRange2 ca cb ρ = (ca ρ).bind (kirgB0 ca cb ρ) := rfl
def krgLst2 (ce : CE) (ρ : En) (b : B) (ρ1 : En) (j : Int) : (Unit) → Res (B × En) := fun z => match z with
  | u => .ok (.tmp (.lst ((rangeD 0 (j - 0).toNat).map W.fz)), ρ1)
def krgLst1 (ce : CE) (ρ : En) (b : B) (ρ1 : En) : (Int) → Res (B × En) := fun z => match z with
  | j => (chk (decide (RgOk 0 j))).bind (krgLst2 ce ρ b ρ1 j)
def krgLst0 (ce : CE) (ρ : En) : (B) × (En) → Res (B × En) := fun z => match z with
  | (b, ρ1) => (intOf b).bind (krgLst1 ce ρ b ρ1)
theorem v_rgLst3 {ce : CE} {ρ : En} {b : B} {ρ1 : En} {j : Int} {u : Unit} : krgLst2 ce ρ b ρ1 j u = .ok (.tmp (.lst ((rangeD 0 (j - 0).toNat).map W.fz)), ρ1) := rfl
theorem v_rgLst2 {ce : CE} {ρ : En} {b : B} {ρ1 : En} {j : Int} : krgLst1 ce ρ b ρ1 j = (chk (decide (RgOk 0 j))).bind (krgLst2 ce ρ b ρ1 j) := rfl
theorem v_rgLst1 {ce : CE} {ρ : En} {b : B} {ρ1 : En} : krgLst0 ce ρ (b, ρ1) = (intOf b).bind (krgLst1 ce ρ b ρ1) := rfl
theorem v_rgLst {ce : CE} {ρ : En} : cRgLst ce ρ = (ce ρ).bind (krgLst0 ce ρ) := rfl
def krgTupB4 (ca : CE) (cb : CE) (ρ : En) (a : B) (ρ1 : En) (j : Int) (b : B) (ρ2 : En) (j2 : Int) : (Unit) → Res (B × En) := fun z => match z with
  | u => .ok (.tmp (.fz (.tup (rangeD j (j2 - j).toNat))), ρ2)
def krgTupB3 (ca : CE) (cb : CE) (ρ : En) (a : B) (ρ1 : En) (j : Int) (b : B) (ρ2 : En) : (Int) → Res (B × En) := fun z => match z with
  | j2 => (chk (decide (RgOk j j2))).bind (krgTupB4 ca cb ρ a ρ1 j b ρ2 j2)
def krgTupB2 (ca : CE) (cb : CE) (ρ : En) (a : B) (ρ1 : En) (j : Int) : (B) × (En) → Res (B × En) := fun z => match z with
  | (b, ρ2) => (intOf b).bind (krgTupB3 ca cb ρ a ρ1 j b ρ2)
def krgTupB1 (ca : CE) (cb : CE) (ρ : En) (a : B) (ρ1 : En) : (Int) → Res (B × En) := fun z => match z with
  | j => (cb ρ1).bind (krgTupB2 ca cb ρ a ρ1 j)
def krgTupB0 (ca : CE) (cb : CE) (ρ : En) : (B) × (En) → Res (B × En) := fun z => match z with
  | (a, ρ1) => (intOf a).bind (krgTupB1 ca cb ρ a ρ1)
theorem v_rgTupB5 {ca : CE} {cb : CE} {ρ : En} {a : B} {ρ1 : En} {j : Int} {b : B} {ρ2 : En} {j2 : Int} {u : Unit} : krgTupB4 ca cb ρ a ρ1 j b ρ2 j2 u = .ok (.tmp (.fz (.tup (rangeD j (j2 - j).toNat))), ρ2) := rfl
theorem v_rgTupB4 {ca : CE} {cb : CE} {ρ : En} {a : B} {ρ1 : En} {j : Int} {b : B} {ρ2 : En} {j2 : Int} : krgTupB3 ca cb ρ a ρ1 j b ρ2 j2 = (chk (decide (RgOk j j2))).bind (krgTupB4 ca cb ρ a ρ1 j b ρ2 j2) := rfl
theorem v_rgTupB3 {ca : CE} {cb : CE} {ρ : En} {a : B} {ρ1 : En} {j : Int} {b : B} {ρ2 : En} : krgTupB2 ca cb ρ a ρ1 j (b, ρ2) = (intOf b).bind (krgTupB3 ca cb ρ a ρ1 j b ρ2) := rfl
theorem v_rgTupB2 {ca : CE} {cb : CE} {ρ : En} {a : B} {ρ1 : En} {j : Int} : krgTupB1 ca cb ρ a ρ1 j = (cb ρ1).bind (krgTupB2 ca cb ρ a ρ1 j) := rfl
theorem v_rgTupB1 {ca : CE} {cb : CE} {ρ : En} {a : B} {ρ1 : En} : krgTupB0 ca cb ρ (a, ρ1) = (intOf a).bind (krgTupB1 ca cb ρ a ρ1) := rfl
theorem v_rgTupB {ca : CE} {cb : CE} {ρ : En} : cRgTup2 ca cb ρ = (ca ρ).bind (krgTupB0 ca cb ρ) := rfl
def krgLstB4 (ca : CE) (cb : CE) (ρ : En) (a : B) (ρ1 : En) (j : Int) (b : B) (ρ2 : En) (j2 : Int) : (Unit) → Res (B × En) := fun z => match z with
  | u => .ok (.tmp (.lst ((rangeD j (j2 - j).toNat).map W.fz)), ρ2)
def krgLstB3 (ca : CE) (cb : CE) (ρ : En) (a : B) (ρ1 : En) (j : Int) (b : B) (ρ2 : En) : (Int) → Res (B × En) := fun z => match z with
  | j2 => (chk (decide (RgOk j j2))).bind (krgLstB4 ca cb ρ a ρ1 j b ρ2 j2)
def krgLstB2 (ca : CE) (cb : CE) (ρ : En) (a : B) (ρ1 : En) (j : Int) : (B) × (En) → Res (B × En) := fun z => match z with
  | (b, ρ2) => (intOf b).bind (krgLstB3 ca cb ρ a ρ1 j b ρ2)
def krgLstB1 (ca : CE) (cb : CE) (ρ : En) (a : B) (ρ1 : En) : (Int) → Res (B × En) := fun z => match z with
  | j => (cb ρ1).bind (krgLstB2 ca cb ρ a ρ1 j)
def krgLstB0 (ca : CE) (cb : CE) (ρ : En) : (B) × (En) → Res (B × En) := fun z => match z with
  | (a, ρ1) => (intOf a).bind (krgLstB1 ca cb ρ a ρ1)
theorem v_rgLstB5 {ca : CE} {cb : CE} {ρ : En} {a : B} {ρ1 : En} {j : Int} {b : B} {ρ2 : En} {j2 : Int} {u : Unit} : krgLstB4 ca cb ρ a ρ1 j b ρ2 j2 u = .ok (.tmp (.lst ((rangeD j (j2 - j).toNat).map W.fz)), ρ2) := rfl
theorem v_rgLstB4 {ca : CE} {cb : CE} {ρ : En} {a : B} {ρ1 : En} {j : Int} {b : B} {ρ2 : En} {j2 : Int} : krgLstB3 ca cb ρ a ρ1 j b ρ2 j2 = (chk (decide (RgOk j j2))).bind (krgLstB4 ca cb ρ a ρ1 j b ρ2 j2) := rfl
theorem v_rgLstB3 {ca : CE} {cb : CE} {ρ : En} {a : B} {ρ1 : En} {j : Int} {b : B} {ρ2 : En} : krgLstB2 ca cb ρ a ρ1 j (b, ρ2) = (intOf b).bind (krgLstB3 ca cb ρ a ρ1 j b ρ2) := rfl
theorem v_rgLstB2 {ca : CE} {cb : CE} {ρ : En} {a : B} {ρ1 : En} {j : Int} : krgLstB1 ca cb ρ a ρ1 j = (cb ρ1).bind (krgLstB2 ca cb ρ a ρ1 j) := rfl
theorem v_rgLstB1 {ca : CE} {cb : CE} {ρ : En} {a : B} {ρ1 : En} : krgLstB0 ca cb ρ (a, ρ1) = (intOf a).bind (krgLstB1 ca cb ρ a ρ1) := rfl
theorem v_rgLstB {ca : CE} {cb : CE} {ρ : En} : cRgLst2 ca cb ρ = (ca ρ).bind (krgLstB0 ca cb ρ) := rfl
section
variable {ρ : En} {i : Nat} {d : D} {io : KP} {w : W} {ws : List W} {ds : List D} {gs : CGs} {α β : Type}
theorem v_ok (a : α) (k : α → Res β) : (Res.ok a).bind k = k a := rfl
theorem v_c : cC d ρ = .ok (.tmp (.fz d), ρ) := rfl
theorem v_nil : cNil ρ = .ok ([], ρ) := rfl
theorem v_next : cNext ρ = .ok (.nx, ρ) := rfl
theorem v_yes : cYes ρ = .ok (true, ρ) := rfl
theorem v_oN : oNone ρ = .ok (none, ρ) := rfl
theorem v_gtup : gTupG gs (.fz (.tup ds)) ρ = gs ds ρ := rfl
theorem v_var : cVar i ρ = match ρ[i]? with
  | some (some (.fz d)) => .ok (.tmp (.fz d), ρ)
  | some (some (.lst _)) => .ok (.bor i [], ρ)
  | some (some (.ob _ _)) => .ok (.bor i [], ρ)
  | some (some (.di _)) => .ok (.bor i [], ρ)
  | _ => .err := rfl
theorem v_lc0 {vs : List Nat} {g : CG} {ct : CT} {ce : CE} : lcL vs g ct ce [] ρ = .ok ([], ρ) := rfl
theorem v_for0 {g : CG} {c1 : CS} : forL g c1 [] ρ = .ok (.nx, ρ) := rfl
theorem v_args0 {n : Nat} : argsIO io n [] ρ = .ok ([], ρ) := rfl
theorem v_put0 {n : Nat} {ws : List W} : putB io n [] ws ρ = .ok ρ := rfl
theorem v_takes0 : takes [] ρ = .ok ([], ρ) := rfl
theorem v_conts0 : conts [] ρ = .ok [] := rfl
theorem v_backs0 {n : Nat} : backs io n [] ρ = .ok [] := rfl
theorem w_add {i j : Int} : fAdd (.fz (.int i)) (.fz (.int j)) = .ok (.fz (.int (i + j))) := rfl
theorem w_sub {i j : Int} : fSub (.fz (.int i)) (.fz (.int j)) = .ok (.fz (.int (i - j))) := rfl
theorem w_neg {i : Int} : fNeg (.fz (.int i)) = .ok (.fz (.int (-i))) := rfl
theorem w_mulL {i j : Int} (h : -(2 ^ 64) < i ∧ i < 2 ^ 64) : fMul (.fz (.int i)) (.fz (.int j)) = .ok (.fz (.int (i * j))) := by
  show Res.bind (if CMul i j then Res.ok (D.int (i * j)) else if CMulW i j then .ok (.int (i * j)) else .err) _ = _
  rw [if_pos (show CMul i j from .inl h)]; rfl
theorem w_mulR {i j : Int} (h : -(2 ^ 64) < j ∧ j < 2 ^ 64) : fMul (.fz (.int i)) (.fz (.int j)) = .ok (.fz (.int (i * j))) := by
  show Res.bind (if CMul i j then Res.ok (D.int (i * j)) else if CMulW i j then .ok (.int (i * j)) else .err) _ = _
  rw [if_pos (show CMul i j from .inr h)]; rfl
theorem log_small {n : Nat} (h : n < 2 ^ 9000) : n.log2 < 9000 := by
  by_cases h0 : n = 0
  · subst h0; decide
  · exact (Nat.log2_lt h0).mpr h
theorem big64 : (2 : Nat) ^ 64 ≤ 2 ^ 9000 := Nat.pow_le_pow_right (by decide) (by decide)
theorem w_div {i j : Int} (h0 : 0 < j) (h : j < 2 ^ 64) : fDiv (.fz (.int i)) (.fz (.int j)) = .ok (.fz (.int (i / j))) := by
  show Res.bind (if CDivW i j then Res.ok (D.int (i / j)) else .err) _ = _
  rw [if_pos (show CDivW i j from ⟨h0, log_small (Nat.lt_of_lt_of_le (by omega) big64)⟩)]; rfl
theorem w_mod {i j : Int} (h0 : 0 < j) : fMod (.fz (.int i)) (.fz (.int j)) = .ok (.fz (.int (i % j))) := by
  show Res.bind (if 0 < j then Res.ok (D.int (i % j)) else .err) _ = _
  rw [if_pos h0]; rfl
theorem w_lt {i j : Int} : fLt (.fz (.int i)) (.fz (.int j)) = .ok (.fz (.bl (decide (i < j)))) := rfl
theorem w_le {i j : Int} : fLe (.fz (.int i)) (.fz (.int j)) = .ok (.fz (.bl (decide (i ≤ j)))) := rfl
theorem w_gt {i j : Int} : fGt (.fz (.int i)) (.fz (.int j)) = .ok (.fz (.bl (decide (j < i)))) := rfl
theorem w_ge {i j : Int} : fGe (.fz (.int i)) (.fz (.int j)) = .ok (.fz (.bl (decide (j ≤ i)))) := rfl
theorem w_ix {x : W} {k : Int} {ds : List D} {j : Nat} {d : D} (hs : seqV x = some ds) (hk : ixN ds.length k = some j) (hd : ds[j]? = some d) : fIdx x (.fz (.int k)) = .ok (.fz d) := by
  have ha : atI ds k = some d := by unfold atI; rw [hk]; exact hd
  unfold fIdx
  cases x with
  | lst ws => dsimp only; rw [hs]; dsimp only; rw [ha]
  | ob _ _ => cases hs
  | di _ => cases hs
  | fz e => cases e with
    | lst a => dsimp only; rw [hs]; dsimp only; rw [ha]
    | tup a => dsimp only; rw [hs]; dsimp only; rw [ha]
    | scr a => dsimp only; rw [hs]; dsimp only; rw [ha]
    | _ => cases hs
theorem w_intI {i : Int} : fInt [.fz (.int i)] = .ok (.fz (.int i)) := rfl
theorem w_intB {b : Bool} : fInt [.fz (.bl b)] = .ok (.fz (.int (if b then 1 else 0))) := rfl
theorem w_ix0 {a b c : D} : fIdx (.lst [.fz a, .fz b, .fz c]) (.fz (.int 0)) = .ok (.fz a) := rfl
theorem w_ix1 {a b c : D} : fIdx (.lst [.fz a, .fz b, .fz c]) (.fz (.int 1)) = .ok (.fz b) := rfl
theorem w_ix2 {a b c : D} : fIdx (.lst [.fz a, .fz b, .fz c]) (.fz (.int 2)) = .ok (.fz c) := rfl
theorem w_i0 : ixN 3 0 = some 0 := rfl
theorem w_i1 : ixN 3 1 = some 1 := rfl
theorem w_i2 : ixN 3 2 = some 2 := rfl
end
section
variable {α β γ : Type}
def kco (f : α → Res β) (g : β → Res γ) (x : α) : Res γ := (f x).bind g
theorem x_asc (r : Res α) (f : α → Res β) (g : β → Res γ) : (r.bind f).bind g = r.bind (kco f g) := by cases r <;> rfl
theorem x_kco (f : α → Res β) (g : β → Res γ) (x : α) : kco f g x = (f x).bind g := rfl
theorem x_ite {c : Prop} [Decidable c] (a b : Res α) (k : α → Res β) : (if c then a else b).bind k = if c then a.bind k else b.bind k := by split <;> rfl
def wp (r : Res α) (Q : α → Prop) : Prop := ∃ a, r = .ok a ∧ Q a
end
section
variable {q : Bool} {cbs : CBs} {ρ ρ1 ρ2 ρ3 : En} {bs : List B} {u : Unit} {ws : List W} {i jn ln : Nat} {v w x : W} {a b : W} {ds es : List D} {vs : List Nat} {it : CI} {g : CG} {ct : CT} {ce : CE}
theorem big_le {n : Nat} (h : n ≤ 1000000) : decide (n ≤ 16777216) = true := decide_eq_true (Nat.le_trans h (by omega))
theorem u_tup (h : ws.length ≤ 1000000) : ktup2 q cbs ρ bs ρ1 u (ws, ρ2) = .ok (.tmp (.fz (.tup (frzs ws))), ρ2) := by
  rw [v_tup3, big_le h]; rfl
theorem u_lst (h : ws.length ≤ 1000000) : klst2 q cbs ρ bs ρ1 u (ws, ρ2) = .ok (.tmp (.lst ws), ρ2) := by
  rw [v_lst3, big_le h]; rfl
theorem u_lc (h : ds.length ≤ 1000000) : klc1 vs it g ct ce ρ ds ρ1 u = (lcL vs g ct ce ds (wipeE ρ1 vs)).bind (klc3 vs it g ct ce ρ ds ρ1 u ()) := by
  rw [v_lc2, big_le h]; rfl
def mutA1 : Option (Option W) → Nat → W → En → Res En
  | some (some (.lst ws)), i, w, ρ => if ws.length < 16777216 then .ok (ρ.set i (some (.lst (ws ++ [w])))) else .err
  | _, _, _, _ => .err
theorem u_app0 : mutA i [] w ρ = mutA1 ρ[i]? i w ρ := by
  unfold mutA mutP mutA1
  cases h : ρ[i]? with
  | none => rfl
  | some o =>
    cases o with
    | none => rfl
    | some y =>
      cases y with
      | fz d => rfl
      | ob _ _ => rfl
      | di _ => rfl
      | lst zs =>
        show Res.bind (Res.of (if zs.length < 16777216 then some (zs ++ [w]) else none)) _ = _
        dsimp only
        by_cases hz : zs.length < 16777216
        · rw [if_pos hz, if_pos hz]; rfl
        · rw [if_neg hz, if_neg hz]; rfl
theorem u_app (h : ws.length ≤ 1000000) : mutA1 (some (some (.lst ws))) i w ρ = .ok (ρ.set i (some (.lst (ws ++ [w])))) := by
  have : ws.length < 16777216 := Nat.lt_of_le_of_lt h (by omega)
  exact if_pos this
def mutE1 : Option (Option W) → List W → Nat → En → Res En
  | some (some (.lst zs)), ws, i, ρ => if zs.length + ws.length ≤ 16777216 then .ok (ρ.set i (some (.lst (zs ++ ws)))) else .err
  | _, _, _, _ => .err
theorem u_ext0 : mutP i [] (fun zs => if zs.length + ws.length ≤ 16777216 then some (zs ++ ws) else none) ρ = mutE1 ρ[i]? ws i ρ := by
  unfold mutP mutE1
  cases h : ρ[i]? with
  | none => rfl
  | some o =>
    cases o with
    | none => rfl
    | some y =>
      cases y with
      | fz d => rfl
      | ob _ _ => rfl
      | di _ => rfl
      | lst zs =>
        show Res.bind (Res.of (if zs.length + ws.length ≤ 16777216 then some (zs ++ ws) else none)) _ = _
        dsimp only
        by_cases hz : zs.length + ws.length ≤ 16777216
        · rw [if_pos hz, if_pos hz]; rfl
        · rw [if_neg hz, if_neg hz]; rfl
theorem u_ext {zs : List W} (h : zs.length + ws.length ≤ 1000000) : mutE1 (some (some (.lst zs))) ws i ρ = .ok (ρ.set i (some (.lst (zs ++ ws)))) := by
  have : zs.length + ws.length ≤ 16777216 := Nat.le_trans h (by omega)
  exact if_pos this
theorem u_par2 : kpar22 i jn cbs ρ bs ρ1 u ([v, w], ρ2) = (chk (decide (i < ρ2.length ∧ jn < ρ2.length))).bind fun _ => .ok (.nx, (ρ2.set i (some v)).set jn (some w)) := rfl
theorem u_par3 : kpar32 i jn ln cbs ρ bs ρ1 u ([x, v, w], ρ2) = (chk (decide (i < ρ2.length ∧ jn < ρ2.length ∧ ln < ρ2.length))).bind fun _ => .ok (.nx, ((ρ2.set i (some x)).set jn (some v)).set ln (some w)) := rfl
theorem u_zip : kzip2 cbs ρ bs ρ1 u ([a, b], ρ2) = (chk (isT a == isT b)).bind fun _ => (Res.of (srcV a)).bind fun ds => (Res.of (srcV b)).bind fun es => .ok (zipD ds es, ρ2) := rfl
def aug1 : Option (Option W) → Nat → (Int → Int → Int) → CE → En → Res (Fl × En)
  | some (some (.fz (.int n))), i, f, ce, ρ => (ce ρ).bind fun (b, ρ1) => (intOf b).bind fun k => (chk (decide (i < ρ1.length))).bind fun _ => .ok (.nx, ρ1.set i (some (.fz (.int (f n k)))))
  | _, _, _, _, _ => .err
theorem u_aug0 {f : Int → Int → Int} : cAugI i f ce ρ = aug1 ρ[i]? i f ce ρ := by
  unfold cAugI aug1
  cases h : ρ[i]? with
  | none => rfl
  | some o =>
    cases o with
    | none => rfl
    | some y =>
      cases y with
      | fz d => cases d <;> rfl
      | lst zs => rfl
      | ob _ _ => rfl
      | di _ => rfl
def kaug (n : Int) (i : Nat) (f : Int → Int → Int) : B × En → Res (Fl × En) := fun (b, ρ1) => (intOf b).bind fun k => (chk (decide (i < ρ1.length))).bind fun _ => .ok (.nx, ρ1.set i (some (.fz (.int (f n k)))))
theorem u_aug {f : Int → Int → Int} {n : Int} : aug1 (some (some (.fz (.int n)))) i f ce ρ = (ce ρ).bind (kaug n i f) := rfl
theorem u_aug2 {f : Int → Int → Int} {n k : Int} (h : (decide (i < ρ1.length)) = true) : kaug n i f (.tmp (.fz (.int k)), ρ1) = .ok (.nx, ρ1.set i (some (.fz (.int (f n k))))) := by
  show Res.bind (chk (decide (i < ρ1.length))) _ = _
  rw [h]; rfl
def kch3 (j : Int) (p' : Int → Int → Bool) : B × En → Res (B × En) := fun (c, ρ3) => (intOf c).bind fun k => .ok (.tmp (.fz (.bl (p' j k))), ρ3)
def kch2 (i : Int) (p p' : Int → Int → Bool) (cc : CE) : B × En → Res (B × En) := fun (b, ρ2) => (intOf b).bind fun j => if p i j = true then (cc ρ2).bind (kch3 j p') else .ok (.tmp (.fz (.bl false)), ρ2)
def kch1 (p p' : Int → Int → Bool) (cb cc : CE) : B × En → Res (B × En) := fun (a, ρ1) => (intOf a).bind fun i => (cb ρ1).bind (kch2 i p p' cc)
theorem u_ch {p p' : Int → Int → Bool} {ca cb cc : CE} : cChainI p p' ca cb cc ρ = (ca ρ).bind (kch1 p p' cb cc) := by
  unfold cChainI kch1 kch2 kch3
  rfl
theorem u_ch1 {p p' : Int → Int → Bool} {cb cc : CE} {i : Int} : kch1 p p' cb cc (.tmp (.fz (.int i)), ρ1) = (cb ρ1).bind (kch2 i p p' cc) := rfl
theorem u_ch2 {p p' : Int → Int → Bool} {cc : CE} {i j : Int} : kch2 i p p' cc (.tmp (.fz (.int j)), ρ1) = if p i j = true then (cc ρ1).bind (kch3 j p') else .ok (.tmp (.fz (.bl false)), ρ1) := rfl
theorem u_ch3 {p' : Int → Int → Bool} {j k : Int} : kch3 j p' (.tmp (.fz (.int k)), ρ1) = .ok (.tmp (.fz (.bl (p' j k))), ρ1) := rfl
theorem e_int {a b : Int} : fEq (.fz (.int a)) (.fz (.int b)) = .ok (.fz (.bl (decide (a = b)))) := by
  have e : PyData.eqv (.int a) (.int b) = decide (a = b) := by show (a == b) = _; rfl
  show Res.bind (Res.ok (PyData.eqv (.int a) (.int b))) _ = _
  rw [e]; rfl
theorem ne_int {a b : Int} : fNe (.fz (.int a)) (.fz (.int b)) = .ok (.fz (.bl (!decide (a = b)))) := by
  have e : PyData.eqv (.int a) (.int b) = decide (a = b) := by show (a == b) = _; rfl
  show Res.bind (Res.ok (PyData.eqv (.int a) (.int b))) _ = _
  rw [e]; rfl
theorem e_bl {a b : Bool} : fEq (.fz (.bl a)) (.fz (.bl b)) = .ok (.fz (.bl (a == b))) := by
  cases a <;> cases b <;> rfl
theorem ne_bl {a b : Bool} : fNe (.fz (.bl a)) (.fz (.bl b)) = .ok (.fz (.bl (a != b))) := by
  cases a <;> cases b <;> rfl
theorem q_aa : fEq (.fz (.str "add")) (.fz (.str "add")) = .ok (.fz (.bl true)) := by kernel_rfl
theorem q_af : fEq (.fz (.str "add")) (.fz (.str "floor")) = .ok (.fz (.bl false)) := by kernel_rfl
theorem q_ac : fEq (.fz (.str "add")) (.fz (.str "cap")) = .ok (.fz (.bl false)) := by kernel_rfl
theorem q_fa : fEq (.fz (.str "floor")) (.fz (.str "add")) = .ok (.fz (.bl false)) := by kernel_rfl
theorem q_ff : fEq (.fz (.str "floor")) (.fz (.str "floor")) = .ok (.fz (.bl true)) := by kernel_rfl
theorem q_fc : fEq (.fz (.str "floor")) (.fz (.str "cap")) = .ok (.fz (.bl false)) := by kernel_rfl
theorem q_ca : fEq (.fz (.str "cap")) (.fz (.str "add")) = .ok (.fz (.bl false)) := by kernel_rfl
theorem q_cf : fEq (.fz (.str "cap")) (.fz (.str "floor")) = .ok (.fz (.bl false)) := by kernel_rfl
theorem q_cc : fEq (.fz (.str "cap")) (.fz (.str "cap")) = .ok (.fz (.bl true)) := by kernel_rfl
theorem is_non : fIsN (.fz .non) (.fz .non) = .ok (.fz (.bl true)) := rfl
theorem is_int {a : Int} : fIsN (.fz (.int a)) (.fz .non) = .ok (.fz (.bl false)) := rfl
theorem isn_non : fNotN (.fz .non) (.fz .non) = .ok (.fz (.bl false)) := rfl
theorem isn_int {a : Int} : fNotN (.fz (.int a)) (.fz .non) = .ok (.fz (.bl true)) := rfl
theorem ixN_nat {n k : Nat} (h : k < n) : ixN n (k : Int) = some k := by
  unfold ixN; rw [if_pos (by omega), if_pos (by omega), Int.toNat_natCast]
theorem ix_t0 {d : D} {ds : List D} : fIdx (.fz (.tup (d :: ds))) (.fz (.int 0)) = .ok (.fz d) := w_ix (ds := d :: ds) (j := 0) rfl (ixN_nat (k := 0) (by simp only [List.length_cons]; omega)) rfl
theorem ix_t1 {d e : D} {ds : List D} : fIdx (.fz (.tup (d :: e :: ds))) (.fz (.int 1)) = .ok (.fz e) := w_ix (ds := d :: e :: ds) (j := 1) rfl (ixN_nat (k := 1) (by simp only [List.length_cons]; omega)) rfl
theorem ix_t2 {d e f : D} {ds : List D} : fIdx (.fz (.tup (d :: e :: f :: ds))) (.fz (.int 2)) = .ok (.fz f) := w_ix (ds := d :: e :: f :: ds) (j := 2) rfl (ixN_nat (k := 2) (by simp only [List.length_cons]; omega)) rfl
theorem ix_l0 {d : D} {ds : List D} : fIdx (.fz (.lst (d :: ds))) (.fz (.int 0)) = .ok (.fz d) := w_ix (ds := d :: ds) (j := 0) rfl (ixN_nat (k := 0) (by simp only [List.length_cons]; omega)) rfl
theorem ix_l1 {d e : D} {ds : List D} : fIdx (.fz (.lst (d :: e :: ds))) (.fz (.int 1)) = .ok (.fz e) := w_ix (ds := d :: e :: ds) (j := 1) rfl (ixN_nat (k := 1) (by simp only [List.length_cons]; omega)) rfl
theorem u_irg {ce : CE} {b : B} {j : Int} (h : -1000000 ≤ j ∧ j ≤ 1000000) : kirg1 ce ρ b ρ1 j = .ok (rangeD 0 j.toNat, ρ1) := by
  have c : decide (-(2 ^ 62) ≤ j ∧ j < 2 ^ 62) = true := decide_eq_true (by omega)
  rw [v_irg2, c]; rfl
theorem u_irgB {ca cb : CE} {a b : B} {j j2 : Int} (h : -1000000 ≤ j ∧ j ≤ 1000000) (h2 : -1000000 ≤ j2 ∧ j2 ≤ 1000000) : kirgB3 ca cb ρ a ρ1 j b ρ2 j2 = .ok (rangeD j (j2 - j).toNat, ρ2) := by
  have c : decide (-(2 ^ 62) ≤ j ∧ j < 2 ^ 62 ∧ -(2 ^ 62) ≤ j2 ∧ j2 < 2 ^ 62) = true := decide_eq_true (by omega)
  rw [v_irgB4, c]; rfl
theorem u_srT : srcV (.fz (.tup ds)) = some ds := rfl
theorem u_srL : srcV (.fz (.lst ds)) = some ds := rfl
theorem u_srW : srcV (.lst ws) = some (frzs ws) := rfl
theorem u_join {o : Option W} : Option.join (some o) = o := rfl
theorem u_unT {gs : CGs} : gUnp gs (.fz (.tup ds)) ρ = gs ds ρ := rfl
theorem u_unL {gs : CGs} : gUnp gs (.fz (.lst ds)) ρ = gs ds ρ := rfl
theorem u_unW {gs : CGs} : gUnp gs (.lst ws) ρ = gs (frzs ws) ρ := rfl
theorem u_max {i j : Int} : fMax2 [.fz (.int i), .fz (.int j)] = .ok (.fz (.int (max i j))) := by
  show Res.ok (W.fz (.int (if j > i then j else i))) = _
  congr 3; split <;> omega
theorem u_min {i j : Int} : fMin2 [.fz (.int i), .fz (.int j)] = .ok (.fz (.int (min i j))) := by
  show Res.ok (W.fz (.int (if j < i then j else i))) = _
  congr 3; split <;> omega
theorem u_abs {i : Int} : fAbs [.fz (.int i)] = .ok (.fz (.int (max i (-i)))) := by
  show Res.ok (W.fz (.int (if i < 0 then -i else i))) = _
  congr 3; split <;> omega
end
end Mi
namespace Mi
open PySem PySem.Spec PyProof.Rows L2
section
variable {X : Cx} {cl : Nat → Addr} {e : Expr} {ca : CE} {qa : Bool} {pos : Pos}
structure FnG (X : Cx) (cl : Nat → Addr) (g : Addr) (F : Fn) : Prop where
  ex : ∃ k : Nat, FnR X.prog X.w X.K X.mg X.base CX0 k g (spM ⟨X.K, cl⟩ F) ∧ Room (k + 1) X.A
end
section
variable {X : Cx} {CX : CXT} {C g : Addr} {n : Nat} {sp : Sp} {E : XK}
end
end Mi
namespace Mi
open PySem PySem.Spec PyProof.Rows L2
section
variable {X : Cx} {cl : Nat → Addr} {fe e : Expr} {ca cb : CE} {qa qb : Bool} {pos p p2 : Pos}
end
end Mi
namespace Mi
open PySem PySem.Spec PyProof.Rows L2
section
variable {X : Cx} {o : Expr} {ta : TE} {f : Str} {pos : Pos}
end
abbrev Fv := List (Option D)
def FvR (C : Cfg) (H : Hp) (O : AP) : Fv → List (Option V) → Prop
  | [], vs => vs = []
  | o :: fv, vs => ∃ p r, vs = p :: r ∧ (match o with
    | none => p = none
    | some d => ∃ v, p = some v ∧ RepD C H O d v) ∧ FvR C H O fv r
section
variable {C : Cfg} {H H' : Hp} {O O' : AP}
theorem FvR.keep (k : Keep H O H' O') : ∀ {fv : Fv} {vs : List (Option V)}, FvR C H O fv vs → FvR C H' O' fv vs
  | [], vs, h => h
  | o :: fv, vs, h => by
    obtain ⟨p, r, e, h1, h2⟩ := h
    refine ⟨p, r, e, ?_, FvR.keep k h2⟩
    cases o with
    | none => exact h1
    | some d => obtain ⟨v, e, rd⟩ := h1; exact ⟨v, e, RepD.keep k d v rd⟩
theorem FvR.length : ∀ {fv : Fv} {vs : List (Option V)}, FvR C H O fv vs → vs.length = fv.length
  | [], vs, h => by rw [show vs = [] from h]; rfl
  | o :: fv, vs, h => by
    obtain ⟨p, r, e, h1, h2⟩ := h
    rw [e, List.length_cons, List.length_cons, FvR.length h2]
theorem FvR.set {d : D} {v : V} (rd : RepD C H O d v) : ∀ {fv : Fv} {vs : List (Option V)} (i : Nat), FvR C H O fv vs → FvR C H O (fv.set i (some d)) (vs.set i (some v))
  | [], vs, i, h => by rw [show vs = [] from h]; rfl
  | o :: fv, vs, 0, h => by
    obtain ⟨p, r, e, h1, h2⟩ := h
    subst e
    exact ⟨some v, r, rfl, ⟨v, rfl, rd⟩, h2⟩
  | o :: fv, vs, i + 1, h => by
    obtain ⟨p, r, e, h1, h2⟩ := h
    subst e
    exact ⟨p, r.set i (some v), rfl, h1, FvR.set rd i h2⟩
theorem FvR.nones : ∀ n : Nat, FvR C H O (List.replicate n none) (List.replicate n none)
  | 0 => rfl
  | n + 1 => ⟨none, _, rfl, rfl, FvR.nones n⟩
theorem FvR.append : ∀ {fv gv : Fv} {vs us : List (Option V)}, FvR C H O fv vs → FvR C H O gv us → FvR C H O (fv ++ gv) (vs ++ us)
  | [], gv, vs, us, h, g => by rw [show vs = [] from h]; exact g
  | o :: fv, gv, vs, us, h, g => by
    obtain ⟨p, r, e, h1, h2⟩ := h
    subst e
    exact ⟨p, r ++ us, rfl, h1, FvR.append h2 g⟩
end
structure ObjS (C : Cfg) (c : Nat) (H : Hp) (O : AP) (L : List Addr) (σ : Sg) (x dx : Addr) (fv : Fv) (vs : List (Option V)) : Prop where
  s0 : σ[0]? = some (some (.ref x))
  sl : SlX.Slt H x (C.cl c) dx vs
  ne : dx ≠ x
  ex : ∃ o, H x = some o
  ed : ∃ o, H dx = some o
  n1 : O x ∧ x ∉ L
  n2 : O dx ∧ dx ∉ L
  fr : FvR C H O fv vs
structure StI (H : Hp) (O : AP) (L : List Addr) (x dx : Addr) (H' : Hp) (O' : AP) (L' : List Addr) : Prop where
  fr : ∀ a o, H a = some o → a ∉ L → a ≠ x → a ≠ dx → H' a = some o
  nw : ∀ a, O' a → O a ∨ H a = none
  ol : ∀ a o, H a = some o → O a → a ∉ L → O' a
  ll : ∀ a ∈ L', a ∈ L ∨ H a = none
  dm : ∀ a o, H a = some o → ∃ o', H' a = some o'
theorem StI.trans {H H1 H2 : Hp} {O O1 O2 : AP} {L L1 L2 : List Addr} {x dx : Addr} (a : StI H O L x dx H1 O1 L1) (b : StI H1 O1 L1 x dx H2 O2 L2) : StI H O L x dx H2 O2 L2 where
  fr := fun c o e n n1 n2 => b.fr c o (a.fr c o e n n1 n2) (fun z => by
    rcases a.ll c z with q | q
    · exact n q
    · rw [e] at q; cases q) n1 n2
  nw := fun c q => by
    rcases b.nw c q with q | q
    · exact a.nw c q
    · refine .inr ?_
      cases e : H c with
      | none => rfl
      | some o => obtain ⟨o', e'⟩ := a.dm c o e; rw [q] at e'; cases e'
  ol := fun c o e q n => by
    obtain ⟨o', e'⟩ := a.dm c o e
    exact b.ol c o' e' (a.ol c o e q n) fun z => by
      rcases a.ll c z with r | r
      · exact n r
      · rw [e] at r; cases r
  ll := fun c z => by
    rcases b.ll c z with q | q
    · exact a.ll c q
    · refine .inr ?_
      cases e : H c with
      | none => rfl
      | some o => obtain ⟨o', e'⟩ := a.dm c o e; rw [q] at e'; cases e'
  dm := fun c o e => by
    obtain ⟨o', q⟩ := a.dm c o e
    exact b.dm c o' q
section
variable {X : Cx} {cl : Nat → Addr} {c : Nat}
theorem ObjS.step {H H1 : Hp} {O O1 : AP} {L L1 : List Addr} {σ σ1 : Sg} {x dx : Addr} {fv : Fv} {vs : List (Option V)} (ob : ObjS ⟨X.K, cl⟩ c H O L σ x dx fv vs) (own : ∀ a ∈ L, O a) (st : Stp H O L H1 O1 L1) (h0 : σ1[0]? = σ[0]?) : ObjS ⟨X.K, cl⟩ c H1 O1 L1 σ1 x dx fv vs := by
  obtain ⟨ox, hx⟩ := ob.ex
  obtain ⟨od, hd⟩ := ob.ed
  have hx1 := st.fr x ox hx ob.n1.2
  have hd1 := st.fr dx od hd ob.n2.2
  refine ⟨h0.trans ob.s0, ?_, ob.ne, ⟨_, hx1⟩, ⟨_, hd1⟩, ⟨st.ol x ox hx ob.n1.1 ob.n1.2, fun z => ?_⟩, ⟨st.ol dx od hd ob.n2.1 ob.n2.2, fun z => ?_⟩, ob.fr.keep (st.keep own)⟩
  · rcases ob.sl with ⟨h1, h2⟩ | ⟨h1, h2⟩
    · rw [hx] at h1; exact .inl ⟨by rw [hx1, h1], h2⟩
    · rw [hx] at h1; rw [hd] at h2; exact .inr ⟨by rw [hx1, h1], by rw [hd1, h2]⟩
  · rcases st.ll x z with q | q
    · exact ob.n1.2 q
    · rw [hx] at q; cases q
  · rcases st.ll dx z with q | q
    · exact ob.n2.2 q
    · rw [hd] at q; cases q
end
end Mi
namespace Mi
open PySem PySem.Spec PyProof.Rows L2
theorem StI.keep {H H' : Hp} {O O' : AP} {L L' : List Addr} {x dx : Addr} (st : StI H O L x dx H' O' L') (own : ∀ a ∈ L, O a) (ox : O x) (od : O dx) : Keep H O H' O' := fun a o e n =>
  ⟨st.fr a o e (fun z => n (own a z)) (fun z => n (by rw [z]; exact ox)) (fun z => n (by rw [z]; exact od)), fun q => by
    rcases st.nw a q with r | r
    · exact n r
    · rw [e] at r; cases r⟩
section
variable {X : Cx} {cl : Nat → Addr} {c : Nat}
end
end Mi
namespace Mi
open PySem PySem.Spec PyProof.Rows L2
def spI (C : Cfg) (c np : Nat) (I : List D → Res (List D)) : Sp := fun vs H Q _ => ∃ x dx as O ds fs, vs = V.ref x :: as ∧ as.length = np ∧ H x = some (.ins (C.cl c) dx []) ∧ H dx = some (.own x) ∧ dx ≠ x ∧ O x ∧ O dx ∧ RepDs C H O ds as ∧ I ds = .ok fs ∧
  ∀ H' O' xs ys, (∀ a o, H a = some o → a ≠ x → a ≠ dx → H' a = some o) → (∀ a o, H a = some o → O a → O' a) → H' dx = some (.xd []) → H' x = some (SlX.SlO x (C.cl c) dx ys) → Cov c xs ys → RepDs C H' O' fs xs → Q .non H'
structure MkM (X : Cx) (cl : Nat → Addr) (c : Nat) (x : Str) (np : Nat) (I : List D → Res (List D)) : Prop where
  ex : ∃ (k : Nat) (f : Addr) (fd : FuncData) (ps : List Str), FnOk X.prog X.w X.K X.mg X.base CX0 k f fd ps (spI ⟨X.K, cl⟩ c np I) ∧ Room (k + 1) X.A ∧ X.mg x = some (.ref (cl c)) ∧ Mk X.K (cl c) f ∧ (∀ ds fs, I ds = .ok fs → ds.length = np) ∧
    ∀ dd : List D, (∀ d ∈ dd, d = .non) → dd.length ≤ 2 → ∃ ds, Vals (dd.map fun _ => V.non) ds ∧ Binds X.K fd ps ds
section
variable {X : Cx} {cl : Nat → Addr} {e : Expr} {es : List Expr} {cb : CBs} {qb : Bool} {p pos : Pos}
end
end Mi
namespace Mi
open PySem PySem.Spec PyProof.Rows L2
theorem xFun {K : PySem.W.Frag} {d : DefX} (e : xObs K (d.pl K) = xVal d) (c : xOk K d = true) : ∃ fd, FunD K d.nm d.ql d.ar d.bd d.sc d.df [] (d.pl K) fd := by
  obtain ⟨c0, c1⟩ := Bool.and_eq_true_iff.mp c
  unfold xObs xVal at e
  generalize hl : K.lookup (d.pl K) = ob at e c1
  match ob, e, c1 with
  | some ⟨oc, od, .func ⟨n1, n2, n3, n4, n5, n6, n7, n8, n9, n10, n11, n12, n13, n14, n15⟩, osl⟩, e, c1 =>
    simp only [Option.some.injEq, Prod.mk.injEq] at e
    obtain ⟨h1, h2, h3, h4, h5, h6, h7, h8⟩ := e
    subst h1 h2 h3 h4 h5 h6 h7 h8
    obtain ⟨k1, k2⟩ := Bool.and_eq_true_iff.mp c1
    obtain ⟨k3, k4⟩ := Bool.and_eq_true_iff.mp k2
    exact ⟨_, ⟨oc, od, n8, n9, n10, n11, n12, n13, n14, osl, rfl, hl, k1, He.dflB_ok k3, He.kwdB_ok (kws := []) k4⟩, c0⟩
theorem obsXG_eq {n : Nat} {fa : List He.Fa} {fx : List DefX} {xb : PySem.W.Frag → Bool} {g : Addr → Option Obj} {s : Shared} (h : ∀ a, g a = s.heap.get? a) : obsXG n fa fx xb g = (hookX n fa fx xb).obs s := by
  obtain rfl : g = s.heap.get? := funext h
  rfl
section
variable {fa : List He.Fa} {fx : List DefX} {xb : PySem.W.Frag → Bool} {K : PySem.W.Frag}
theorem SaysX.all (c : SaysX fa fx xb K) : (fa.all fun f => f.ok K) = true ∧ fx.all (xOk K) = true ∧ xb K = true := by
  have h : ((fa.all fun f => f.ok K) && (fx.all (xOk K) && xb K)) = true := congrArg Prod.fst c
  simpa [Bool.and_eq_true] using h
theorem SaysX.fact (c : SaysX fa fx xb K) (i : Nat) {f : He.Fa} (h : fa[i]? = some f) : f.ok K = true := List.all_eq_true.mp c.all.1 f (List.mem_of_getElem? h)
theorem SaysX.fn (c : SaysX fa fx xb K) (i : Nat) {d : DefX} (h : fx[i]? = some d) : ∃ fd, FunD K d.nm d.ql d.ar d.bd d.sc d.df [] (d.pl K) fd := by
  have e : (fx.map fun d => xObs K (d.pl K))[i]? = (fx.map xVal)[i]? := congrArg (fun z : AlX => z.2[i]?) c
  rw [List.getElem?_map, List.getElem?_map, h] at e
  exact xFun (Option.some.inj e) (List.all_eq_true.mp c.all.2.1 d (List.mem_of_getElem? h))
end
def pga (K : PySem.W.Frag) (C : Addr) (f : Str) : Addr := match PySem.W.recIn K (He.ma K C f) "property" with
  | some (.ref g :: _) => g
  | _ => 0
structure PrF (K : PySem.W.Frag) (C : Addr) (f : Str) : Prop where
  at_ : PySem.W.findIn K (.ref C) f = some (some (.ref (He.ma K C f)))
  get : PySem.W.specialIn K (.ref (He.ma K C f)) "__get__" = some (some (.builtin "property.__get__"))
  tk : PySem.W.takesIn K (.ref (He.ma K C f)) = some true
  rc : ∃ rest, PySem.W.recIn K (He.ma K C f) "property" = some (.ref (pga K C f) :: rest)
structure MeF (K : PySem.W.Frag) (C : Addr) (m : Str) : Prop where
  at_ : PySem.W.findIn K (.ref C) m = some (some (.ref (He.ma K C m)))
  fn : PySem.W.isFn K (.ref (He.ma K C m)) = true
structure WayF (K : PySem.W.Frag) (C : Addr) (i0 i1 i2 : Nat) : Prop where
  sc : SlX.SCls K C
  s0 : SlX.Slot1 K C "own_shift" (He.ma K C "own_shift") i0
  s1 : SlX.Slot1 K C "own_floor" (He.ma K C "own_floor") i1
  s2 : SlX.Slot1 K C "own_cap" (He.ma K C "own_cap") i2
  shift : PrF K C "shift"
  floor : PrF K C "floor"
  cap : PrF K C "cap"
  text : PrF K C "text"
  call : StX.CallO K C (He.ma K C "__call__")
  rshift : MeF K C "__rshift__"
  mul : MeF K C "__mul__"
  eq : MeF K C "__eq__"
  first : PySem.W.selfFirst K C = true
  rmul : PySem.W.findIn K (.ref C) "__rmul__" = some none
  im : ∃ fo, PySem.W.findIn K (.type "int") "__mul__" = some fo
  ir : ∃ ro, PySem.W.findIn K (.type "int") "__rmul__" = some ro
  sub : PySem.W.subIn K (.type "int") (.ref C) = some false
  nf : PySem.W.notFirst K C (.ref C) = true
  isi : SlX.SIsi K C
  kit : PySem.W.kitOne K (.ref C) (.ref C) = some true
  kp : PySem.W.keepIn K (.ref C) = true
  ne : PySem.W.findIn K (.ref C) "__ne__" = some (some (.builtin "object.__ne__"))
end Mi
namespace Mi
open PySem PySem.Spec PyProof.Rows L2
section
variable {X : Cx} {cl : Nat → Addr} {a b e : Expr} {ca cb : CE} {qa qb : Bool} {pos p p2 : Pos} {i0 i1 i2 : Nat} {F : Fn}
end
structure Dg (P : Program) (w : World) (K : PySem.W.Frag) (mg : Str → Option Value) (base : Heap) (cl : Nat → Addr) (g : Addr) (k : Nat) (F : Fn) : Prop where
  ex : FnR P w K mg base CX0 k g (spM ⟨K, cl⟩ F)
structure Dm (P : Program) (w : World) (K : PySem.W.Frag) (mg : Str → Option Value) (base : Heap) (cl : Nat → Addr) (c : Nat) (x : Str) (k np : Nat) (I : List D → Res (List D)) : Prop where
  ex : ∃ (f : Addr) (fd : FuncData) (ps : List Str), FnOk P w K mg base CX0 k f fd ps (spI ⟨K, cl⟩ c np I) ∧ mg x = some (.ref (cl c)) ∧ Mk K (cl c) f ∧ (∀ ds fs, I ds = .ok fs → ds.length = np) ∧ ∀ dd : List D, (∀ d ∈ dd, d = .non) → dd.length ≤ 2 → ∃ ds, Vals (dd.map fun _ => V.non) ds ∧ Binds K fd ps ds
section
variable {P : Program} {w : World} {K : PySem.W.Frag} {mg : Str → Option Value} {base : Heap} {cl : Nat → Addr} {k j : Nat} {F : Fn} {N : List Str} {q : Str} {sc : Scope} {f : Addr} {cdv : Value} {A : Around} {outer : List Env} {s : Shared} {H : Hp} {E : XK} {g : Addr}
end
end Mi
namespace Mi
open PySem PySem.Spec PyProof.Rows L2
def fStr : List W → Res W
  | [.fz (.int i)] => if i.natAbs.log2 < 1920 then .ok (.fz (.str (toString i))) else .err
  | _ => .err
theorem cs_str {C : Cfg} : CallS C (fun xs H Q => ∃ i : Int, xs = [.int i] ∧ i.natAbs.log2 < 1920 ∧ Q (.str (toString i)) H) fStr := by
  intro H O vs ws w Q r e q
  unfold fStr at e
  split at e
  · rename_i i
    split at e
    · rename_i hi
      cases e
      obtain ⟨v, vr, L, e1, r1, r2⟩ := r
      rw [show vr = [] from r2, show v = .int i from r1.2] at e1
      exact ⟨i, e1, hi, gr_same (C := C) (O := O) (d := .str (toString i)) rfl q⟩
    · cases e
  · cases e
section
variable {X : Cx} {cl : Nat → Addr} {o e : Expr} {es : List Expr} {cbs : CBs} {ca cb : CE} {qa qb : Bool} {p pos apos : Pos}
theorem dStr (hg : Gl X "str") (hm : X.mg "str" = none) (hb : SB X cl qb (e :: es) cbs) (he : starEach (e :: es) X.env = (false, eval e X.env) :: starEach es X.env := by rfl) (hpl : (backTo pos (starEach es X.env)).any (·.1) = false := by rfl) :
    SE X cl qb (.Call (.Name "str" p) (e :: es) [] pos) (cCallB fStr cbs) := se_callTy call_str_int cs_str hg hm (by decide +kernel) hb (by decide) (by decide) he hpl
def strOf : B → Res Str
  | .tmp (.fz (.str s)) => .ok s
  | _ => .err
theorem strOf_ok {b : B} {s : Str} (h : strOf b = .ok s) : b = .tmp (.fz (.str s)) := by
  unfold strOf at h
  split at h
  · cases h; rfl
  · cases h
def strsD : List D → Option (List Str)
  | [] => some []
  | .str s :: ds => match strsD ds with
    | some ys => some (s :: ys)
    | none => none
  | _ :: _ => none
theorem strsD_rep {C : Cfg} {H : Hp} {O : AP} : ∀ {ds : List D} {xs : List V} {ys : List Str}, RepDs C H O ds xs → strsD ds = some ys → xs = ys.map V.str
  | [], xs, ys, h, e => by cases e; exact h
  | d :: ds, xs, ys, h, e => by
    obtain ⟨x, r, e1, h1, h2⟩ := h
    cases d with
    | str s =>
      simp only [strsD] at e
      cases q : strsD ds with
      | none => rw [q] at e; cases e
      | some zs => rw [q] at e; cases e; rw [e1, strsD_rep h2 q, show x = .str s from h1]; rfl
    | _ => cases e
def joinV (s : Str) (y : W) : Res W := match lsV y with
  | some ds => match strsD ds with
    | some ys => if (ys.map (·.length)).sum + ys.length * s.length ≤ 16777216 then .ok (.fz (.str (Txt.join s ys))) else .err
    | none => .err
  | none => .err
def cJoin (ca cb : CE) : CE := fun ρ => (ca ρ).bind fun (a, ρ1) => (strOf a).bind fun s => (cb ρ1).bind fun (b, ρ2) => (cont b ρ2).bind fun y => (joinV s y).bind fun w => .ok (.tmp w, ρ2)
theorem dJoin (ha : SE X cl qa o ca) (hb : SE X cl qb e cb) (hs : starEach [e] X.env = [(false, eval e X.env)] := by rfl) (hbase : attributeBase o "join" X.env (eval o X.env) = eval o X.env := by rfl) (hline : (apos.endLine == pos.line) = true := by rfl) :
    SE X cl (qa && qb) (.Call (.Attribute o "join" apos) [e] [] pos) (cJoin ca cb) := by
  refine PE.imp (pe_join ha hb hs hbase hline) fun σ H Q h => ?_
  obtain ⟨O, L, ρ, b0, ρ', env, nd, c0, q⟩ := h
  obtain ⟨⟨a, ρ1⟩, c1, c0⟩ := Res.of_bind c0
  obtain ⟨s, c2, c0⟩ := Res.of_bind c0
  obtain ⟨⟨b, ρ2⟩, c3, c0⟩ := Res.of_bind c0
  obtain ⟨y, c4, c0⟩ := Res.of_bind c0
  obtain ⟨w, c5, c0⟩ := Res.of_bind c0
  cases c0
  have ea := strOf_ok c2
  subst ea
  refine ⟨O, L, ρ, _, ρ1, env, nd, c1, fun va H1 O1 L1 La P1 => ?_⟩
  obtain ⟨eL, ev⟩ := (show RepW _ H1 O1 (.fz (.str s)) va La from P1.br)
  subst eL
  have st1 := P1.st
  rw [List.append_nil] at st1
  refine ⟨⟨s, ev⟩, O1, L1, ρ1, b, ρ', P1.env, (List.nodup_append.mp P1.nd).1, c3, fun vb H2 O2 L2 Lb P2 => ?_⟩
  have ndd := List.nodup_append.mp P2.nd
  obtain ⟨Ly, ry, _⟩ := cont_rep (T := Lb) P2.br P2.env ndd.1 (fun z hz q => ndd.2.2 z hz z q rfl) (fun z hz => hz) c4
  unfold joinV at c5
  split at c5
  · rename_i ds hd
    split at c5
    · rename_i ys hy
      split at c5
      · rename_i hz
        cases c5
        obtain ⟨t, xs, et, hl, rs⟩ := lsV_rep ry hd
        have ex := strsD_rep rs hy
        subst ex
        refine ⟨s, t, ys, ev, by rw [et], .inl hl, hz, ?_⟩
        refine q (.str (Txt.join s ys)) H2 (Less O2 Lb) L2 [] (post_of P2.env P2.nd (st1.trans P2.st) (fun hq => ?_) (Gr.refl _ _) ⟨rfl, rfl⟩)
        have hq' : qa = true ∧ qb = true := by simpa using hq
        exact ⟨(P2.qu hq'.2).1.trans (P1.qu hq'.1).1, fun z o e => (P2.qu hq'.2).2 z o ((P1.qu hq'.1).2 z o e)⟩
      · cases c5
    · cases c5
  · cases c5
end
end Mi
namespace Mi
open PySem PySem.Spec PyProof.Rows L2
section
variable {P : Program} {w : World} {K : PySem.W.Frag} {mg : Str → Option Value} {base : Heap} {cl : Nat → Addr} {k : Nat} {F : Fn} {g : Addr}
theorem Dg.of {fd : FuncData} {ps : List Str} (G : FnOk P w K mg base CX0 k g fd ps (spM ⟨K, cl⟩ F)) (hb : Binds K fd ps []) : Dg P w K mg base cl g k F :=
  ⟨(G.raw hb .nil).imp fun vs H Q E h => by rw [List.append_nil]; exact h⟩
end
section
variable {X : Cx} {cl : Nat → Addr} {s : Shared} {H : Hp} {sc : Scope} {en : Env} {fp : List Addr}
theorem FnG.blk {g : Addr} {F : Fn} (h : FnG X cl g F) : FnG (X.blk s H sc en fp) cl g F := ⟨h.ex⟩
theorem MkM.blk {c np : Nat} {x : Str} {I : List D → Res (List D)} (h : MkM X cl c x np I) : MkM (X.blk s H sc en fp) cl c x np I := ⟨h.ex⟩
end
end Mi
namespace Mi
open PySem PySem.Spec PyProof.Rows L2
section
variable {C : Cfg} {X : Cx} {cl : Nat → Addr} {a b : Expr} {ca cb : CE} {qa qb : Bool} {pos : Pos}
end
end Mi
namespace Mi
open PySem PySem.Spec PyProof.Rows L2
def ins (x : Int) : List Int → List Int
  | [] => [x]
  | y :: ys => if x ≤ y then x :: y :: ys else y :: ins x ys
def isort : List Int → List Int
  | [] => []
  | x :: xs => ins x (isort xs)
theorem ins_perm (x : Int) : ∀ l : List Int, (ins x l).Perm (x :: l)
  | [] => .refl _
  | y :: ys => by
    unfold ins
    split
    · exact .refl _
    · exact ((ins_perm x ys).cons y).trans (.swap x y ys)
theorem isort_perm : ∀ l : List Int, (isort l).Perm l
  | [] => .refl _
  | x :: xs => (ins_perm x (isort xs)).trans ((isort_perm xs).cons x)
theorem ins_asc {x : Int} : ∀ {l : List Int}, l.Pairwise (· ≤ ·) → (ins x l).Pairwise (· ≤ ·)
  | [], _ => by simp [ins]
  | y :: ys, h => by
    have h1 := List.pairwise_cons.mp h
    unfold ins
    split
    · rename_i hxy
      refine List.pairwise_cons.mpr ⟨fun z hz => ?_, h⟩
      rcases List.mem_cons.mp hz with rfl | hz
      · exact hxy
      · have := h1.1 z hz; omega
    · refine List.pairwise_cons.mpr ⟨fun z hz => ?_, ins_asc h1.2⟩
      rcases List.mem_cons.mp ((ins_perm x ys).mem_iff.mp hz) with rfl | hz
      · omega
      · exact h1.1 z hz
theorem isort_asc : ∀ l : List Int, (isort l).Pairwise (· ≤ ·)
  | [] => .nil
  | x :: xs => ins_asc (isort_asc xs)
theorem asc_eq : ∀ {a b : List Int}, a.Pairwise (· ≤ ·) → b.Pairwise (· ≤ ·) → a.Perm b → a = b
  | [], b, _, _, p => (List.nil_perm.mp p).symm
  | x :: a, [], _, _, p => absurd p.length_eq (by simp)
  | x :: a, y :: b, ha, hb, p => by
    have h1 := List.pairwise_cons.mp ha
    have h2 := List.pairwise_cons.mp hb
    have m1 : x ∈ y :: b := p.mem_iff.mp (by simp)
    have m2 : y ∈ x :: a := p.mem_iff.mpr (by simp)
    have e : x = y := by
      rcases List.mem_cons.mp m1 with e | m1
      · exact e
      · rcases List.mem_cons.mp m2 with e | m2
        · exact e.symm
        · have := h2.1 x m1; have := h1.1 y m2; omega
    subst e
    rw [asc_eq h1.2 h2.2 ((List.perm_cons x).mp p)]
section
variable {P : Program} {w : World} {A : Around} {E : Value → Shared → Prop} {s : Shared}
end
section
variable {X : Cx} {cl : Nat → Addr} {e : Expr} {ca : CE} {qa : Bool} {p p2 pos pos2 : Pos} {es : List Expr} {cbs : CBs} {qb : Bool}
end
end Mi
namespace Mi
open PySem PySem.Spec PyProof.Rows L2
def lcL2 (vs vs1 : List Nat) (g : CG) (ct : CT) (ci1 : CI) (g1 : CG) (ct1 : CT) (ce : CE) : List D → En → Res (List W × En)
  | [], ρ => .ok ([], ρ)
  | d :: ds, ρ => (g (.fz d) ρ).bind fun ρa => (ct ρa).bind fun (k, ρb) => if k = true then (ci1 ρb).bind fun (es, ρc) => (chk (vs1.all fun v => decide (v < ρc.length))).bind fun _ => (lcL vs1 g1 ct1 ce es (wipeE ρc vs1)).bind fun (ws, ρd) =>
      (lcL2 vs vs1 g ct ci1 g1 ct1 ce ds (wipeE ρd vs)).bind fun (ws', ρ') => .ok (ws ++ ws', ρ')
    else lcL2 vs vs1 g ct ci1 g1 ct1 ce ds (wipeE ρb vs)
def cLc2 (vs vs1 : List Nat) (ci : CI) (g : CG) (ct : CT) (ci1 : CI) (g1 : CG) (ct1 : CT) (ce : CE) : CE := fun ρ => (ci ρ).bind fun (ds, ρ1) => (chk (vs.all fun v => decide (v < ρ1.length))).bind fun _ =>
  (lcL2 vs vs1 g ct ci1 g1 ct1 ce ds (wipeE ρ1 vs)).bind fun (ws, ρ2) => (chk (decide (ws.length ≤ 16777216))).bind fun _ => .ok (.tmp (.lst ws), restE ρ1 vs ρ2)
theorem wipe_sub {σ : Sg} {vs vs1 : List Nat} (h : ∀ i ∈ vs1, i ∈ vs) : wipe (wipe σ vs1) vs = wipe σ vs := by
  refine wipe_ext (wipe_length σ vs1) fun j hj => ?_
  exact wipe_out fun z => hj (h j z)
section
variable {C : Cfg} {g1 : CG} {ct1 : CT} {ce : CE} {qt qe : Bool}
theorem lc_inner {vs1 : List Nat} {σ4 : Sg} {H1 H6 : Hp} {O1 O6 : AP} {Li L6 La : List Addr} {ρc ρd : En} {wsd ws1 : List W} {Dd : Addr} {J1 : It} {es : List D} {Nx : Hp → Prop}
    (e6 : EnvR C H6 O6 ρc σ4 L6) (ra : RepW C H6 O6 (.lst wsd) (.ref Dd) La) (nda : (L6 ++ La).Nodup) (st : Stp H1 O1 Li H6 O6 (L6 ++ La)) (jr : JR C H6 O6 J1 es)
    (c2 : lcL vs1 g1 ct1 ce es (wipeE ρc vs1) = .ok (ws1, ρd)) (hv1 : ∀ v ∈ vs1, v < ρc.length) (hlen : wsd.length + ws1.length ≤ 16777216)
    (fin : ∀ H' O' L' La', EnvR C H' O' ρd (wipe σ4 vs1) L' → RepW C H' O' (.lst (wsd ++ ws1)) (.ref Dd) La' → (L' ++ La').Nodup → Stp H1 O1 Li H' O' (L' ++ La') → Nx H') :
    ∃ W1 : Nat → Nat → Hp → Prop, (∃ m, W1 0 m H6) ∧ ∀ j k H, W1 j k H → (J1.stop j H ∧ Nx H) ∨ (J1.go j H ∧ ∃ Nx1 : Hp → Prop, (∀ H', Nx1 H' → ∃ k', k' < k ∧ W1 (j + 1) k' H') ∧ ∀ x H', J1.yld j H x H' →
      tG C (kpOf vs1) g1 x (wipe σ4 vs1) H' fun σ3 H5 => wipe σ3 vs1 = wipe σ4 vs1 ∧ tT C qt ct1 σ3 H5 fun b H6 => if b = true then tE C qe ce σ3 H6 fun y H7 => ∃ acc, H7 Dd = some (.lst acc) ∧ acc.length < sizeLine ∧ Nx1 (upd H7 Dd (.lst (acc ++ [y]))) else Nx1 H6) := by
  obtain ⟨Lo, Lw0, pm, envI, _⟩ := e6.split hv1
  have owA0 : ∀ a ∈ La, O6 a ∧ ∃ xs, H6 a = some xs := RepW.own _ _ _ ra
  have nd0 : (Lw0 ++ La).Nodup := by
    have n1 := List.nodup_append.mp nda
    have n2 := (List.nodup_append.mp (pm.nodup_iff.mp n1.1)).2.1
    exact List.nodup_append.mpr ⟨n2, n1.2.1, fun a ha b hb => n1.2.2 a (pm.mem_iff.mpr (by simp [ha])) b hb⟩
  have st0 : Stp H1 O1 Li H6 O6 (Lw0 ++ La) := st.perm fun a ha => by
    rcases List.mem_append.mp ha with h | h
    · exact List.mem_append_left _ (pm.mem_iff.mpr (by simp [h]))
    · exact List.mem_append_right _ h
  refine ⟨fun j m H2 => m = es.length - j ∧ j ≤ es.length ∧ ∃ O2 L2 ρi wd wr Lb, EnvR C H2 O2 ρi (wipe σ4 vs1) L2 ∧ RepW C H2 O2 (.lst wd) (.ref Dd) Lb ∧ (L2 ++ Lb).Nodup ∧ Stp H1 O1 Li H2 O2 (L2 ++ Lb) ∧ Keep H6 O6 H2 O2 ∧ (∀ v ∈ vs1, ρi[v]? = some none) ∧
      lcL vs1 g1 ct1 ce (es.drop j) ρi = .ok (wr, ρd) ∧ wsd ++ ws1 = wd ++ wr, ⟨es.length, by simp, Nat.zero_le _, O6, Lw0, wipeE ρc vs1, wsd, ws1, La, envI, ra, nd0, st0, Keep.refl _ _, fun v hv => wipeE_none ρc hv (hv1 v hv), by simpa using c2, rfl⟩, ?_⟩
  rintro j m H2 ⟨rfl, hj, O2, L2, ρi, wd, wr, Lb, e2, rb, nd2, st2, kp2, hn, c3, ew⟩
  obtain ⟨jgo, jstop⟩ := jr j H2 O2 kp2
  have ndd := List.nodup_append.mp nd2
  by_cases hlt : j < es.length
  · refine .inr ?_
    have ed : es.drop j = es[j] :: es.drop (j + 1) := List.drop_eq_getElem_cons hlt
    obtain ⟨go, yl⟩ := jgo es[j] (List.getElem?_eq_getElem hlt)
    rw [ed] at c3
    obtain ⟨ρa, c4, c3⟩ := Res.of_bind c3
    obtain ⟨⟨k, ρb⟩, c5, c3⟩ := Res.of_bind c3
    refine ⟨go, fun H' => j + 1 ≤ es.length ∧ ∃ O2 L2 ρi wd wr Lb, EnvR C H' O2 ρi (wipe σ4 vs1) L2 ∧ RepW C H' O2 (.lst wd) (.ref Dd) Lb ∧ (L2 ++ Lb).Nodup ∧ Stp H1 O1 Li H' O2 (L2 ++ Lb) ∧ Keep H6 O6 H' O2 ∧ (∀ v ∈ vs1, ρi[v]? = some none) ∧
        lcL vs1 g1 ct1 ce (es.drop (j + 1)) ρi = .ok (wr, ρd) ∧ wsd ++ ws1 = wd ++ wr, fun H' hN => ⟨es.length - (j + 1), by omega, rfl, hN.1, hN.2⟩, fun x H3 hy => ?_⟩
    obtain ⟨O3, gr, rd⟩ := yl x H3 hy
    have env3 := e2.grow gr
    have owA : ∀ a ∈ Lb, O2 a ∧ ∃ xs, H2 a = some xs := RepW.own _ _ _ rb
    have own2 : ∀ a ∈ L2, O2 a := fun a ha => (e2.own a ha).1
    have ownAll : ∀ a ∈ L2 ++ Lb, O2 a := fun a ha => (List.mem_append.mp ha).elim (own2 a) fun h => (owA a h).1
    have st3 : Stp H2 O2 L2 H3 O3 L2 := by have := gr.stp (L := L2); rw [List.append_nil] at this; exact this
    have dA : ∀ a ∈ Lb, a ∉ L2 := fun a ha z => ndd.2.2 a z a ha rfl
    refine ⟨O3, L2, [], ρi, .fz es[j], ρa, env3, ⟨rfl, rd⟩, by rw [List.append_nil]; exact ndd.1, c4, fun σ5 H4 O4 L4 P4 => ?_⟩
    have s4 := P4.st
    rw [List.append_nil, List.append_nil] at s4
    have hw5 : wipe σ5 vs1 = wipe σ4 vs1 := by
      rw [← wipe_wipe (σ := σ4) (vs := vs1)]
      exact wipe_ext P4.ln fun i hi => P4.kp i (kpOf_out hi)
    refine ⟨hw5, O4, L4, ρa, k, ρb, P4.env, P4.nd1, c5, fun H5 O5 L5 P5 => ?_⟩
    have s25 : Stp H2 O2 L2 H5 O5 L5 := (st3.trans s4).trans P5.st
    have lens : ∀ {ρx : En} {Hx : Hp} {Ox : AP} {Lx : List Addr}, EnvR C Hx Ox ρx σ5 Lx → ∀ v ∈ vs1, v < ρx.length := fun {ρx Hx Ox Lx} ex v hv' => by
      have h1 := ex.length
      have h2 := P4.ln
      have h3 := wipe_length σ4 vs1
      have h4 := e6.length
      have := hv1 v hv'
      omega
    cases k with
    | true =>
      refine iteT ?_
      obtain ⟨⟨b, ρx⟩, c6, c3⟩ := Res.of_bind c3
      obtain ⟨⟨w, ρy⟩, c7, c3⟩ := Res.of_bind c3
      obtain ⟨⟨ws', ρe⟩, c8, c3⟩ := Res.of_bind c3
      cases c3
      refine ⟨O5, L5, ρb, b, ρx, P5.env, P5.nd, c6, fun y H7 O7 L7 Lc P6 => ?_⟩
      obtain ⟨O8, L8, Lw, g1', g2', g3', g4, g5, g6⟩ := take_rep P6.br P6.env P6.nd c7
      have s67 : Stp H7 O7 (L7 ++ Lc) H7 O8 (L8 ++ Lw) := Stp.ofO g4 g5 g6
      have s27 : Stp H2 O2 L2 H7 O8 (L8 ++ Lw) := (s25.trans P6.st).trans s67
      have rb7 : RepW C H7 O8 (.lst wd) (.ref Dd) Lb := RepW.keep _ _ _ (s27.keepL own2 (fun a ha => (owA a ha).1) dA) rb
      have nd7 : (L8 ++ Lw ++ Lb).Nodup := nodup_frame s27 g3' ndd.2.1 (fun a ha => let ⟨_, xs, e⟩ := owA a ha; ⟨_, e⟩) dA
      obtain ⟨a0, acc, Lacc, ea, h1, h2, h3, racc⟩ := rb7
      cases ea
      subst h3
      have hl1 : acc.length = wd.length := racc.length
      have hl2 : wd.length + (w :: ws').length = wsd.length + ws1.length := by
        have := congrArg List.length ew
        simp only [List.length_append] at this
        omega
      refine ⟨acc, h1, by rw [hl1, sizeLine_eq]; simp only [List.length_cons] at hl2; omega, hlt, O8, ?_⟩
      have ow7 : ∀ a ∈ L8, O8 a := fun a ha => (g1'.own a ha).1
      have owW : ∀ a ∈ Lw, O8 a := fun a ha => (RepW.own w y Lw g2' a ha).1
      have owC : ∀ a ∈ Lacc, O8 a := fun a ha => (RepWs.own wd acc Lacc racc a ha).1
      have nn := List.nodup_append.mp nd7
      have dD : Dd ∉ L8 ++ Lw := fun z => nn.2.2 Dd z Dd (by simp) rfl
      have dC : Dd ∉ Lacc := (List.nodup_cons.mp nn.2.1).1
      have env8 : EnvR C (upd H7 Dd (.lst (acc ++ [y]))) O8 ρy σ5 L8 := EnvR.keep (keep_mut h2 (fun z => dD (by simp [z])) ow7) g1'
      have rw8 : RepW C (upd H7 Dd (.lst (acc ++ [y]))) O8 w y Lw := RepW.keep _ _ _ (keep_mut h2 (fun z => dD (by simp [z])) owW) g2'
      have rc8 : RepWs C (upd H7 Dd (.lst (acc ++ [y]))) O8 wd acc Lacc := RepWs.keep _ _ _ (keep_mut h2 dC owC) racc
      obtain ⟨Lo8, Li8, pm8, envW, _⟩ := env8.split (vs := vs1) (lens env8)
      rw [hw5] at envW
      have sm : Stp H7 O8 (L8 ++ Lw ++ (Dd :: Lacc)) (upd H7 Dd (.lst (acc ++ [y]))) O8 (L8 ++ Lw ++ (Dd :: Lacc)) := Stp.mut (by simp) h1
      have s2m : Stp H2 O2 (L2 ++ (Dd :: Lacc)) (upd H7 Dd (.lst (acc ++ [y]))) O8 (L8 ++ Lw ++ (Dd :: Lacc)) := (s27.frame (Dd :: Lacc)).trans sm
      refine ⟨Li8, wipeE ρy vs1, wd ++ [w], ws', Dd :: (Lacc ++ Lw), envW, ⟨Dd, acc ++ [y], Lacc ++ Lw, rfl, upd_same, h2, rfl, RepWs.append rc8 (RepWs.one rw8)⟩, ?_, ?_, kp2.trans (s2m.keep ownAll), fun v hv' => wipeE_none ρy hv' (lens env8 v hv'), c8, by rw [ew]; simp⟩
      · have p1 : (L8 ++ (Dd :: (Lacc ++ Lw))).Nodup := by
          have pp : (L8 ++ Lw ++ Dd :: Lacc).Perm (L8 ++ (Dd :: (Lacc ++ Lw))) := by
            rw [List.append_assoc]
            refine List.Perm.append_left L8 ?_
            exact List.perm_append_comm.trans (by simp)
          exact pp.nodup_iff.mp nd7
        have sub : ∀ a ∈ Li8, a ∈ L8 := fun a ha => pm8.mem_iff.mpr (by simp [ha])
        have ndL : Li8.Nodup := (List.nodup_append.mp (pm8.nodup_iff.mp (List.nodup_append.mp p1).1)).2.1
        exact List.nodup_append.mpr ⟨ndL, (List.nodup_append.mp p1).2.1, fun a ha b hb => (List.nodup_append.mp p1).2.2 a (sub a ha) b hb⟩
      · refine (st2.trans s2m).perm fun a ha => ?_
        simp only [List.mem_append, List.mem_cons] at ha ⊢
        rcases ha with ha | ha | ha | ha
        · exact .inl (.inl (pm8.mem_iff.mpr (by simp [ha])))
        · exact .inr (.inl ha)
        · exact .inr (.inr ha)
        · exact .inl (.inr ha)
    | false =>
      refine iteF ?_
      have rb5 : RepW C H5 O5 (.lst wd) (.ref Dd) Lb := RepW.keep _ _ _ (s25.keepL own2 (fun a ha => (owA a ha).1) dA) rb
      have nd5 : (L5 ++ Lb).Nodup := nodup_frame s25 P5.nd ndd.2.1 (fun a ha => let ⟨_, xs, e⟩ := owA a ha; ⟨_, e⟩) dA
      obtain ⟨Lo8, Li8, pm8, envW, _⟩ := P5.env.split (vs := vs1) (lens P5.env)
      rw [hw5] at envW
      have sub : ∀ a ∈ Li8, a ∈ L5 := fun a ha => pm8.mem_iff.mpr (by simp [ha])
      refine ⟨hlt, O5, Li8, wipeE ρb vs1, wd, wr, Lb, envW, rb5, ?_, ?_, kp2.trans ((s25.frame Lb).keep ownAll), fun v hv' => wipeE_none ρb hv' (lens P5.env v hv'), c3, ew⟩
      · have ndL : Li8.Nodup := (List.nodup_append.mp (pm8.nodup_iff.mp P5.nd)).2.1
        exact List.nodup_append.mpr ⟨ndL, ndd.2.1, fun a ha b hb => (List.nodup_append.mp nd5).2.2 a (sub a ha) b hb⟩
      · refine (st2.trans (s25.frame Lb)).perm fun a ha => ?_
        simp only [List.mem_append] at ha ⊢
        rcases ha with ha | ha
        · exact .inl (sub a ha)
        · exact .inr ha
  · refine .inl ⟨jstop (by omega), ?_⟩
    rw [List.drop_eq_nil_of_le (by omega)] at c3
    cases c3
    rw [List.append_nil] at ew
    rw [← ew] at rb
    exact fin H2 O2 L2 Lb e2 rb nd2 st2
end
section
variable {X : Cx} {cl : Nat → Addr} {elt tg iter tg1 iter1 : Expr} {ifs ifs1 : List Expr} {scope : Scope} {own : List (Str × Nat)} {vs1 : List Nat} {pos : Pos} {ci ci1 : CI} {g g1 : CG} {ct ct1 : CT} {ce : CE} {qt qt1 qe : Bool}
theorem lc2_mir {vs : List Nat} {C : Cfg} {σ : Sg} {H : Hp} {Q : VK} (hsub : ∀ i ∈ vs1, i ∈ vs) (h : tE C false (cLc2 vs vs1 ci g ct ci1 g1 ct1 ce) σ H Q) : tLc2 (tI C ci) (tG C (kpOf vs) g) (tT C qt ct) (tI C ci1) (tG C (kpOf vs1) g1) (tT C qt1 ct1) (tE C qe ce) vs vs1 σ H Q := by
  obtain ⟨O, L, ρ, b0, ρ', env, nd, c, q⟩ := h
  obtain ⟨⟨ds, ρ1⟩, c1, c⟩ := Res.of_bind c
  obtain ⟨_, cv, c⟩ := Res.of_bind c
  obtain ⟨⟨ws, ρ2⟩, c2, c⟩ := Res.of_bind c
  obtain ⟨_, cz, c⟩ := Res.of_bind c
  cases c
  have hz : ws.length ≤ 16777216 := chk_dec cz
  refine ⟨O, L, ρ, ds, ρ1, env, nd, c1, fun J H1 O1 L1 env1 nd1 st1 jr Dd hD => ?_⟩
  have hv : ∀ v ∈ vs, v < ρ1.length := fun v hv => by
    have := List.all_eq_true.mp (chk_ok cv) v hv
    exact of_decide_eq_true this
  obtain ⟨Lo, Li, pm, envI, rest⟩ := env1.split hv
  have own1 : ∀ a ∈ L1, O1 a := fun a ha => (env1.own a ha).1
  have ndS : (Lo ++ Li).Nodup := pm.nodup_iff.mp nd1
  have ownI : ∀ a ∈ Li, O1 a := fun a ha => own1 a (pm.mem_iff.mpr (by simp [ha]))
  have ownO : ∀ a ∈ Lo, O1 a := fun a ha => own1 a (pm.mem_iff.mpr (by simp [ha]))
  have disO : ∀ a ∈ Lo, a ∉ Li := fun a ha z => (List.nodup_append.mp ndS).2.2 a ha a z rfl
  refine ⟨fun i m H2 => m = ds.length - i ∧ i ≤ ds.length ∧ ∃ O2 L2 ρi wsd wsr La, EnvR C H2 O2 ρi (wipe σ vs) L2 ∧ RepW C H2 O2 (.lst wsd) (.ref Dd) La ∧ (L2 ++ La).Nodup ∧ Stp H1 O1 Li H2 O2 (L2 ++ La) ∧ (∀ v ∈ vs, ρi[v]? = some none) ∧
      lcL2 vs vs1 g ct ci1 g1 ct1 ce (ds.drop i) ρi = .ok (wsr, ρ2) ∧ ws = wsd ++ wsr, ⟨ds.length, by simp, Nat.zero_le _, fun a => O1 a ∨ a = Dd, Li, wipeE ρ1 vs, [], ws, [Dd], ?_, ?_, ?_, ?_, ?_, ?_, rfl⟩, ?_⟩
  · exact envI.grow (Gr.newO hD)
  · exact ⟨Dd, [], [], rfl, upd_same, .inr rfl, rfl, rfl, rfl⟩
  · refine List.nodup_append.mpr ⟨(List.nodup_append.mp ndS).2.1, by simp, fun a ha b hb e => ?_⟩
    have e2 : b = Dd := by simpa using hb
    subst e; subst e2
    obtain ⟨_, xs, z⟩ := envI.own a ha
    rw [hD] at z; cases z
  · exact (Gr.newO hD).stp
  · exact fun v hv' => wipeE_none ρ1 hv' (hv v hv')
  · simpa using c2
  · rintro i m H2 ⟨rfl, hi, O2, L2, ρi, wsd, wsr, La, e2, ra, nd2, st2, hn, c3, ew⟩
    obtain ⟨jgo, jstop⟩ := jr i H2 O2 (st2.keep ownI)
    have ndd := List.nodup_append.mp nd2
    by_cases hlt : i < ds.length
    · refine .inr ?_
      have ed : ds.drop i = ds[i] :: ds.drop (i + 1) := List.drop_eq_getElem_cons hlt
      obtain ⟨go, yl⟩ := jgo ds[i] (List.getElem?_eq_getElem hlt)
      rw [ed] at c3
      obtain ⟨ρa, c4, c3⟩ := Res.of_bind c3
      obtain ⟨⟨k, ρb⟩, c5, c3⟩ := Res.of_bind c3
      refine ⟨go, fun H' => i + 1 ≤ ds.length ∧ ∃ O2 L2 ρi wsd wsr La, EnvR C H' O2 ρi (wipe σ vs) L2 ∧ RepW C H' O2 (.lst wsd) (.ref Dd) La ∧ (L2 ++ La).Nodup ∧ Stp H1 O1 Li H' O2 (L2 ++ La) ∧ (∀ v ∈ vs, ρi[v]? = some none) ∧
          lcL2 vs vs1 g ct ci1 g1 ct1 ce (ds.drop (i + 1)) ρi = .ok (wsr, ρ2) ∧ ws = wsd ++ wsr, fun H' hN => ⟨ds.length - (i + 1), by omega, rfl, hN.1, hN.2⟩, fun x H3 hy => ?_⟩
      obtain ⟨O3, gr, rd⟩ := yl x H3 hy
      have env3 := e2.grow gr
      have owA : ∀ a ∈ La, O2 a ∧ ∃ xs, H2 a = some xs := RepW.own _ _ _ ra
      have st3 : Stp H2 O2 L2 H3 O3 L2 := by have := gr.stp (L := L2); rw [List.append_nil] at this; exact this
      have dA : ∀ a ∈ La, a ∉ L2 := fun a ha z => ndd.2.2 a z a ha rfl
      refine ⟨O3, L2, [], ρi, .fz ds[i], ρa, env3, ⟨rfl, rd⟩, by rw [List.append_nil]; exact ndd.1, c4, fun σ4 H4 O4 L4 P4 => ?_⟩
      have s4 := P4.st
      rw [List.append_nil, List.append_nil] at s4
      have hw4 : wipe σ4 vs = wipe σ vs := by
        rw [← wipe_wipe (σ := σ) (vs := vs)]
        exact wipe_ext P4.ln fun j hj => P4.kp j (kpOf_out hj)
      refine ⟨hw4, O4, L4, ρa, k, ρb, P4.env, P4.nd1, c5, fun H5 O5 L5 P5 => ?_⟩
      have s25 : Stp H2 O2 L2 H5 O5 L5 := (st3.trans s4).trans P5.st
      have own2 : ∀ a ∈ L2, O2 a := fun a ha => (e2.own a ha).1
      have lens : ∀ {ρx : En} {Hx : Hp} {Ox : AP} {Lx : List Addr} {σx : Sg}, σx.length = σ4.length → EnvR C Hx Ox ρx σx Lx → ∀ v ∈ vs, v < ρx.length := fun {ρx Hx Ox Lx σx} hx ex v hv' => by
        have h1 := ex.length
        have h2 := P4.ln
        have h3 := wipe_length σ vs
        have h4 := env1.length
        have := hv v hv'
        omega
      have ra5 : RepW C H5 O5 (.lst wsd) (.ref Dd) La := RepW.keep _ _ _ (s25.keepL own2 (fun a ha => (owA a ha).1) dA) ra
      have nd5 : (L5 ++ La).Nodup := nodup_frame s25 P5.nd ndd.2.1 (fun a ha => let ⟨_, xs, e⟩ := owA a ha; ⟨_, e⟩) dA
      cases k with
      | true =>
        refine iteT ?_
        obtain ⟨⟨es, ρc⟩, c6, c3⟩ := Res.of_bind c3
        obtain ⟨_, cv1, c3⟩ := Res.of_bind c3
        obtain ⟨⟨ws1, ρd⟩, c7, c3⟩ := Res.of_bind c3
        obtain ⟨⟨ws', ρe⟩, c8, c3⟩ := Res.of_bind c3
        cases c3
        have hv1 : ∀ v ∈ vs1, v < ρc.length := fun v hv => by
          have := List.all_eq_true.mp (chk_ok cv1) v hv
          exact of_decide_eq_true this
        refine ⟨O5, L5, ρb, es, ρc, P5.env, P5.nd, c6, fun J1 H6 O6 L6 env6 nd6 st6 jr1 => ?_⟩
        have owA5 : ∀ a ∈ La, O5 a ∧ ∃ xs, H5 a = some xs := RepW.own _ _ _ ra5
        have dA5 : ∀ a ∈ La, a ∉ L5 := fun a ha z => (List.nodup_append.mp nd5).2.2 a z a ha rfl
        have ra6 : RepW C H6 O6 (.lst wsd) (.ref Dd) La := RepW.keep _ _ _ (st6.keepL (fun a ha => (P5.env.own a ha).1) (fun a ha => (owA5 a ha).1) dA5) ra5
        have nda : (L6 ++ La).Nodup := nodup_frame st6 nd6 ndd.2.1 (fun a ha => let ⟨_, xs, e⟩ := owA5 a ha; ⟨_, e⟩) dA5
        have s6 : Stp H1 O1 Li H6 O6 (L6 ++ La) := (st2.trans (s25.frame La)).trans (st6.frame La)
        refine lc_inner env6 ra6 nda s6 jr1 c7 hv1 (by
          have := congrArg List.length ew
          simp only [List.length_append] at this
          omega) fun H' O' L' La' ex rx nx sx => ?_
        obtain ⟨Lo8, Li8, pm8, envW, _⟩ := ex.split (vs := vs) (lens (wipe_length _ _) ex)
        rw [wipe_sub hsub, hw4] at envW
        have sub : ∀ a ∈ Li8, a ∈ L' := fun a ha => pm8.mem_iff.mpr (by simp [ha])
        refine ⟨hlt, O', Li8, wipeE ρd vs, wsd ++ ws1, ws', La', envW, rx, ?_, ?_, fun v hv' => wipeE_none ρd hv' (lens (wipe_length _ _) ex v hv'), c8, by rw [ew, List.append_assoc]⟩
        · have ndL : Li8.Nodup := (List.nodup_append.mp (pm8.nodup_iff.mp (List.nodup_append.mp nx).1)).2.1
          exact List.nodup_append.mpr ⟨ndL, (List.nodup_append.mp nx).2.1, fun a ha b hb => (List.nodup_append.mp nx).2.2 a (sub a ha) b hb⟩
        · refine sx.perm fun a ha => ?_
          simp only [List.mem_append] at ha ⊢
          rcases ha with ha | ha
          · exact .inl (sub a ha)
          · exact .inr ha
      | false =>
        refine iteF ?_
        obtain ⟨Lo8, Li8, pm8, envW, _⟩ := P5.env.split (vs := vs) (lens rfl P5.env)
        rw [hw4] at envW
        have sub : ∀ a ∈ Li8, a ∈ L5 := fun a ha => pm8.mem_iff.mpr (by simp [ha])
        refine ⟨hlt, O5, Li8, wipeE ρb vs, wsd, wsr, La, envW, ra5, ?_, ?_, fun v hv' => wipeE_none ρb hv' (lens rfl P5.env v hv'), c3, ew⟩
        · have ndL : Li8.Nodup := (List.nodup_append.mp (pm8.nodup_iff.mp P5.nd)).2.1
          exact List.nodup_append.mpr ⟨ndL, ndd.2.1, fun a ha b hb => (List.nodup_append.mp nd5).2.2 a (sub a ha) b hb⟩
        · refine (st2.trans (s25.frame La)).perm fun a ha => ?_
          simp only [List.mem_append] at ha ⊢
          rcases ha with ha | ha
          · exact .inl (sub a ha)
          · exact .inr ha
    · refine .inl ⟨jstop (by omega), ?_⟩
      rw [List.drop_eq_nil_of_le (by omega)] at c3
      cases c3
      rw [List.append_nil] at ew
      subst ew
      obtain ⟨L3, p3, env3⟩ := rest H2 O2 ρ2 L2 (st2.keepL ownI ownO disO) e2 hn
      have nd4 : (L2 ++ La ++ Lo).Nodup := nodup_frame st2 nd2 (List.nodup_append.mp ndS).1 (fun a ha => let ⟨_, xs, e⟩ := env1.own a (pm.mem_iff.mpr (by simp [ha])); ⟨_, e⟩) disO
      have pp : (L2 ++ La ++ Lo).Perm (L3 ++ La) := by
        refine List.perm_append_comm.trans ?_
        rw [← List.append_assoc]
        exact List.Perm.append_right La p3.symm
      refine q (.ref Dd) H2 O2 L3 La ⟨env3, ra, pp.nodup_iff.mp nd4, ?_, fun z => by cases z⟩
      have sL : Stp H1 O1 L1 H2 O2 (L3 ++ La) := by
        have s1 : Stp H1 O1 (Li ++ Lo) H2 O2 (L2 ++ La ++ Lo) := st2.frame Lo
        refine ⟨fun a o e n => s1.fr a o e fun z => n (pm.mem_iff.mpr (by simp only [List.mem_append] at z ⊢; exact z.symm)), s1.nw, fun a o e qq n => s1.ol a o e qq fun z => n (pm.mem_iff.mpr (by simp only [List.mem_append] at z ⊢; exact z.symm)), fun a ha => ?_, s1.dm⟩
        rcases s1.ll a (pp.mem_iff.mpr ha) with z | z
        · exact .inl (pm.mem_iff.mpr (by simp only [List.mem_append] at z ⊢; exact z.symm))
        · exact .inr z
      exact st1.trans sL
theorem se_lc2 (hc : X.calm = true) (hN : X.N.Nodup) (hi : SI X cl tg iter ci) (ok : BlkOk X.N X.env.scope scope own) (hv : ∀ i ∈ vs1, i ∈ own.map (·.2))
    (hg : ∀ (s : Shared) (H : Hp) (A : Addr) (l : List (Str × Addr)) (fp : List Addr), SG (X.blk s H scope (compEnvC scope l A X.env) fp) cl (kpOf (own.map (·.2))) tg g)
    (ht : ∀ (s : Shared) (H : Hp) (A : Addr) (l : List (Str × Addr)) (fp : List Addr), SSTs (X.blk s H scope (compEnvC scope l A X.env) fp) cl qt ifs ct)
    (hi1 : ∀ (s : Shared) (H : Hp) (A : Addr) (l : List (Str × Addr)) (fp : List Addr), SI (X.blk s H scope (compEnvC scope l A X.env) fp) cl tg1 iter1 ci1)
    (hg1 : ∀ (s : Shared) (H : Hp) (A : Addr) (l : List (Str × Addr)) (fp : List Addr), SG (X.blk s H scope (compEnvC scope l A X.env) fp) cl (kpOf vs1) tg1 g1)
    (ht1 : ∀ (s : Shared) (H : Hp) (A : Addr) (l : List (Str × Addr)) (fp : List Addr), SSTs (X.blk s H scope (compEnvC scope l A X.env) fp) cl qt1 ifs1 ct1)
    (he : ∀ (s : Shared) (H : Hp) (A : Addr) (l : List (Str × Addr)) (fp : List Addr), SE (X.blk s H scope (compEnvC scope l A X.env) fp) cl qe elt ce) (hs : ∀ x, foldedSetIterable iter X.env x = pure x := by intro _; rfl) (hs1 : ∀ env x, foldedSetIterable iter1 env x = pure x := by intro _ _; rfl) :
    SE X cl false (.ListComp elt [⟨tg, iter, ifs, 0⟩, ⟨tg1, iter1, ifs1, 0⟩] scope pos) (cLc2 (own.map (·.2)) vs1 ci g ct ci1 g1 ct1 ce) :=
  PE.imp (pe_lc2 (g := tG ⟨X.K, cl⟩ (kpOf (own.map (fun x : Str × Nat => x.2))) g) (tt := tT ⟨X.K, cl⟩ qt ct) (wi1 := tI ⟨X.K, cl⟩ ci1) (g1 := tG ⟨X.K, cl⟩ (kpOf vs1) g1) (tt1 := tT ⟨X.K, cl⟩ qt1 ct1) (te := tE ⟨X.K, cl⟩ qe ce) hc hN hi ok hv hg ht hi1 hg1 ht1 he hs hs1) fun σ H Q h => lc2_mir hv h
end
end Mi
namespace Mi
open PySem PySem.Spec PyProof.Rows L2
section
variable {X : Cx} {cl : Nat → Addr} {b : Expr} {pos px : Pos} {i : Nat} {x : Str} {j : Int}
end
end Mi
namespace Mi
open PySem PySem.Spec PyProof.Rows L2
def Held (o : HO) : Prop := (∃ xs, o = .lst xs) ∨ (∃ a C dx xs, o = SlX.SlO a C dx xs) ∨ (∃ kvs, o = .dK kvs) ∨ ∃ kvs, o = .dT kvs
theorem Held.xd {gs : List (Str × V)} (h : Held (.xd gs)) : False := by
  rcases h with ⟨_, e⟩ | ⟨_, _, _, _, e⟩ | ⟨_, e⟩ | ⟨_, e⟩
  · cases e
  · unfold SlX.SlO at e; cases e
  · cases e
  · cases e
mutual
theorem RepW.kind {C : Cfg} {H : Hp} {O : AP} : ∀ (w : W) (v : V) (L : List Addr), RepW C H O w v L → ∀ a ∈ L, ∃ o, H a = some o ∧ Held o
  | .fz d, v, L, h, a, ha => by rw [h.1] at ha; simp at ha
  | .ob c fs, v, L, h, a, ha => by
    obtain ⟨b, dx, xs, e, h1, h2, ⟨vs, h3, _⟩, h4, h5, h6, r⟩ := h
    subst h6
    rcases List.mem_singleton.mp ha with rfl
    exact ⟨_, h3, .inr (.inl ⟨_, _, _, _, rfl⟩)⟩
  | .di m, v, L, h, a, ha => by
    obtain ⟨b, e, h1, h2, r⟩ := h
    subst h2
    rcases List.mem_singleton.mp ha with rfl
    cases m with
    | k ks ds => obtain ⟨xs, e, _⟩ := r; exact ⟨_, e, .inr (.inr (.inl ⟨_, rfl⟩))⟩
    | t ks ds => obtain ⟨xs, e, _⟩ := r; exact ⟨_, e, .inr (.inr (.inr ⟨_, rfl⟩))⟩
  | .lst ws, v, L, h, a, ha => by
    obtain ⟨b, xs, L', e, h1, h2, h3, r⟩ := h
    subst h3
    rcases List.mem_cons.mp ha with rfl | ha
    · exact ⟨_, h1, .inl ⟨_, rfl⟩⟩
    · exact RepWs.kind ws xs L' r a ha
theorem RepWs.kind {C : Cfg} {H : Hp} {O : AP} : ∀ (ws : List W) (xs : List V) (L : List Addr), RepWs C H O ws xs L → ∀ a ∈ L, ∃ o, H a = some o ∧ Held o
  | [], xs, L, h, a, ha => by rw [h.2] at ha; simp at ha
  | w :: ws, xs, L, h, a, ha => by
    obtain ⟨x, r, L1, L2, e, e2, h1, h2⟩ := h
    subst e2
    rcases List.mem_append.mp ha with ha | ha
    · exact RepW.kind w x L1 h1 a ha
    · exact RepWs.kind ws r L2 h2 a ha
end
theorem EnvR.kind {C : Cfg} {H : Hp} {O : AP} : ∀ {ρ : En} {σ : Sg} {L : List Addr}, EnvR C H O ρ σ L → ∀ a ∈ L, ∃ o, H a = some o ∧ Held o
  | [], σ, L, h, a, ha => by rw [h.2] at ha; simp at ha
  | x :: ρ, σ, L, h, a, ha => by
    obtain ⟨y, r, L1, L2, e, e2, h1, h2⟩ := h
    subst e2
    rcases List.mem_append.mp ha with ha | ha
    · cases x with
      | none => rw [show L1 = [] from h1] at ha; simp at ha
      | some w => obtain ⟨v, _, r'⟩ := h1; exact RepW.kind w v L1 r' a ha
    · exact EnvR.kind h2 a ha
structure Qt (X : Cx) : Prop where
  xe : X.xe = fun _ _ => False
  pn : X.pn = []
section
variable {X : Cx} {pn : List (Addr × Obj)} {xe : Value → Shared → Prop} {pins : List (Addr × Obj)} {σ : L2.St} {H : Hp} {s : Shared}
theorem Qt.dn (q : Qt X) (I : Inv (X.tr pn xe) pins σ H s) : Inv X (pn ++ pins) σ H s :=
  ⟨I.ok.ofTry, I.os, I.bare, I.base, I.loc, I.cell, I.free, I.freeC, fun p hp => I.pin p (by rw [q.pn] at hp; exact hp), I.hok, I.len⟩
theorem Qt.bk (q : Qt X) (I : Inv X (pn ++ pins) σ H s) : Inv (X.tr pn xe) pins σ H s :=
  ⟨I.ok.toTry _ _, I.os, I.bare, I.base, I.loc, I.cell, I.free, I.freeC, fun p hp => I.pin p (by rw [q.pn]; exact hp), I.hok, I.len⟩
theorem PE.up {e : Expr} {t : TE} (q : Qt X) (h : PE X e t) : PE (X.tr pn xe) e t := ⟨fun pins s σ H Q I w =>
  wpAny_mono (h.run (pn ++ pins) s σ H Q (q.dn I) w) (fun _ _ ⟨v, H', I', r, z⟩ => ⟨v, H', q.bk I', r, z⟩) fun u s' z => by rw [q.xe] at z; exact False.elim z⟩
theorem PT.up {e : Expr} {t : TT} (q : Qt X) (h : PT X e t) : PT (X.tr pn xe) e t := ⟨fun pins s σ H Q I w =>
  wpAny_mono (h.run (pn ++ pins) s σ H Q (q.dn I) w) (fun _ _ ⟨H', I', z⟩ => ⟨H', q.bk I', z⟩) fun u s' z => by rw [q.xe] at z; exact False.elim z⟩
theorem PA.up {e : List Expr} {t : TA} (q : Qt X) (h : PA X e t) : PA (X.tr pn xe) e t := ⟨fun pos pins s σ H Q I w =>
  wpAny_mono (h.run pos (pn ++ pins) s σ H Q (q.dn I) w) (fun _ _ ⟨vs, H', I', r, z⟩ => ⟨vs, H', q.bk I', r, z⟩) fun u s' z => by rw [q.xe] at z; exact False.elim z⟩
theorem SP.up {D : Ends} {f : Flow} (q : Qt X) (h : SP X (pn ++ pins) D f s) : SP (X.tr pn xe) pins D f s := by
  cases f with
  | next => obtain ⟨σ', H', I, z⟩ := h; exact ⟨σ', H', q.bk I, z⟩
  | brk => obtain ⟨σ', H', I, z⟩ := h; exact ⟨σ', H', q.bk I, z⟩
  | cont => obtain ⟨σ', H', I, z⟩ := h; exact ⟨σ', H', q.bk I, z⟩
  | ret u => obtain ⟨v, σ', H', I, r, z⟩ := h; exact ⟨v, σ', H', q.bk I, r, z⟩
theorem PS.up {st : Stmt} {t : TS} (q : Qt X) (h : PS X st t) : PS (X.tr pn xe) st t := ⟨fun pins s σ H D I w =>
  wpAny_mono (h.run (pn ++ pins) s σ H D (q.dn I) w) (fun _ _ z => SP.up q z) fun u s' z => by rw [q.xe] at z; exact False.elim z⟩
theorem PSs.up {st : List Stmt} {t : TS} (q : Qt X) (h : PSs X st t) : PSs (X.tr pn xe) st t := ⟨fun pins s σ H D I w =>
  wpAny_mono (h.run (pn ++ pins) s σ H D (q.dn I) w) (fun _ _ z => SP.up q z) fun u s' z => by rw [q.xe] at z; exact False.elim z⟩
end
abbrev Xr := Nat × List (Str × Int)
abbrev CR := En → Res (Xr × En)
structure PostX (C : Cfg) (kp : KP) (σ : Sg) (H : Hp) (O : AP) (L : List Addr) (ρ' : En) (x : Xr) (σ' : Sg) (H' : Hp) (O' : AP) (L' : List Addr) (dd : Addr) (gs : List (Str × V)) : Prop where
  env : EnvR C H' O' ρ' σ' L'
  nd : L'.Nodup
  st : Stp H O L H' O' L'
  kp : ∀ i, kp i = true → σ'[i]? = σ[i]?
  ln : σ'.length = σ.length
  hd : H' dd = some (.xd gs)
  no : ¬ O' dd
  fs : ∀ p ∈ x.2, gs.lookup p.1 = some (V.int p.2)
def kAll : KP := fun _ => true
def tX (C : Cfg) (c : CR) (W : WX) : TE := fun σ H _ => ∃ O L ρ x ρ', EnvR C H O ρ σ L ∧ L.Nodup ∧ c ρ = .ok (x, ρ') ∧
  ∀ H' O' L' dd gs, PostX C kAll σ H O L ρ' x σ H' O' L' dd gs → W (.ref (C.cl x.1)) (some dd) σ H'
def RE (X : Cx) (cl : Nat → Addr) (e : Expr) (c : CR) : Prop := ∀ (W : WX) (pn : List (Addr × Obj)) (xe : Value → Shared → Prop), Takes (X.tr pn xe) W → PE (X.tr pn xe) e (tX ⟨X.K, cl⟩ c W)
section
variable {C : Cfg} {kp : KP} {σ σ1 σ2 : Sg} {H H1 H2 : Hp} {O O1 O2 : AP} {L L1 L2 Lw : List Addr} {ρ ρ1 ρ2 : En} {x : Xr} {dd : Addr} {gs : List (Str × V)} {W : WX}
theorem PostX.all (b : PostX C kAll σ H O L ρ2 x σ H2 O2 L2 dd gs) : PostX C kp σ H O L ρ2 x σ H2 O2 L2 dd gs := ⟨b.env, b.nd, b.st, fun _ _ => rfl, rfl, b.hd, b.no, b.fs⟩
end
section
variable {X : Cx} {cl : Nat → Addr} {kp : KP} {e a b : Expr} {es : List Expr} {c c1 c2 : CR} {cb : CBs} {ca : CE} {ct : CT} {qa qb qc : Bool} {pos p p2 apos cpos : Pos} {st : Stmt} {rest : List Stmt} {x : Str}
abbrev Fx := List W → Res Xr
def spX (C : Cfg) (F : Fx) : Sp := fun vs H _ E => ∃ O L ws x, RepWs C H O ws vs L ∧ L.Nodup ∧ F ws = .ok x ∧
  ∀ H' O' L' dd gs, Stp H O L H' O' L' → H' dd = some (.xd gs) → ¬ O' dd → (∀ p ∈ x.2, gs.lookup p.1 = some (V.int p.2)) → E (.ref (C.cl x.1)) (some dd) H'
structure FnX (X : Cx) (cl : Nat → Addr) (x : Str) (F : Fx) : Prop where
  ex : ∃ (k : Nat) (f : Addr) (fd : FuncData) (ps : List Str), FnOk X.prog X.w X.K X.mg X.base (L2.CX X.prog X.w) k f fd ps (spX ⟨X.K, cl⟩ F) ∧ Room k X.A ∧ X.mg x = some (.ref f) ∧ PySem.W.keepIn X.K (.ref f) = true ∧ Binds X.K fd ps []
end
end Mi
namespace Mi
open PySem PySem.Spec PyProof.Rows L2
structure XcF (K : PySem.W.Frag) (C : Addr) (fs : List Str) : Prop where
  ox : OexC K C
  ini : PySem.W.findIn K (.ref C) "__init__" = some (some (.ref (He.ma K C "__init__")))
  tI : PySem.W.typeIn K (.ref (He.ma K C "__init__")) = some (.type "function")
  no : ∀ f ∈ fs, PySem.W.findIn K (.ref C) f = some none
  te : PySem.W.exmOne K (.ref C) (.ref C) = some true
  xf : XfC K C
  ic : (PySem.W.clsIn K C).isSome = true
  ca : PySem.W.findIn K (.ref C) "__class__" = some (some (.builtin "object.__class__"))
  cn : PySem.W.specialIn K (.builtin "object.__class__") "__get__" = some (some (.builtin "getset_descriptor.__get__"))
  ct : PySem.W.takesIn K (.builtin "object.__class__") = some true
  cm : PySem.W.mroIn K C (.type "object") = some true
def spOx (C : Addr) (fs : List Str) : Sp := fun vs H Q _ => ∃ (a : Addr) (xs : List V), vs = .ref a :: xs ∧ xs.length = fs.length ∧ H a = some (exo a C none) ∧
  ∀ (d : Addr) (H2 : Hp) (gs : List (Str × V)), H d = none → d ≠ a → H2 a = some (exo a C (some d)) → H2 d = some (exd d gs) → (∀ (i : Nat) (n : Str) (x : V), fs[i]? = some n → xs[i]? = some x → gs.lookup n = some x) → (∀ b, b ≠ a → b ≠ d → H2 b = H b) → Q .non H2
structure RaM (X : Cx) (cl : Nat → Addr) (c : Nat) (x : Str) (fs : List Str) : Prop where
  ex : ∃ (fd : FuncData) (ps : List Str), FnOk X.prog X.w X.K X.mg X.base CX0 1 (He.ma X.K (cl c) "__init__") fd ps (spOx (cl c) fs) ∧ Binds X.K fd ps []
  mg : X.mg x = some (.ref (cl c))
  xc : XcF X.K (cl c) fs
  rm : Room 2 X.A
section
variable {X : Cx} {cl : Nat → Addr} {kp : KP} {e : Expr} {es : List Expr} {cb : CBs} {qb : Bool} {p pos pos2 : Pos} {x : Str} {c : Nat} {fs : List Str}
end
section
variable {X : Cx} {pins : List (Addr × Obj)} {σ : L2.St} {H : Hp} {s : Shared} {a C dd : Addr} {oe : Obj} {vs : Array Value}
end
section
variable {X : Cx} {x n : Str} {c : Value} {i : Nat} {body suite : List Stmt} {b₀ : Stmt} {np pos pos' : Pos} {tb : WX → TS} {ts : Addr → Value → Option Addr → TS} {Wout : WX}
end
end Mi
namespace Mi
open PySem PySem.Spec PyProof.Rows L2
theorem PSs.or {X : Cx} {st : List Stmt} {t t' : TS} (h : PSs X st t) (h' : PSs X st t') : PSs X st (fun D σ H => t D σ H ∨ t' D σ H) := ⟨fun pins s σ H D I q => q.elim (h.run pins s σ H D I) (h'.run pins s σ H D I)⟩
section
variable {X : Cx} {cl : Nat → Addr} {kp : KP} {x n m : Str} {c i j : Nat} {body : List Stmt} {np p1 p2 p3 pos pos' : Pos} {cN : CS} {cX : CR} {fs : List Str}
end
section
variable {X : Cx} {cl : Nat → Addr} {e : Expr} {ca : CE} {qa : Bool} {pos p p2 : Pos} {n x : Str} {c : Nat} {fs : List Str}
end
structure Dx (P : Program) (w : World) (K : PySem.W.Frag) (mg : Str → Option Value) (base : Heap) (cl : Nat → Addr) (x : Str) (k : Nat) (F : Fx) : Prop where
  ex : ∃ (f : Addr) (fd : FuncData) (ps : List Str), FnOk P w K mg base (L2.CX P w) k f fd ps (spX ⟨K, cl⟩ F) ∧ mg x = some (.ref f) ∧ PySem.W.keepIn K (.ref f) = true ∧ Binds K fd ps []
structure Dr (P : Program) (w : World) (K : PySem.W.Frag) (mg : Str → Option Value) (base : Heap) (cl : Nat → Addr) (c : Nat) (x : Str) (fs : List Str) : Prop where
  ex : ∃ (fd : FuncData) (ps : List Str), FnOk P w K mg base CX0 1 (He.ma K (cl c) "__init__") fd ps (spOx (cl c) fs) ∧ Binds K fd ps []
  mg : mg x = some (.ref (cl c))
  xc : XcF K (cl c) fs
section
variable {P : Program} {w : World} {K : PySem.W.Frag} {mg : Str → Option Value} {base : Heap} {cl : Nat → Addr} {x : Str} {c k j : Nat} {F : Fx} {N : List Str} {q : Str} {sc : Scope} {f : Addr} {cdv : Value} {A : Around} {outer : List Env} {s : Shared} {H : Hp} {E : XK} {fs : List Str}
theorem Dx.fx (d : Dx P w K mg base cl x k F) (hr : Room j (A.deeper (envOfC q sc s.heap.objs.size f cdv))) (h : k ≤ j) : FnX (BX P w K mg base N q sc f cdv A outer s H E) cl x F := by
  obtain ⟨f, fd, ps, G, m, kp, b⟩ := d.ex
  exact ⟨k, f, fd, ps, G, hr.mono h, m, kp, b⟩
theorem Dr.ra (d : Dr P w K mg base cl c x fs) (hr : Room j (A.deeper (envOfC q sc s.heap.objs.size f cdv))) (h : 2 ≤ j) : RaM (BX P w K mg base N q sc f cdv A outer s H E) cl c x fs := ⟨d.ex, d.mg, d.xc, hr.mono h⟩
end
end Mi
namespace Mi
open PySem PySem.Spec PyProof.Rows L2
end Mi
namespace Mi
open PySem PySem.Spec PyProof.Rows L2
section
variable {X : Cx} {cl : Nat → Addr} {b : Expr} {cb cc ca : CE} {qa qb qc : Bool} {pos px p : Pos} {x : Str} {a : Addr} {kvs : List (Str × Str)} {e e2 e3 tg : Expr}
end
abbrev AlY : Type := AlX × List (Option (List (Option (Str × Int))))
def obsY (fa : List He.Fa) (fx : List DefX) (xb : PySem.W.Frag → Bool) (ts : List He.Tab) (K : PySem.W.Frag) : AlY := (obsX fa fx xb K, ts.map fun t => He.dicW K (t.1 K))
def valY (fx : List DefX) (ts : List He.Tab) (w : World) : AlY := (valX fx, ts.map fun t => some (He.keysIn w.params t.2))
def SaysY (fa : List He.Fa) (fx : List DefX) (xb : PySem.W.Frag → Bool) (ts : List He.Tab) (w : World) (K : PySem.W.Frag) : Prop := obsY fa fx xb ts K = valY fx ts w
section
variable {fa : List He.Fa} {fx : List DefX} {xb : PySem.W.Frag → Bool} {ts : List He.Tab} {w : World} {K : PySem.W.Frag}
theorem SaysY.x (c : SaysY fa fx xb ts w K) : SaysX fa fx xb K := congrArg (fun z : AlY => z.1) c
end
end Mi
namespace Mi
open PySem PySem.Spec PyProof.Rows L2
section
variable {C : Cfg} {H : Hp} {O : AP}
end
section
variable {X : Cx} {cl : Nat → Addr} {cbs : CBs} {qb : Bool} {e : Expr} {es : List Expr} {p pos : Pos}
end
section
variable {X : Cx} {cl : Nat → Addr} {a b : Expr} {ca cb : CE} {qa qb : Bool} {pos : Pos}
end
end Mi
namespace Mi
open PySem PySem.Spec PyProof.Rows L2
def vOf : D → V
  | .bl b => .bl b
  | .int n => .int n
  | _ => .non
structure FnD (X : Cx) (cl : Nat → Addr) (x : Str) (dd : List D) (F : Fn) : Prop where
  ex : ∃ (k : Nat) (f : Addr) (fd : FuncData) (ps : List Str) (ds : List Value), FnOk X.prog X.w X.K X.mg X.base CX0 k f fd ps (spM ⟨X.K, cl⟩ F) ∧ Room k X.A ∧ X.mg x = some (.ref f) ∧ PySem.W.keepIn X.K (.ref f) = true ∧ Vals (dd.map vOf) ds ∧ Binds X.K fd ps ds
structure FnN (X : Cx) (cl : Nat → Addr) (x : Str) (n : Nat) (ks : List Str) (F : Fn) : Prop where
  ex : ∃ (k : Nat) (f : Addr) (fd : FuncData) (ps : List Str), FnOk X.prog X.w X.K X.mg X.base CX0 k f fd ps (spM ⟨X.K, cl⟩ F) ∧ Room k X.A ∧ X.mg x = some (.ref f) ∧ PySem.W.keepIn X.K (.ref f) = true ∧ KBn X.K fd ps n ks (fun us ws => us ++ ws) (fun vs zs => vs ++ zs)
theorem FnD.blk {X : Cx} {cl : Nat → Addr} {x : Str} {dd : List D} {F : Fn} (h : FnD X cl x dd F) {s : Shared} {H : Hp} {scope : Scope} {env : Env} {fp : List Addr} : FnD (X.blk s H scope env fp) cl x dd F := ⟨h.ex⟩
theorem FnN.blk {X : Cx} {cl : Nat → Addr} {x : Str} {n : Nat} {ks : List Str} {F : Fn} (h : FnN X cl x n ks F) {s : Shared} {H : Hp} {scope : Scope} {env : Env} {fp : List Addr} : FnN (X.blk s H scope env fp) cl x n ks F := ⟨h.ex⟩
structure Dd (P : Program) (w : World) (K : PySem.W.Frag) (mg : Str → Option Value) (base : Heap) (cl : Nat → Addr) (x : Str) (dd : List D) (k : Nat) (F : Fn) : Prop where
  ex : ∃ (f : Addr) (fd : FuncData) (ps : List Str) (ds : List Value), FnOk P w K mg base CX0 k f fd ps (spM ⟨K, cl⟩ F) ∧ mg x = some (.ref f) ∧ PySem.W.keepIn K (.ref f) = true ∧ Vals (dd.map vOf) ds ∧ Binds K fd ps ds
structure De (P : Program) (w : World) (K : PySem.W.Frag) (mg : Str → Option Value) (base : Heap) (cl : Nat → Addr) (x : Str) (n : Nat) (ks : List Str) (k : Nat) (F : Fn) : Prop where
  ex : ∃ (f : Addr) (fd : FuncData) (ps : List Str), FnOk P w K mg base CX0 k f fd ps (spM ⟨K, cl⟩ F) ∧ mg x = some (.ref f) ∧ PySem.W.keepIn K (.ref f) = true ∧ KBn K fd ps n ks (fun us ws => us ++ ws) (fun vs zs => vs ++ zs)
section
variable {P : Program} {w : World} {K : PySem.W.Frag} {mg : Str → Option Value} {base : Heap} {cl : Nat → Addr} {x : Str} {k j n : Nat} {dd : List D} {ks : List Str} {F : Fn} {N : List Str} {q : Str} {sc : Scope} {f : Addr} {cdv : Value} {A : Around} {outer : List Env} {s : Shared} {H : Hp} {E : XK}
theorem Dd.fm (d : Dd P w K mg base cl x dd k F) (hr : Room j (A.deeper (envOfC q sc s.heap.objs.size f cdv))) (h : k ≤ j) : FnD (BX P w K mg base N q sc f cdv A outer s H E) cl x dd F := by
  obtain ⟨f, fd, ps, ds, G, m, kp, v, b⟩ := d.ex
  exact ⟨k, f, fd, ps, ds, G, hr.mono h, m, kp, v, b⟩
theorem De.fm (d : De P w K mg base cl x n ks k F) (hr : Room j (A.deeper (envOfC q sc s.heap.objs.size f cdv))) (h : k ≤ j) : FnN (BX P w K mg base N q sc f cdv A outer s H E) cl x n ks F := by
  obtain ⟨f, fd, ps, G, m, kp, b⟩ := d.ex
  exact ⟨k, f, fd, ps, G, hr.mono h, m, kp, b⟩
end
section
variable {K : PySem.W.Frag} {x qual : Str} {params : Arguments} {body : List Stmt} {scope : Scope} {f : Addr} {fd : FuncData} {ps : List Str} {dvs : List V}
end
section
variable {X : Cx} {cl : Nat → Addr} {x : Str} {F : Fn} {p pos : Pos} {e : Expr} {es : List Expr} {kws : List Keyword} {cb ck : CBs} {qb qd qk : Bool} {dd : List D} {n : Nat} {ks : List Str}
end
theorem fn_defD {P : Program} {w : World} {K : PySem.W.Frag} {mg : Str → Option Value} {base : Heap} {cl : Nat → Addr} {x q : Str} {st : Stmt} {N ps : List Str} {dvs : List V} {k : Nat} {f : Addr} {fd : FuncData} {io : KP} {body : CS}
    (F : FunD K x q (defArgs st) (defBody st) (defScope st) dvs [] f fd) (S : FnScope N ps (defScope st)) (hio : ∀ i, ps.length ≤ i → io i = false)
    (hb : ∀ (cdv : Value) (A : Around) (outer : List Env) (s : Shared) (H : Hp) (E : XK), Room k (A.deeper (envOfC q (defScope st) s.heap.objs.size f cdv)) → SSs (BX P w K mg base N q (defScope st) f cdv A outer s H E) cl io (defBody st) body) :
    FnOk P w K mg base CX0 (k + 1) f fd ps (spM ⟨K, cl⟩ (runDef ps.length N.length io body)) := by
  refine F.ok S (fun vs H Q E h => ?_) (fun cdv A outer s H vs Q E hr h => ⟨tS ⟨K, cl⟩ io body, PSs.nox (hb cdv A outer s H E hr), def_core hio h⟩)
  obtain ⟨O, L, ws, r, back, rs, nd, c, _⟩ := h
  obtain ⟨_, c1, _⟩ := Res.of_bind c
  have hl : ws.length = ps.length := by simpa using chk_ok c1
  rw [rs.length, hl]
section
variable {X : Cx} {cl : Nat → Addr} {x : Str} {F : Fn} {p pos : Pos} {e a b : Expr} {es : List Expr} {ca : CE} {cb : CBs} {c : CR} {qa qb : Bool} {kp : KP}
end
end Mi
namespace Mi
open PySem PySem.Spec PyProof.Rows L2
def spOx0 (C : Addr) : Sp := fun vs H Q _ => ∃ a : Addr, vs = [.ref a] ∧ H a = some (exo a C none) ∧
  ∀ (d l : Addr) (H2 : Hp) (gs : List (Str × V)), H d = none → H l = none → d ≠ a → l ≠ a → l ≠ d → H2 a = some (exo a C (some d)) → H2 d = some (exd d gs) → H2 l = some (.tup []) → (∀ b, b ≠ a → b ≠ d → b ≠ l → H2 b = H b) → Q .non H2
structure RaM0 (X : Cx) (cl : Nat → Addr) (c : Nat) (x n : Str) : Prop where
  ex : ∃ (fd : FuncData) (ps : List Str), FnOk X.prog X.w X.K X.mg X.base CX0 1 (He.ma X.K (cl c) "__init__") fd ps (spOx0 (cl c)) ∧ Binds X.K fd ps []
  mg : X.mg x = some (.ref (cl c))
  xc : XcF X.K (cl c) [n]
  rm : Room 2 X.A
structure Dr0 (P : Program) (w : World) (K : PySem.W.Frag) (mg : Str → Option Value) (base : Heap) (cl : Nat → Addr) (c : Nat) (x n : Str) : Prop where
  ex : ∃ (fd : FuncData) (ps : List Str), FnOk P w K mg base CX0 1 (He.ma K (cl c) "__init__") fd ps (spOx0 (cl c)) ∧ Binds K fd ps []
  mg : mg x = some (.ref (cl c))
  xc : XcF K (cl c) [n]
theorem Dr0.ra {P : Program} {w : World} {K : PySem.W.Frag} {mg : Str → Option Value} {base : Heap} {cl : Nat → Addr} {x n : Str} {c j : Nat} {N : List Str} {q : Str} {sc : Scope} {f : Addr} {cdv : Value} {A : Around} {outer : List Env} {s : Shared} {H : Hp} {E : XK} (d : Dr0 P w K mg base cl c x n) (hr : Room j (A.deeper (envOfC q sc s.heap.objs.size f cdv))) (h : 2 ≤ j) : RaM0 (BX P w K mg base N q sc f cdv A outer s H E) cl c x n := ⟨d.ex, d.mg, d.xc, hr.mono h⟩
section
variable {X : Cx} {cv : V} {a C dd : Addr} {oe : Obj} {pn : List (Addr × Obj)} {fs : List Str}
end
section
variable {X : Cx} {cl : Nat → Addr} {kp : KP} {x n m y : Str} {c i j : Nat} {CL : Addr} {body : List Stmt} {np p1 p3 pos pos' q1 q2 q3 q4 q5 q6 q7 q8 q9 : Pos} {cN : CS} {cX : CR} {fs : List Str}
end
end Mi
namespace Mi
open PySem PySem.Spec PyProof.Rows L2 RZ
open PySem.Sem (wp)
def ItK : Bool → Heap → Addr → Addr → Nat → Prop
  | true, h, it, l, i => h.IsTupleIter it l i
  | false, h, it, l, i => h.IsListIter it l i
def SeqK : Bool → Heap → Addr → Array Value → Prop
  | true, h, l, xs => h.IsTuple l xs
  | false, h, l, xs => h.IsList l xs
theorem ItK.at {b : Bool} {h h' : Heap} {a l : Addr} {i : Nat} (x : ItK b h a l i) (e : ∀ o, h.get? a = some o → h'.get? a = some o) : ItK b h' a l i := by
  cases b with
  | true => exact Heap.IsTupleIter.at x e
  | false => exact Heap.IsListIter.at x e
theorem ItK.lt {b : Bool} {h : Heap} {a l : Addr} {i : Nat} (x : ItK b h a l i) : a < h.objs.size := by
  cases b with
  | true => obtain ⟨_, e, _⟩ := x; exact Heap.lt_size e
  | false => obtain ⟨_, e, _⟩ := x; exact Heap.lt_size e
theorem SeqK.at {b : Bool} {h h' : Heap} {a : Addr} {xs : Array Value} (x : SeqK b h a xs) (e : ∀ o, h.get? a = some o → h'.get? a = some o) : SeqK b h' a xs := by
  cases b with
  | true => exact let ⟨o, ho, r⟩ := x; ⟨o, e _ ho, r⟩
  | false => exact let ⟨o, ho, r⟩ := x; ⟨o, e _ ho, r⟩
theorem SeqK.lt {b : Bool} {h : Heap} {a : Addr} {xs : Array Value} (x : SeqK b h a xs) : a < h.objs.size := by
  cases b with
  | true => obtain ⟨_, e, _⟩ := x; exact Heap.lt_size e
  | false => obtain ⟨_, e, _⟩ := x; exact Heap.lt_size e
abbrev IsZipF (h : Heap) (z TI TO : Addr) (f0 : Value) (fl : Bool) : Prop :=
  h.get? z = some { cls := .type "zip", dict := none, data := .fields #[f0, .bool fl, .bool false, .ref TI, .ref TO], slots := #[] }
section
variable {prog : Program} {w : World} {A : Around} {E : Value → Shared → Prop} {s : Shared}
structure ZSt (b c : Bool) (h : Heap) (z TI TO i1 i2 l1 l2 S : Addr) (i : Nat) : Prop where
  ti : IsPair h TI (.ref i1) (.ref i2)
  h1 : ItK b h i1 l1 i
  h2 : ItK c h i2 l2 i
  own : (IsZip h z TI TO .none ∧ ∃ a a', IsPair h TO a a') ∨ ∃ (a : Addr) (fl : Bool) (oa : Obj), IsZipF h z TI TO (rawInt a) fl ∧ h.get? a = some oa ∧ S < a
structure ZLow (z TI TO i1 i2 l1 l2 S : Addr) : Prop where
  z : z < S
  TI : TI < S
  TO : TO < S
  i1 : i1 < S
  i2 : i2 < S
  l1 : l1 < S
  l2 : l2 < S
theorem ZSt.keep {b c : Bool} {h h' : Heap} {z TI TO i1 i2 l1 l2 S : Addr} {i : Nat} (L : ZLow z TI TO i1 i2 l1 l2 S) (x : ZSt b c h z TI TO i1 i2 l1 l2 S i) (hk : ∀ b o, b ≠ S → h.get? b = some o → h'.get? b = some o) : ZSt b c h' z TI TO i1 i2 l1 l2 S i where
  ti := hk _ _ (Nat.ne_of_lt L.TI) x.ti
  h1 := x.h1.at fun o e => hk _ o (Nat.ne_of_lt L.i1) e
  h2 := x.h2.at fun o e => hk _ o (Nat.ne_of_lt L.i2) e
  own := by
    rcases x.own with ⟨q, a, a', r⟩ | ⟨a, fl, oa, q, r, n⟩
    · exact .inl ⟨hk _ _ (Nat.ne_of_lt L.z) q, a, a', hk _ _ (Nat.ne_of_lt L.TO) r⟩
    · exact .inr ⟨a, fl, oa, hk _ _ (Nat.ne_of_lt L.z) q, hk _ _ (Nat.ne_of_gt n) r, n⟩
end
structure ZG (xs ys : Array Value) (lo : Addr) (h : Heap) (as : List Addr) : Prop where
  rise : as.Pairwise (· < ·)
  above : ∀ a ∈ as, lo < a
  pairs : ∀ (j : Nat) (a : Addr), as[j]? = some a → ∃ x y, xs[j]? = some x ∧ ys[j]? = some y ∧ IsPair h a x y
theorem ZG.there {xs ys : Array Value} {lo : Addr} {h : Heap} {as : List Addr} (g : ZG xs ys lo h as) {a : Addr} (ha : a ∈ as) : a < h.objs.size := by
  obtain ⟨j, hj⟩ := List.mem_iff_getElem?.mp ha
  obtain ⟨_, _, _, _, e⟩ := g.pairs j a hj
  exact Heap.lt_size e
section
variable {prog : Program} {w : World} {A : Around} {E : Value → Shared → Prop} {s : Shared} {R : Result → Shared → Prop} {b c : Bool} {z TI TO i1 i2 l1 l2 S : Addr} {xs ys : Array Value}
end
section
variable {prog : Program} {w : World} {A : Around} {E : Value → Shared → Prop} {s : Shared} {b c : Bool} {z TI TO i1 i2 l1 l2 S : Addr} {xs ys : Array Value}
end
def SqK (b : Bool) (K : PySem.W.Frag) (H : Hp) (a : Addr) (xs : List V) : Prop := match b with
  | true => SqT K H a xs
  | false => SqL K H a xs
end Mi
namespace Mi
open PySem PySem.Spec PyProof.Rows L2
theorem Sc.kd {C : Cfg} {K : PySem.W.Frag} (hK : C.K = K) {H : Hp} {O : AP} {a : Addr} {xs : List V} (h : Sc C H O a xs) : SqK false K H a xs := by subst hK; exact h.sq
theorem Tp.kd {C : Cfg} {K : PySem.W.Frag} (hK : C.K = K) {H : Hp} {O : AP} {a : Addr} {xs : List V} (h : Tp C H O a xs) : SqK true K H a xs := by subst hK; exact h.sq
end Mi
namespace Mi
open PySem PySem.Spec PyProof.Rows L2
section
variable {prog : Program} {w : World} {A : Around} {E : Value → Shared → Prop} {s : Shared} {l : Addr} {xs : Array (Int × Tok)}
end
section
variable {X : Cx} {cl : Nat → Addr} {e : Expr} {es : List Expr} {cbs : CBs} {qb : Bool} {p pos : Pos}
end
end Mi
namespace Mi
open PySem PySem.Spec PyProof.Rows L2
section
variable {X : Cx} {cl : Nat → Addr} {b : Expr} {pos px : Pos} {i k0 : Nat} {x : Str} {j : Int}
end
end Mi
namespace Mi
open PySem PySem.Spec PyProof.Rows L2 RZ
open PySem.Sem (wp)
section
variable {prog : Program} {w : World} {A : Around} {E : Value → Shared → Prop} {s : Shared}
end
end Mi
namespace Mi
open PySem PySem.Spec PyProof.Rows L2
end Mi
namespace Mi
open PySem PySem.Spec PyProof.Rows L2
theorem get_list {X : Cx} : PGet X (rIxL X.K) := by
  intro pins s σ H x y v u Q I rx ry h
  obtain ⟨p, xs, i, z, rfl, rfl, hq, he, q⟩ := h
  cases rx
  obtain ⟨t, rfl⟩ := ry
  obtain ⟨its, r, pl, hz⟩ := I.list hq
  obtain ⟨j, h1, h2, h3, h4, h5⟩ := atI_get he
  obtain ⟨w, ew, rw'⟩ := r.get h2
  have hl := r.length
  have hn := line63
  have fin : EP X pins σ Q w s := ⟨z, H, I, rw', q⟩
  by_cases h0 : 0 ≤ i
  · have hj : i.toNat = j := by
      rw [seqIndex_of h0 h5] at h1
      exact Option.some.inj h1
    exact wpAny_getItem_list pl.isList h0 (by omega) (by rw [hj]; simpa using ew) fin
  · have hj : (i + (its.toArray.size : Int)).toNat = j := by
      rw [seqIndex_neg (by omega) h4] at h1
      rw [List.size_toArray, ← hl]
      exact Option.some.inj h1
    exact wpAny_getItem_list_neg pl.isList (by omega) (by rw [List.size_toArray] <;> omega) (by omega) (by rw [hj]; simpa using ew) fin
def lstAt (i : Nat) (ρ : En) : Res (List W) := match ρ[i]? with
  | some (some (.lst ws)) => .ok ws
  | _ => .err
theorem lstAt_ok {i : Nat} {ρ : En} {ws : List W} (h : lstAt i ρ = .ok ws) : ρ[i]? = some (some (.lst ws)) := by
  unfold lstAt at h
  split at h
  · rename_i h2
    cases h
    exact h2
  · cases h
def intAt (ws : List W) (k : Int) : Res Int := match ixN ws.length k with
  | some j => match ws[j]? with
    | some (.fz (.int n)) => .ok n
    | _ => .err
  | none => .err
theorem intAt_ok {ws : List W} {k n : Int} (h : intAt ws k = .ok n) : ∃ j, ixN ws.length k = some j ∧ ws[j]? = some (.fz (.int n)) := by
  unfold intAt at h
  split at h
  · rename_i j hj
    split at h
    · rename_i h2
      cases h
      exact ⟨j, hj, h2⟩
    · cases h
  · cases h
def cAugS (i : Nat) (f : Int → Int → Int) (ci ce : CE) : CS := fun ρ => (lstAt i ρ).bind fun _ => (ci ρ).bind fun (bi, ρ1) => (intOf bi).bind fun k => (lstAt i ρ1).bind fun ws => (intAt ws k).bind fun n =>
  (ce ρ1).bind fun (be, ρ2) => (intOf be).bind fun m => (lstAt i ρ2).bind fun ws2 => (Res.of (ixN ws2.length k)).bind fun j2 => .ok (.nx, ρ2.set i (some (.lst (ws2.set j2 (.fz (.int (f n m)))))))
section
variable {X : Cx} {cl : Nat → Addr} {ix e : Expr} {ci ce : CE} {qi qe : Bool} {pos tpos px : Pos} {kp : KP}
theorem ss_augS {i : Nat} {x : Str} {op : Operator} {f : Int → Int → Int} (ho : SE X cl true (.Name x px) (cVar i)) (hi : SE X cl qi ix ci) (he : SE X cl qe e ce) (hp : PIp X op (ipI f))
    (ha : ∀ ov iv new, augStore ix ov iv new = (do holding [new, ov, iv] (setItem ov iv new); release [new, ov, iv] []; pure .next) := by intros; rfl) :
    SS X cl kp (.AugAssign (.Subscript (.Name x px) ix tpos) op e pos) (cAugS i f ci ce) := by
  refine PS.imp (ps_augS ho hi get_list he hp set_list ha) fun Dn σ H h => ?_
  obtain ⟨O, L, ρ, fl, ρ', env, nd, c, q⟩ := h
  obtain ⟨ws0, g0, d1⟩ := Res.of_bind c
  have hi0 := lstAt_ok g0
  obtain ⟨⟨bi, ρ1⟩, c1, d2⟩ := Res.of_bind d1
  obtain ⟨k, c2, d3⟩ := Res.of_bind d2
  obtain ⟨ws1, g1, d4⟩ := Res.of_bind d3
  have hi1 := lstAt_ok g1
  obtain ⟨n, g2, d5⟩ := Res.of_bind d4
  obtain ⟨j, hj, hn⟩ := intAt_ok g2
  obtain ⟨⟨be, ρ2⟩, c3, d6⟩ := Res.of_bind d5
  obtain ⟨m, c4, d7⟩ := Res.of_bind d6
  obtain ⟨ws2, g3, d8⟩ := Res.of_bind d7
  have hi2 := lstAt_ok g3
  obtain ⟨j2, g4, d9⟩ := Res.of_bind d8
  have hj2 := Res.of_ok g4
  have ek := intOf_ok c2
  have em := intOf_ok c4
  have e9 : fl = .nx ∧ ρ' = ρ2.set i (some (.lst (ws2.set j2 (.fz (.int (f n m)))))) := by
    injection d9 with h
    injection h with h1 h2
    exact ⟨h1.symm, h2.symm⟩
  clear d1 d2 d3 d4 d5 d6 d7 d8 d9 c
  obtain ⟨e9, e10⟩ := e9
  subst e9 e10 ek em
  have cv : cVar i ρ = .ok (.bor i [], ρ) := by unfold cVar; rw [hi0]
  refine ⟨O, L, ρ, _, ρ, env, nd, cv, fun ov H1 O1 L1 La P1 => ?_⟩
  have ndd1 := List.nodup_append.mp P1.nd
  have eLa : La = [] := P1.br.1
  subst eLa
  have own1 : ∀ z ∈ L1, O1 z := fun z hz => (P1.env.own z hz).1
  refine ⟨O1, L1, ρ, _, ρ1, P1.env, ndd1.1, c1, fun iv H2 O2 L2 Lb P2 => ?_⟩
  obtain ⟨eiv, T2⟩ := P2.ofInt
  subst eiv
  obtain ⟨br2, nd2'⟩ := P1.br.pend own1 P1.nd P2 rfl
  have eLb : Lb = [] := P2.br.1
  subst eLb
  have nd2 := P2.nd
  rw [List.append_nil] at nd2
  obtain ⟨l, xs, M1, M0, el, hl, hO, rs, pm, up⟩ := mut_rep P2.env nd2 br2 hi1 rfl
  subst el
  obtain ⟨z, N1, N0, z1, z2, z3, z4⟩ := rs.focus hn
  have ez : z = .int n := z2.2
  subst ez
  refine ⟨l, xs, k, .int n, rfl, rfl, SqL.of hl, ?_, ?_⟩
  · unfold atI
    rw [rs.length, hj]
    exact z1
  refine ⟨O2, L2, ρ1, _, ρ2, P2.env, nd2, c3, fun y H4 O4 L4 Lc P4 => ?_⟩
  obtain ⟨ey, T4⟩ := P4.ofInt
  subst ey
  refine ⟨n, m, rfl, rfl, ?_⟩
  have own2 : ∀ z ∈ L2, O2 z := fun z hz => (P2.env.own z hz).1
  obtain ⟨br4, nd4'⟩ := br2.pend own2 (by rw [List.append_nil]; exact nd2) P4 rfl
  have eLc : Lc = [] := P4.br.1
  subst eLc
  have nd4 := P4.nd
  rw [List.append_nil] at nd4
  obtain ⟨l', xs', M1', M0', el', hl', hO', rs', pm', up'⟩ := mut_rep P4.env nd4 br4 hi2 rfl
  cases el'
  refine ⟨l, xs', k, j2, rfl, rfl, hl', by rw [rs'.length]; exact hj2, ?_⟩
  have hj' : j2 < ws2.length := (ixN_seq hj2).2.1
  have nd6 : (l :: (M1' ++ M0')).Nodup := pm'.nodup_iff.mp nd4
  have n0 := List.nodup_cons.mp nd6
  have owM : ∀ a ∈ M1', O4 a := fun a ha => (RepWs.own ws2 xs' M1' rs' a ha).1
  obtain ⟨N1, N0, N', q1, q2, q3⟩ := RepWs.setAt (H' := upd H4 l (.lst (xs'.set j2 (.int (f n m))))) (O' := O4) (w := .fz (.int (f n m))) (y := .int (f n m)) (Lw := []) rs' hj' (keep_mut hO' (fun z => n0.1 (by simp [z])) owM) ⟨rfl, rfl⟩
  obtain ⟨L5, p5, env5⟩ := up' (ws2.set j2 (.fz (.int (f n m)))) (xs'.set j2 (.int (f n m))) N' O4 (fun _ q => q) (fun _ q _ => q) q3
  have mN : ∀ a ∈ N', a ∈ M1' := fun a ha => q1.mem_iff.mpr (by have := q2.mem_iff.mp ha; simp at this; simp [this])
  have sub : ∀ a ∈ L5, a ∈ L4 := fun a ha => by
    refine pm'.mem_iff.mpr ?_
    have z := p5.mem_iff.mp ha
    simp only [List.mem_cons, List.mem_append] at z ⊢
    rcases z with z | z | z
    · exact .inl z
    · exact .inr (.inl (mN a z))
    · exact .inr (.inr z)
  have nA := List.nodup_append.mp n0.2
  have nd5 : L5.Nodup := by
    refine p5.nodup_iff.mpr (List.nodup_cons.mpr ⟨fun z => ?_, List.nodup_append.mpr ⟨q2.nodup_iff.mpr ?_, nA.2.1, fun a ha b hb e => ?_⟩⟩)
    · rcases List.mem_append.mp z with z | z
      · exact n0.1 (by simp [mN l z])
      · exact n0.1 (by simp [z])
    · rw [List.nil_append]
      exact (List.nodup_append.mp (q1.nodup_iff.mp nA.1)).2.1
    · exact nA.2.2 a (mN a ha) b hb e
  have s1 := P1.st
  have s2 := P2.st
  have s4 := P4.st
  rw [List.append_nil] at s1 s2 s4
  refine q σ _ O4 L5 [] ⟨env5, by rw [List.append_nil]; exact nd5, ?_, fun _ _ => rfl, rfl⟩ rfl
  rw [List.append_nil]
  exact (((s1.trans s2).trans s4).trans (Stp.mut (a := l) (o := .lst (xs'.set j2 (.int (f n m)))) (pm'.mem_iff.mpr (by simp)) hl')).perm sub
end
end Mi
namespace Mi
open PySem PySem.Spec PyProof.Rows L2
section
variable {C : Cfg} {X : Cx}
end
section
variable {X : Cx} {cl : Nat → Addr} {a b : Expr} {ca cb : CE} {qa qb : Bool} {pos : Pos}
end
end Mi
namespace Mi
open PySem PySem.Spec PyProof.Rows L2
def fzB : B → En → Res (B × En)
  | .tmp w, ρ => .ok (.tmp (.fz (frz w)), ρ)
  | .bor _ _, _ => .err
def cFz (c : CE) : CE := fun ρ => (c ρ).bind fun (b, ρ1) => fzB b ρ1
theorem se_fz {X : Cx} {cl : Nat → Addr} {q : Bool} {e : Expr} {c : CE} (h : SE X cl q e c) : SE X cl q e (cFz c) := by
  refine PE.imp h fun σ H Q t => ?_
  obtain ⟨O, L, ρ, b0, ρ', env, nd, c0, qq⟩ := t
  obtain ⟨⟨b, ρ1⟩, c1, c2⟩ := Res.of_bind c0
  cases b with
  | bor i p => cases c2
  | tmp w =>
    cases c2
    refine ⟨O, L, ρ, .tmp w, ρ', env, nd, c1, fun v H1 O1 L1 Lb P => ?_⟩
    have ndp := List.nodup_append.mp P.nd
    have rd : RepD ⟨X.K, cl⟩ H1 (Less O1 Lb) (frz w) v := RepW.frz w v Lb (fun a z => z) P.br
    refine qq v H1 (Less O1 Lb) L1 [] ⟨P.env.less fun a ha z => ndp.2.2 a ha a z rfl, ⟨rfl, rd⟩, by rw [List.append_nil]; exact ndp.1, ?_, P.qu⟩
    rw [List.append_nil]
    exact P.st.trans (Stp.ofO (fun a z => z.1) (fun a z => by simp [z]) fun a z n => ⟨z, fun k => n (by simp [k])⟩)
end Mi
namespace Mi
open PySem PySem.Spec PyProof.Rows L2
inductive RJ (C : Cfg) : List CE → List TE → Prop where
  | nil : RJ C [] []
  | cons {q : Bool} {c : CE} {cs : List CE} {ts : List TE} (r : RJ C cs ts) : RJ C (c :: cs) (tE C q c :: ts)
inductive SJ (X : Cx) (cl : Nat → Addr) : List Expr → List CE → Prop where
  | nil : SJ X cl [] []
  | cons {q : Bool} {e : Expr} {c : CE} {es : List Expr} {cs : List CE} (h : SE X cl q e c) (r : SJ X cl es cs) : SJ X cl (e :: es) (c :: cs)
theorem SJ.both {X : Cx} {cl : Nat → Addr} {es : List Expr} {cs : List CE} (h : SJ X cl es cs) : ∃ ts, PJ X es ts ∧ RJ ⟨X.K, cl⟩ cs ts := by
  induction h with
  | nil => exact ⟨[], .nil, .nil⟩
  | @cons q e c es cs h r ih =>
    obtain ⟨ts, p, j⟩ := ih
    exact ⟨tE ⟨X.K, cl⟩ q c :: ts, .cons h p, .cons j⟩
end Mi
namespace Mi
open PySem PySem.Spec PyProof.Rows L2
end Mi
namespace Mi
open PySem PySem.Spec PyProof.Rows L2
theorem RepWs.erase {C : Cfg} {H : Hp} {O : AP} : ∀ {ws : List W} {xs : List V} {L : List Addr} {j : Nat} {d : D}, RepWs C H O ws xs L → ws[j]? = some (.fz d) → ∃ y, xs[j]? = some y ∧ RepD C H O d y ∧ RepWs C H O (ws.eraseIdx j) (xs.eraseIdx j) L
  | [], _, _, _, _, _, e => by simp at e
  | w :: ws, xs, L, 0, d, h, e => by
    obtain ⟨v, r, L1, L2, e1, e2, h1, h2⟩ := h
    have ew : w = .fz d := by simpa using e
    subst ew e1
    obtain ⟨e3, h3⟩ := h1
    subst e3 e2
    exact ⟨v, rfl, h3, h2⟩
  | w :: ws, xs, L, j + 1, d, h, e => by
    obtain ⟨v, r, L1, L2, e1, e2, h1, h2⟩ := h
    subst e1
    obtain ⟨y, i1, i2, i3⟩ := RepWs.erase (j := j) h2 (by simpa using e)
    exact ⟨y, by simpa using i1, i2, v, r.eraseIdx j, L1, L2, rfl, e2, h1, i3⟩
def elAt (ws : List W) (k : Int) : Res (D × Nat) := match ixN ws.length k with
  | some j => match ws[j]? with
    | some (.fz d) => .ok (d, j)
    | _ => .err
  | none => .err
theorem elAt_ok {ws : List W} {k : Int} {d : D} {j : Nat} (h : elAt ws k = .ok (d, j)) : ixN ws.length k = some j ∧ ws[j]? = some (.fz d) := by
  unfold elAt at h
  split at h
  · rename_i j hj
    split at h
    · rename_i h2
      cases h
      exact ⟨hj, h2⟩
    · cases h
  · cases h
def cPop (i : Nat) (ci : CE) : CE := fun ρ => (lstAt i ρ).bind fun _ => (ci ρ).bind fun (bi, ρ1) => (intOf bi).bind fun k => (chk (decide (-(2 ^ 62) ≤ k ∧ k < 2 ^ 62))).bind fun _ => (lstAt i ρ1).bind fun ws => (elAt ws k).bind fun (d, j) =>
  .ok (.tmp (.fz d), ρ1.set i (some (.lst (ws.eraseIdx j))))
section
variable {X : Cx} {cl : Nat → Addr} {e : Expr} {ce : CE} {q : Bool} {apos cpos px : Pos}
theorem se_pop {i : Nat} {x : Str} (ho : SE X cl true (.Name x px) (cVar i)) (ha : SE X cl q e ce) (hbase : attributeBase (.Name x px) "pop" X.env (eval (.Name x px) X.env) = eval (.Name x px) X.env := by rfl)
    (hfew : ((backTo cpos (starEach [e] X.env)).all (fun x => !x.1) && (backToKw cpos (keywordEach [] X.env)).all (fun x => x.1.isSome) && decide ([e].length + ([] : List Keyword).length + (if ([] : List Keyword).isEmpty then 0 else 1) < 30)) = true := by rfl)
    (hline : (apos.endLine == cpos.line) = true := by rfl) (hs : starEach [e] X.env = (false, eval e X.env) :: starEach [] X.env := by rfl) (hplain : (backTo cpos (starEach [] X.env)).any (·.1) = false := by rfl) :
    SE X cl false (.Call (.Attribute (.Name x px) "pop" apos) [e] [] cpos) (cPop i ce) := by
  refine PE.imp (pe_bm PySem.F.plainAttrs_list PySem.F.slot_list_pop PySem.F.type_list_pop mt_popAt ho (pa_cons ha pa_nil hs) hbase hfew hline hs hplain) fun σ H Q h => ?_
  obtain ⟨O, L, ρ, b0, ρ', env, nd, c, qq⟩ := h
  obtain ⟨ws0, g0, d1⟩ := Res.of_bind c
  have hi0 := lstAt_ok g0
  obtain ⟨⟨bi, ρ1⟩, c1, d2⟩ := Res.of_bind d1
  obtain ⟨k, c2, d3⟩ := Res.of_bind d2
  obtain ⟨_, c3, d4⟩ := Res.of_bind d3
  obtain ⟨ws1, g1, d5⟩ := Res.of_bind d4
  have hi1 := lstAt_ok g1
  obtain ⟨⟨d, j⟩, g2, d6⟩ := Res.of_bind d5
  obtain ⟨hj, hd⟩ := elAt_ok g2
  have ek := intOf_ok c2
  have hk := of_decide_eq_true (chk_ok c3)
  have e9 : b0 = .tmp (.fz d) ∧ ρ' = ρ1.set i (some (.lst (ws1.eraseIdx j))) := by
    injection d6 with h
    injection h with h1 h2
    exact ⟨h1.symm, h2.symm⟩
  clear d1 d2 d3 d4 d5 d6 c
  obtain ⟨e9, e10⟩ := e9
  subst e9 e10 ek
  have cv : cVar i ρ = .ok (.bor i [], ρ) := by unfold cVar; rw [hi0]
  refine ⟨O, L, ρ, _, ρ, env, nd, cv, fun ov H1 O1 L1 La P1 => ?_⟩
  have ndd1 := List.nodup_append.mp P1.nd
  have own1 : ∀ z ∈ L1, O1 z := fun z hz => (P1.env.own z hz).1
  obtain ⟨l0, xs0, _, _, e0, h0, _⟩ := mut_rep P1.env ndd1.1 P1.br (show ρ[i]? = some (some (.lst ws0)) from hi0) rfl
  subst e0
  refine ⟨.inl ⟨rfl, xs0, SqL.of h0⟩, ?_⟩
  have eLa : La = [] := P1.br.1
  subst eLa
  refine ⟨O1, L1, ρ, _, ρ1, P1.env, ndd1.1, c1, fun iv H2 O2 L2 Lb P2 => ?_⟩
  obtain ⟨eiv, T2⟩ := P2.ofInt
  subst eiv
  obtain ⟨br2, nd2'⟩ := P1.br.pend own1 P1.nd P2 rfl
  have eLb : Lb = [] := P2.br.1
  subst eLb
  have nd2 := P2.nd
  rw [List.append_nil] at nd2
  obtain ⟨l, xs, M1, M0, el, hl, hO, rs, pm, up⟩ := mut_rep P2.env nd2 br2 hi1 rfl
  cases el
  obtain ⟨y, y1, y2, y3⟩ := rs.erase hd
  obtain ⟨s1, s2, s3, s4⟩ := ixN_seq hj
  refine ⟨l0, xs, k, j, y, rfl, rfl, hl, by omega, by omega, by rw [rs.length]; exact s1, y1, ?_⟩
  have nd6 : (l0 :: (M1 ++ M0)).Nodup := pm.nodup_iff.mp nd2
  have n0 := List.nodup_cons.mp nd6
  have owM : ∀ a ∈ M1, O2 a := fun a ha => (RepWs.own ws1 xs M1 rs a ha).1
  have km : KeepL H2 O2 (upd H2 l0 (.lst (xs.eraseIdx j))) O2 M1 := keep_mut hO (fun z => n0.1 (by simp [z])) owM
  have y4 : RepWs ⟨X.K, cl⟩ (upd H2 l0 (.lst (xs.eraseIdx j))) O2 (ws1.eraseIdx j) (xs.eraseIdx j) M1 := RepWs.keep _ _ M1 km y3
  obtain ⟨L5, p5, env5⟩ := up (ws1.eraseIdx j) (xs.eraseIdx j) M1 O2 (fun _ z => z) (fun _ z _ => z) y4
  have p6 : L5.Perm L2 := p5.trans pm.symm
  have rd : RepW ⟨X.K, cl⟩ (upd H2 l0 (.lst (xs.eraseIdx j))) O2 (.fz d) y [] := RepW.keep (.fz d) y [] (keep_mut hO (by simp) (by simp)) ⟨rfl, y2⟩
  have t1 := P1.st
  have t2 := P2.st
  rw [List.append_nil] at t1 t2
  refine qq y _ O2 L5 [] ⟨env5, rd, by rw [List.append_nil]; exact p6.nodup_iff.mpr nd2, ?_, fun z => by cases z⟩
  rw [List.append_nil]
  exact ((t1.trans t2).trans (Stp.mut (a := l0) (o := .lst (xs.eraseIdx j)) (pm.mem_iff.mpr (by simp)) hl)).perm fun a ha => p6.mem_iff.mp ha
end
end Mi
namespace Mi
open PySem PySem.Spec PyProof.Rows L2 SrtO
section
variable {prog : Program} {w : World} {A : Around} {E : Value → Shared → Prop} {s : Shared}
theorem sorted_tupT {l : Addr} {vs : List Value} {ns : List Int} {Q : Value → Shared → Prop} (ht : s.heap.IsTuple l vs.toArray) (hz : vs.length ≤ sizeLine) (hI : IntsAre vs ns)
    (h : ∀ (h' : Heap) (d : Addr) (n : Nat) (out : List Value), Srtd ltIv out → Stb ltIv out vs → (∀ b o, s.heap.get? b = some o → h'.get? b = some o) → s.heap.get? d = none → h'.get? d = some (seqObj "list" out.toArray n) → Q (.ref d) { s with heap := h' }) :
    wpAny (model prog w) A (call (.builtin "sorted") [.ref l]) Q E s := by
  obtain ⟨o, ho, hc, n, hd⟩ := ht
  refine Calls.call_function_entry PyProof.Rows.kind_sorted PyProof.Rows.plain_sorted PyProof.Rows.entry_sorted (PyProof.Rows.args_sorted1 _) ?_
  unfold Builtin.«sorted»
  refine wpAny_bind (m := checkCount "sorted" 1 1 _) (wpAny_pure ?_)
  refine wpAny_bind (wpAny_collect_seq l (.inr rfl) ho hc hd (fun h1 k1 => ?_) (by rw [List.size_toArray]; exact hz))
  rw [show vs.toArray.toList = vs by simp]
  refine wpAny_bind (wpAny_newList ?_ hz)
  have hoL : (h1.push (seqObj "list" vs.toArray 0)).get? h1.objs.size = some (seqObj "list" vs.toArray 0) := Heap.get?_push_size _ rfl
  have keep : ∀ b o, s.heap.get? b = some o → b ≠ h1.objs.size ∧ (h1.push (seqObj "list" vs.toArray 0)).get? b = some o := fun b o q => by
    have hlt : b < h1.objs.size := Heap.lt_size (k1 b o q)
    exact ⟨Nat.ne_of_lt hlt, Heap.get?_push_of_some _ (k1 b o q)⟩
  have hn : s.heap.get? h1.objs.size = none := by
    cases e : s.heap.get? h1.objs.size with
    | none => rfl
    | some o => exact absurd rfl (keep _ _ e).1
  show wpAny _ _ _ _ _ { s with heap := h1.push (seqObj "list" vs.toArray 0) }
  refine wpAny_bind (wpAny_holding (wpAny_call_entry slot_list_sort ⟨_, hoL, rfl⟩ entry_list_sort (list_sort_ord swo_int hoL hz (fun h2 => ints_sortable hI h2) fun out hs hb => ⟨_, rfl, ?_⟩) (args_list_sort _)))
  obtain ⟨ep, he'⟩ := sortedHeap_at (vs := vs) (out := out.toArray) hoL
  refine wpAny_pure ⟨_, rfl, h _ _ ep out hs hb (fun b o q => ?_) hn he'⟩
  have kb := keep b o q
  rw [sortedHeap_old kb.1 (Heap.lt_size kb.2)]
  exact kb.2
end
theorem objok_at {P : Program} {w : World} {H : Hp} {h : Heap} {a : Addr} {o : HO} (x : ObjOk P w H h a o) : ∃ u, h.get? a = some u := by
  cases o with
  | lst xs => obtain ⟨_, _, _, _, e⟩ := x; exact ⟨_, e⟩
  | tup xs => obtain ⟨_, _, _, ⟨_, e, _⟩⟩ := x; exact ⟨_, e⟩
  | dK kvs => obtain ⟨_, _, _, _, o, _, _, e, _⟩ := x; exact ⟨_, e⟩
  | dT kvs => obtain ⟨_, _, _, _, o, _, _, e, _⟩ := x; exact ⟨_, e⟩
  | set S n => obtain ⟨o, _, _, _, e, _⟩ := x; exact ⟨_, e⟩
  | ins C dx fs => obtain ⟨_, _, _, e, _⟩ := x; exact ⟨_, e⟩
  | own y => exact x
  | xd fs => obtain ⟨_, ⟨_, _, _, e, _⟩, _⟩ := x; exact ⟨_, e⟩
  | rng lo hi => obtain ⟨_, _, _, e⟩ := x; exact ⟨_, e⟩
  | frz ob u => exact ⟨_, x.1⟩
  | tbl ps => exact ⟨_, x⟩
  | met f y => exact ⟨_, x⟩
  | ext φ => obtain ⟨_, ⟨_, e⟩, _⟩ := x; exact ⟨_, e⟩
def rSortTI (K : PySem.W.Frag) : List V → Hp → VK → Prop := fun vs H Q => ∃ (a : Addr) (ns : List Int), vs = [V.ref a] ∧ SqT K H a (ns.map V.int) ∧
  ∀ (ns' : List Int) (p : Addr), ns'.Perm ns → ns'.Pairwise (· ≤ ·) → H p = none → Q (.ref p) (upd H p (.lst (ns'.map V.int)))
theorem cr_sortTI {X : Cx} : CallR X (.builtin "sorted") (rSortTI X.K) := by
  intro pins s σ H vs us Q I r h
  obtain ⟨a, ns, rfl, hs, q⟩ := h
  obtain ⟨its, rv, hl, hz⟩ := I.tuple hs
  rw [Vals.ref1 r]
  have hi := rv.ints
  refine sorted_tupT hl (by rw [← rv.length]; exact hz) hi fun h' d n out h1 h2 kk hn hd => ?_
  obtain ⟨k1, k2, k3⟩ := ints_out hi h1 h2
  have hlen : ((out.map iv).map V.int).length ≤ sizeLine := by
    rw [List.length_map, k2.length_eq]
    rw [List.length_map] at hz
    exact hz
  have hH : H d = none := by
    cases e : H d with
    | none => rfl
    | some o =>
      obtain ⟨u, hu⟩ := objok_at (I.hok d o e)
      rw [hn] at hu
      cases hu
  exact ⟨.ref _, upd H d (.lst ((out.map iv).map V.int)), I.laidN (t' := s.toks) kk hn hH ⟨hlen, out, n, vals_of_ints k1, hd⟩, rfl, q _ _ k2 k3 hH⟩
def fSortTu : List W → Res W
  | [x] => match tupV x with
    | some ds => match intsD ds with
      | some ns => .ok (.lst ((isort ns).map fun n => W.fz (.int n)))
      | none => .err
    | none => .err
  | _ => .err
theorem cs_sortTu {C : Cfg} : CallS C (rSortTI C.K) fSortTu := by
  intro H O vs ws w Q r e q
  unfold fSortTu at e
  split at e
  · split at e
    · rename_i ds hd
      split at e
      · rename_i ns hn
        cases e
        obtain ⟨v, vr, L, e1, r1, r2⟩ := r
        rw [show vr = [] from r2] at e1
        obtain ⟨a, xs, e2, h1, rs⟩ := tupV_rep r1 hd
        rw [intsD_rep rs hn] at h1
        refine ⟨a, ns, by rw [e1, e2], h1.sq, fun ns' p hp ha hpn => ?_⟩
        rw [asc_eq ha (isort_asc ns) (hp.trans (isort_perm ns).symm)]
        have nl := new_lst (C := C) (O := O) (ds := (isort ns).map D.int) hpn (ints_rep (isort ns))
        rw [List.map_map] at nl
        exact q (.ref p) _ _ [p] nl (Gr.newO hpn)
      · cases e
    · cases e
  · cases e
section
variable {X : Cx} {cl : Nat → Addr} {e : Expr} {es : List Expr} {cbs : CBs} {qb : Bool} {p pos : Pos}
theorem dSortTu (hg : Gl X "sorted") (hm : X.mg "sorted" = none) (hb : SB X cl qb (e :: es) cbs) (he : starEach (e :: es) X.env = (false, eval e X.env) :: starEach es X.env := by rfl) (hpl : (backTo pos (starEach es X.env)).any (·.1) = false := by rfl) :
    SE X cl qb (.Call (.Name "sorted" p) (e :: es) [] pos) (cCallB fSortTu cbs) := se_callB cr_sortTI cs_sortTu hg hm (by decide +kernel) hb (by decide) (by decide) he hpl
end
theorem v_sortTu {ds : List D} {ns : List Int} (h : intsD ds = some ns) : fSortTu [.fz (.tup ds)] = .ok (.lst ((isort ns).map fun n => W.fz (.int n))) := by
  show (match intsD ds with | some ns => Res.ok (W.lst ((isort ns).map fun n => W.fz (.int n))) | none => .err) = _
  rw [h]
end Mi
namespace Mi
open PySem PySem.Spec PyProof.Rows L2
def leP (p q : Int × Int) : Prop := p.1 < q.1 ∨ (p.1 = q.1 ∧ p.2 ≤ q.2)
instance (p q : Int × Int) : Decidable (leP p q) := by unfold leP; infer_instance
section
variable {X : Cx} {cl : Nat → Addr} {cbs : CBs} {qb : Bool} {e : Expr} {es : List Expr} {p pos : Pos}
end
end Mi
namespace Mi
open PySem PySem.Spec PyProof.Rows L2
section
variable {X : Cx} {cl : Nat → Addr} {cb cc ca : CE} {qa qb qc : Bool} {p pos : Pos} {e e2 e3 tg : Expr}
end
end Mi
namespace Mi
open PySem PySem.Spec PyProof.Rows L2
section
variable {X : Cx} {cl : Nat → Addr} {o e a b : Expr} {es : List Expr} {cbs : CBs} {ca cb : CE} {qa qb : Bool} {p pos apos : Pos} {tg : Expr}
end
end Mi
namespace Mi
open PySem PySem.Spec PyProof.Rows L2
def TbK (K : PySem.W.Frag) (w : World) (a : Addr) (ks : List Str) : Prop := He.dicW K a = some (He.keysIn w.params ks)
theorem TbK.at {K : PySem.W.Frag} {w : World} {a : Addr} {ks : List Str} (h : TbK K w a ks) : ∃ es ep, K.lookup a = some ⟨.type "dict", none, .dict es ep, #[]⟩ ∧ (a == sysModules) = false ∧ es.toList.map He.keyOf = He.keysIn w.params ks := by
  unfold TbK He.dicW at h
  split at h
  · rename_i c es ep sl hl
    split at h
    · rename_i hb
      simp only [Bool.and_eq_true, decide_eq_true_eq, Bool.not_eq_true'] at hb
      obtain ⟨h1, h2, h3⟩ := hb
      subst h1
      have h4 : sl = #[] := by simpa using h2
      subst h4
      exact ⟨es, ep, hl, h3, Option.some.inj h⟩
    · cases h
  · cases h
end Mi
namespace Mi
open PySem PySem.Spec PyProof.Rows L2
section
variable {X : Cx} {cl : Nat → Addr} {pos : Pos}
end
section
variable {X : Cx} {pn : List (Addr × Obj)} {xe xe' : Value → Shared → Prop} {pins : List (Addr × Obj)} {σ : L2.St} {H : Hp} {s : Shared} {W : WX}
theorem Qt.cv (q : Qt X) (I : Inv (X.tr pn xe) pins σ H s) : Inv (X.tr pn xe') pins σ H s :=
  ⟨I.ok.ofTry.toTry _ _, I.os, I.bare, I.base, I.loc, I.cell, I.free, I.freeC, fun p hp => I.pin p hp, I.hok, I.len⟩
theorem XE.cv (q : Qt X) {u : Value} {s' : Shared} (x : XE (X.tr pn xe) W u s') : XE (X.tr pn xe') W u s' := by
  obtain ⟨a, B, sI, pins, σ, H, cls, d, e, I, nb, up, sky, na, os, ag, w⟩ := x
  exact ⟨a, B, sI, pins, σ, H, cls, d, e, q.cv I, nb, up, sky, na, os, ag, w⟩
theorem SP.cv {D : Ends} {f : Flow} (q : Qt X) (h : SP (X.tr pn xe) pins D f s) : SP (X.tr pn xe') pins D f s := by
  cases f with
  | next => obtain ⟨σ', H', I, z⟩ := h; exact ⟨σ', H', q.cv I, z⟩
  | brk => obtain ⟨σ', H', I, z⟩ := h; exact ⟨σ', H', q.cv I, z⟩
  | cont => obtain ⟨σ', H', I, z⟩ := h; exact ⟨σ', H', q.cv I, z⟩
  | ret u => obtain ⟨v, σ', H', I, r, z⟩ := h; exact ⟨v, σ', H', q.cv I, r, z⟩
theorem PS.cv {st : Stmt} {t : TS} (q : Qt X) (h : PS (X.tr pn xe') st t) (hx : ∀ u s', xe' u s' → xe u s') : PS (X.tr pn xe) st t := ⟨fun pins s σ H D I w =>
  wpAny_mono (h.run pins s σ H D (q.cv I) w) (fun _ _ z => SP.cv q z) hx⟩
theorem PG.up {e : Expr} {t : TG} (q : Qt X) (h : PG X e t) : PG (X.tr pn xe) e t := ⟨fun pins s σ H v u Q I r w =>
  wpAny_mono (h.run (pn ++ pins) s σ H v u Q (q.dn I) r w) (fun _ _ ⟨σ', H', I', z⟩ => ⟨σ', H', q.bk I', z⟩) fun u s' z => by rw [q.xe] at z; exact False.elim z⟩
theorem PI.up {tg e : Expr} {t : TI} (q : Qt X) (h : PI X tg e t) : PI (X.tr pn xe) tg e t := ⟨fun pins s σ H R I w =>
  wpAny_mono (h.run (pn ++ pins) s σ H R (q.dn I) w) (fun v s1 h1 => wpAny_mono h1 (fun itv s2 h2 => by
    obtain ⟨it, fp, tn, J, H', e, I', T, st, fo, r⟩ := h2
    refine ⟨it, fp, tn, J, H', e, q.bk I', T, st, fun b hb => ?_, r⟩
    obtain ⟨f0, f1, f2, f3, f4, f5⟩ := fo b hb
    exact ⟨f0, f1, f2, f3, f4, fun p hp => f5 p (by rw [q.pn]; exact hp)⟩) fun u s' z => by rw [q.xe] at z; exact False.elim z) fun u s' z => by rw [q.xe] at z; exact False.elim z⟩
end
section
variable {X : Cx} {cl : Nat → Addr} {kp : KP} {tg iter : Expr} {body : List Stmt} {ci : CI} {g : CG} {cb : CS} {xb : CR} {pos : Pos}
end
end Mi
namespace Mi
open PySem PySem.Spec PyProof.Rows L2
def PTK (X : Cx) (e : Expr) (t : TT) : Prop := ∀ (pins : List (Addr × Obj)) (s : Shared) (σ : L2.St) (H : Hp) (Q : Bool → Hp → Prop), Inv X pins σ H s → t σ H Q →
  wpAny (model X.prog X.w) X.A (isTrue e X.env (eval e X.env)) (fun d s1 => 1 ≤ s1.toks ∧ TP X pins σ Q d s1) X.xe s
section
variable {X : Cx} {cl : Nat → Addr} {a b c o e : Expr} {ca cb co : CE} {ct : CT} {qa qb qc qo : Bool} {p pos apos c0 c1 : Pos} {i y z : Str} {j k : Nat} {r : R2} {tb : TE}
theorem PTK.imp {e : Expr} {t u : TT} (h : PTK X e t) (g : ∀ σ H Q, u σ H Q → t σ H Q) : PTK X e u := fun pins s σ H Q I w => h pins s σ H Q I (g σ H Q w)
end
end Mi
namespace Mi
open PySem PySem.Spec PyProof.Rows L2
section
variable {X : Cx} {cl : Nat → Addr} {pos : Pos}
end
section
variable {X : Cx} {cl : Nat → Addr} {e : Expr} {ce : CE} {q : Bool} {apos cpos px p0 : Pos} {j0 : Nat}
end
end Mi
namespace Mi
open PySem PySem.Spec PyProof.Rows L2
section
variable {P : Program} {w : World} {A : Around} {E : Value → Shared → Prop} {s : Shared} {a : Addr} {S : Int → Bool} {n : Nat}
end
section
variable {X : Cx} {cl : Nat → Addr} {e : Expr} {ca : CE} {qa : Bool} {p p2 pos pos2 : Pos} {es : List Expr} {cbs : CBs} {qb : Bool}
end
end Mi
namespace Mi
open PySem PySem.Spec PyProof.Rows L2
section
variable {X : Cx} {cl : Nat → Addr} {e : Expr} {ca : CE} {qa : Bool} {p p2 pos pos2 : Pos} {es : List Expr} {cbs : CBs} {qb : Bool}
end
end Mi
namespace Mi
open PySem PySem.Spec PyProof.Rows L2
section
variable {X : Cx}
end
section
variable {X : Cx} {cl : Nat → Addr} {a b : Expr} {ca cb : CE} {qa qb : Bool} {pos : Pos}
end
def CPowW (i j : Int) : Prop := 0 ≤ j ∧ j ≤ 1000 ∧ i.natAbs < 2 ^ 1000
instance {i j : Int} : Decidable (CPowW i j) := by unfold CPowW; infer_instance
section
variable {X : Cx} {cl : Nat → Addr} {a b : Expr} {ca cb : CE} {qa qb : Bool} {pos : Pos}
end
end Mi
namespace Mi
open PySem PySem.Spec PyProof.Rows L2
section
variable {X : Cx} {cl : Nat → Addr} {a b c : Expr} {ca cb cc : CE} {qa qb qc : Bool} {pos : Pos} {op op' : CmpOp} {n n' : Bool}
end
end Mi
namespace Mi
open PySem PySem.Spec PyProof.Rows L2
def ksV (ks : List Key) (vs : List V) : List (V × V) := (ks.map kV).zip vs
def SP (X : Cx) (cl : Nat → Addr) (q : Bool) (pos : Pos) (keys : List (Option Expr)) (vals : List Expr) (ks : List Key) (cb : CBs) : Prop :=
  ∃ trs, PPs X pos keys vals trs ∧ keys.length = ks.length ∧ ∀ σ H Q, tB ⟨X.K, cl⟩ q cb σ H (fun vs H' => Q (ksV ks vs) H') → tPairs trs σ H Q
section
variable {X : Cx} {cl : Nat → Addr} {pos : Pos} {k v : Expr} {ks : List (Option Expr)} {vs : List Expr} {kk : Key} {kks : List Key} {ca : CE} {cb : CBs} {qa qb : Bool}
end
section
variable {X : Cx} {cl : Nat → Addr} {pos : Pos} {keys : List (Option Expr)} {vals : List Expr} {ks : List Key} {cb : CBs} {qb : Bool}
end
section
variable {X : Cx} {cl : Nat → Addr} {a b : Expr} {ca cb : CE} {qa qb : Bool} {pos : Pos}
end
end Mi
namespace Mi
open PySem PySem.Spec PyProof.Rows L2
section
variable {X : Cx} {cl : Nat → Addr} {cbs : CBs} {qb : Bool} {e : Expr} {es : List Expr} {p pos : Pos}
end
end Mi
namespace Mi
open PySem PySem.Spec PyProof.Rows L2 RZ
open PySem.Sem (wp)
structure Zip3A (z TI TO i1 i2 i3 a b c : Addr) : Prop where
  s : ZipSep3 z TI TO i1 i2 i3 [i1, a] [i2, b] [i3, c]
  a1 : a ≠ i1
  b2 : b ≠ i2
  c3 : c ≠ i3
end Mi
namespace Mi
open PySem PySem.Spec PyProof.Rows L2 HT
theorem Vals.pick {xs : List V} {us : List Value} (r : Vals xs us) : ∀ I : List Nat, Vals (I.filterMap (xs[·]?)) (I.filterMap (us[·]?))
  | [] => .nil
  | i :: I => by
    rw [List.filterMap_cons, List.filterMap_cons]
    have ih := Vals.pick r I
    cases hx : xs[i]? with
    | none =>
      have : us[i]? = none := by
        rw [List.getElem?_eq_none_iff] at hx ⊢
        have := r.length
        omega
      rw [this]; exact ih
    | some x =>
      obtain ⟨u, hu, ru⟩ := r.get hx
      rw [hu]; exact .cons ru ih
theorem RepDs.pick {C : Cfg} {H : Hp} {O : AP} {ds : List D} {xs : List V} (r : RepDs C H O ds xs) : ∀ I : List Nat, RepDs C H O (I.filterMap (ds[·]?)) (I.filterMap (xs[·]?))
  | [] => RepDs.nil
  | i :: I => by
    rw [List.filterMap_cons, List.filterMap_cons]
    have ih := RepDs.pick r I
    cases hd : ds[i]? with
    | none =>
      have : xs[i]? = none := by
        rw [List.getElem?_eq_none_iff] at hd ⊢
        have := r.length
        omega
      rw [this]; exact ih
    | some d =>
      obtain ⟨x, hx, rx⟩ := r.get hd
      rw [hx]; exact .cons rx ih
end Mi
namespace Mi
open PySem PySem.Spec PyProof.Rows L2
section
variable {prog : Program} {w : World} {M : Model} {A : Around} {E : Value → Shared → Prop} {s : Shared} {K : PySem.W.Frag} {x C f L : Addr} {ox : Obj} {od : Option Obj} {h₀ : Heap} {m : Str → Option Value} {b tb : Value}
end
section
variable {X : Cx} {cl : Nat → Addr} {a b e : Expr} {ca cb : CE} {qa qb : Bool} {pos p p2 : Pos} {i0 i1 i2 : Nat} {F : Fn}
end
end Mi
namespace Mi
open PySem PySem.Spec PyProof.Rows L2
end Mi
namespace Mi
open PySem PySem.Spec PyProof.Rows L2
section
variable {C : Cfg} {H H2 : Hp} {O O2 O3 : AP} {t : Addr}
end
section
variable {C : Cfg} {kp kp' : KP} {σ σ2 : Sg} {H H2 : Hp} {O O2 : AP} {L L2 Lw : List Addr} {ρ ρ2 : En}
theorem PostS.sub (hk : ∀ k, kp k = true → kp' k = true) (P : PostS C kp' σ H O L ρ2 σ2 H2 O2 L2 Lw) : PostS C kp σ H O L ρ2 σ2 H2 O2 L2 Lw := ⟨P.env, P.nd, P.st, fun i h => P.kp i (hk i h), P.ln⟩
end
section
variable {X : Cx} {cl : Nat → Addr} {kp kp' : KP} {s1 s2 : Stmt} {rest : List Stmt} {c1 c2 c3 : CS} {i : Nat}
end
end Mi
namespace Mi
open PySem PySem.Spec PyProof.Rows L2
section
variable {X : Cx}
end
end Mi
namespace PySem
namespace HandSPX
open Builtin Builtin.ObjectAttr
section
variable {M : Model} {A : Around} {E : Value → Shared → Prop} {h : Heap} {g : Array GenState} {d : Drawn} {t : Nat} {os : OsState}
variable {nm q : Str} {C N : Addr} {bs bm bmB : List Value} {hdct : Bool} {sn : List Str} {sub : List Value} {ab : Bool} {col : Option Bool} {dd : Option Addr} {k0 k1 k2 k3 k5 : Option Value} {B newId initId : String}
end
section
variable {prog : Program} {w : World} {A : Around} {E : Value → Shared → Prop} {R : Result → Shared → Prop} {h : Heap} {g : Array GenState} {d : Drawn} {t : Nat} {os : OsState}
variable {nm q : Str} {C N : Addr} {bs bm bmB : List Value} {hdct : Bool} {sn : List Str} {sub : List Value} {ab : Bool} {col : Option Bool} {dd : Option Addr} {k0 k1 k2 k3 k5 : Option Value} {B newId initId : String}
end
end HandSPX
end PySem
namespace Mi
open PySem PySem.Spec PyProof.Rows L2
section
variable {X : Cx} {CX : CXT} {x : Str} {C fI : Addr} {k n : Nat} {fd : FuncData} {ps ks : List Str} {sp : Sp} {p pos : Pos} {e : Expr} {es : List Expr} {kws : List Keyword} {ta tk : TA} {g : List Value → List Value → List Value} {gV : List V → List V → List V}
end
end Mi
namespace Mi
open PySem PySem.Spec PyProof.Rows L2
section
variable {X : Cx} {cl : Nat → Addr} {e : Expr} {es : List Expr} {kws : List Keyword} {cb : CBs} {qb : Bool} {p pos : Pos} {x : Str} {c : Nat} {fs ks : List Str} {ix : List Nat}
structure RaMK (X : Cx) (cl : Nat → Addr) (c : Nat) (x : Str) (fs ks : List Str) (ix : List Nat) : Prop where
  ex : ∃ (fd : FuncData) (ps : List Str), FnOk X.prog X.w X.K X.mg X.base CX0 1 (He.ma X.K (cl c) "__init__") fd ps (spOx (cl c) fs) ∧ KBn X.K fd ps 1 ks (fun us ws => us ++ pick ix ws) (fun vs zs => vs ++ pick ix zs)
  mg : X.mg x = some (.ref (cl c))
  xc : XcF X.K (cl c) fs
  rm : Room 2 X.A
end
section
variable {X : Cx} {cl : Nat → Addr} {e : Expr} {ca : CE} {qa : Bool} {pos p p2 : Pos} {n x : Str}
end
end Mi
namespace Mi
open PySem PySem.Spec PyProof.Rows L2
structure DrK (P : Program) (w : World) (K : PySem.W.Frag) (mg : Str → Option Value) (base : Heap) (cl : Nat → Addr) (c : Nat) (x : Str) (fs ks : List Str) (ix : List Nat) : Prop where
  ex : ∃ (fd : FuncData) (ps : List Str), FnOk P w K mg base CX0 1 (He.ma K (cl c) "__init__") fd ps (spOx (cl c) fs) ∧ KBn K fd ps 1 ks (fun us ws => us ++ pick ix ws) (fun vs zs => vs ++ pick ix zs)
  mg : mg x = some (.ref (cl c))
  xc : XcF K (cl c) fs
theorem DrK.ra {P : Program} {w : World} {K : PySem.W.Frag} {mg : Str → Option Value} {base : Heap} {cl : Nat → Addr} {x : Str} {c j : Nat} {fs ks : List Str} {ix : List Nat} {N : List Str} {q : Str} {sc : Scope} {f : Addr} {cdv : Value} {A : Around} {outer : List Env} {s : Shared} {H : Hp} {E : XK} (d : DrK P w K mg base cl c x fs ks ix) (hr : Room j (A.deeper (envOfC q sc s.heap.objs.size f cdv))) (h : 2 ≤ j) : RaMK (BX P w K mg base N q sc f cdv A outer s H E) cl c x fs ks ix := ⟨d.ex, d.mg, d.xc, hr.mono h⟩
section
variable {X : Cx} {cl : Nat → Addr} {e : Expr} {ca : CE} {qa : Bool} {pos p p2 : Pos} {x : Str} {T : List (Nat × Bool)}
end
end Mi
namespace Mi
open PySem PySem.Spec PyProof.Rows L2
end Mi
namespace Mi
open PySem PySem.Spec PyProof.Rows L2
def spIX (C : Cfg) (c np : Nat) (I : List D → Res Xr) : Sp := fun vs H _ E => ∃ x dx as O ds xr, vs = V.ref x :: as ∧ as.length = np ∧ H x = some (.ins (C.cl c) dx []) ∧ H dx = some (.own x) ∧ dx ≠ x ∧ O x ∧ O dx ∧ RepDs C H O ds as ∧ I ds = .ok xr ∧
  ∀ H' O' L' dd gs, Stp H O [] H' O' L' → H' dd = some (.xd gs) → ¬ O' dd → (∀ p ∈ xr.2, gs.lookup p.1 = some (V.int p.2)) → E (.ref (C.cl xr.1)) (some dd) H'
structure MkX (X : Cx) (cl : Nat → Addr) (c : Nat) (x : Str) (np : Nat) (I : List D → Res Xr) : Prop where
  ex : ∃ (k : Nat) (f : Addr) (fd : FuncData) (ps : List Str), FnOk X.prog X.w X.K X.mg X.base (L2.CX X.prog X.w) k f fd ps (spIX ⟨X.K, cl⟩ c np I) ∧ Room (k + 1) X.A ∧ X.mg x = some (.ref (cl c)) ∧ Mk X.K (cl c) f ∧ (∀ ds y, I ds = .ok y → ds.length = np) ∧
    ∀ dd : List D, (∀ d ∈ dd, d = .non) → dd.length ≤ 2 → ∃ ds, Vals (dd.map fun _ => V.non) ds ∧ Binds X.K fd ps ds
section
variable {X : Cx} {cl : Nat → Addr} {e : Expr} {es : List Expr} {cb : CBs} {qb : Bool} {p pos : Pos}
end
structure DmX (P : Program) (w : World) (K : PySem.W.Frag) (mg : Str → Option Value) (base : Heap) (cl : Nat → Addr) (c : Nat) (x : Str) (k np : Nat) (I : List D → Res Xr) : Prop where
  ex : ∃ (f : Addr) (fd : FuncData) (ps : List Str), FnOk P w K mg base (L2.CX P w) k f fd ps (spIX ⟨K, cl⟩ c np I) ∧ mg x = some (.ref (cl c)) ∧ Mk K (cl c) f ∧ (∀ ds y, I ds = .ok y → ds.length = np) ∧ ∀ dd : List D, (∀ d ∈ dd, d = .non) → dd.length ≤ 2 → ∃ ds, Vals (dd.map fun _ => V.non) ds ∧ Binds K fd ps ds
section
variable {P : Program} {w : World} {K : PySem.W.Frag} {mg : Str → Option Value} {base : Heap} {cl : Nat → Addr} {k j : Nat} {N : List Str} {q : Str} {sc : Scope} {f : Addr} {cdv : Value} {A : Around} {outer : List Env} {s : Shared} {H : Hp} {E : XK}
end
end Mi
namespace Mi
open PySem PySem.Spec PyProof.Rows L2
abbrev TH := Addr → Value → Option Addr → TS
inductive HdA (X : Cx) (n : Str) : List ExceptHandler → List (Value × TH) → Prop
  | nil : HdA X n [] []
  | cons {x : Str} {c : Value} {ts : TH} {b₀ : Stmt} {suite : List Stmt} {np pos' : Pos} {hds : List ExceptHandler} {l : List (Value × TH)} (hc : Names X x c)
      (hsu : ∀ (a : Addr) (oe : Obj) (cls : Value) (d : Option Addr) (pn : List (Addr × Obj)), Zc cls d oe → (∃ vs, oe.data = .fields vs) → PSs (X.suite a ((a, oe) :: pn)) (b₀ :: suite) (ts a cls d)) (r : HdA X n hds l) :
      HdA X n (.ExceptHandler (some (.Name x np)) (some n) (b₀ :: suite) pos' :: hds) ((c, ts) :: l)
section
variable {X : Cx} {n : Str} {i : Nat} {body : List Stmt} {h₀ : ExceptHandler} {hds : List ExceptHandler} {l : List (Value × TH)} {pos : Pos} {tb : WX → TS} {Wout : WX}
end
end Mi
namespace Mi
open PySem PySem.Spec PyProof.Rows L2
inductive EL where
  | con (d : D)
  | fld (f : Str)
structure Caught (i : Nat) (a : Addr) (cls : Value) (d : Option Addr) (C : Addr) (fs : List (Str × Int)) (σ : Sg) (H : Hp) : Prop where
  s : σ[i]? = some (some (.ref a))
  c : cls = .ref C
  x : ∃ dd gs, d = some dd ∧ H dd = some (.xd gs) ∧ ∀ p ∈ fs, gs.lookup p.1 = some (V.int p.2)
section
variable {X : Cx} {i : Nat} {a C : Addr} {oe : Obj} {cls : Value} {d : Option Addr} {pn : List (Addr × Obj)} {n x f : Str} {fs0 : List Str} {p p1 p2 pos : Pos} {e : Expr} {rest es : List Expr} {l : EL} {ls : List EL}
end
section
variable {X : Cx} {i j : Nat} {a C : Addr} {oe : Obj} {cls : Value} {d : Option Addr} {pn : List (Addr × Obj)} {m : Str} {p1 p2 p3 : Pos} {es : List Expr} {ls : List EL}
end
end Mi
namespace Mi
open PySem PySem.Spec PyProof.Rows L2
abbrev TbX := List (Nat × List EL)
section
variable {X : Cx} {cl : Nat → Addr} {kp : KP} {n : Str} {i j : Nat} {body : List Stmt} {h₀ : ExceptHandler} {hds : List ExceptHandler} {tbl : TbX} {pos : Pos} {cN : CS} {cX : CR}
end
end Mi
namespace Mi
open PySem PySem.Spec PyProof.Rows L2
structure MkK (X : Cx) (cl : Nat → Addr) (c : Nat) (x : Str) (np : Nat) (I : List D → Res (List D)) (ks : List Str) (ix : List Nat) : Prop where
  ex : ∃ (k : Nat) (f : Addr) (fd : FuncData) (ps : List Str) (g : List Value → List Value → List Value), FnOk X.prog X.w X.K X.mg X.base CX0 k f fd ps (spI ⟨X.K, cl⟩ c np I) ∧ Room (k + 1) X.A ∧ X.mg x = some (.ref (cl c)) ∧ Mk X.K (cl c) f ∧ (∀ ds fs, I ds = .ok fs → ds.length = np) ∧
    KBn X.K fd ps 1 ks g (fun vs zs => vs ++ pick ix (zs ++ [V.non, V.non]))
section
variable {X : Cx} {cl : Nat → Addr} {kws : List Keyword} {cb : CBs} {qb : Bool} {p pos : Pos} {ks : List Str} {ix : List Nat}
end
end Mi
namespace Mi
open PySem PySem.Spec PyProof.Rows L2
section
variable {X : Cx} {CX : CXT} {cl : Nat → Addr} {fe : Expr} {kws : List Keyword} {ca ck : CE} {cb : CBs} {qa qb : Bool} {pos : Pos} {ks ps : List Str} {C g : Addr} {k : Nat} {fd : FuncData} {sp : Sp} {E : XK} {tf : TE} {tk : TA}
structure FnGK (X : Cx) (cl : Nat → Addr) (g : Addr) (x : Str) (F : Fn) : Prop where
  ex : ∃ (k : Nat) (fd : FuncData) (ps : List Str), FnOk X.prog X.w X.K X.mg X.base CX0 k g fd ps (spM ⟨X.K, cl⟩ F) ∧ Room k X.A ∧ KBn X.K fd ps 1 [x] (fun us ws => us ++ ws) (fun vs zs => vs ++ zs)
theorem FnGK.blk {x : Str} {F : Fn} (h : FnGK X cl g x F) {s : Shared} {H : Hp} {scope : Scope} {env : Env} {fp : List Addr} : FnGK (X.blk s H scope env fp) cl g x F := ⟨h.ex⟩
end
structure DgK (P : Program) (w : World) (K : PySem.W.Frag) (mg : Str → Option Value) (base : Heap) (cl : Nat → Addr) (g : Addr) (x : Str) (k : Nat) (F : Fn) : Prop where
  ex : ∃ (fd : FuncData) (ps : List Str), FnOk P w K mg base CX0 k g fd ps (spM ⟨K, cl⟩ F) ∧ KBn K fd ps 1 [x] (fun us ws => us ++ ws) (fun vs zs => vs ++ zs)
structure DmK (P : Program) (w : World) (K : PySem.W.Frag) (mg : Str → Option Value) (base : Heap) (cl : Nat → Addr) (c : Nat) (x : Str) (k np : Nat) (I : List D → Res (List D)) (ks : List Str) (ix : List Nat) : Prop where
  ex : ∃ (f : Addr) (fd : FuncData) (ps : List Str) (g : List Value → List Value → List Value), FnOk P w K mg base CX0 k f fd ps (spI ⟨K, cl⟩ c np I) ∧ mg x = some (.ref (cl c)) ∧ Mk K (cl c) f ∧ (∀ ds fs, I ds = .ok fs → ds.length = np) ∧ KBn K fd ps 1 ks g (fun vs zs => vs ++ pick ix (zs ++ [V.non, V.non]))
section
variable {P : Program} {w : World} {K : PySem.W.Frag} {mg : Str → Option Value} {base : Heap} {cl : Nat → Addr} {k j : Nat} {N : List Str} {q x : Str} {sc : Scope} {f g : Addr} {cdv : Value} {A : Around} {outer : List Env} {s : Shared} {H : Hp} {E : XK} {F : Fn}
end
theorem MkK.blk {X : Cx} {cl : Nat → Addr} {c np : Nat} {x : Str} {I : List D → Res (List D)} {ks : List Str} {ix : List Nat} (h : MkK X cl c x np I ks ix) {s : Shared} {H : Hp} {sc : Scope} {en : Env} {fp : List Addr} : MkK (X.blk s H sc en fp) cl c x np I ks ix := ⟨h.ex⟩
section
variable {K : PySem.W.Frag} {x qual : Str} {params : Arguments} {body : List Stmt} {scope : Scope} {f : Addr} {fd : FuncData} {ps : List Str}
end
end Mi
namespace Mi
open PySem PySem.Spec PyProof.Rows L2
def isNT : W → Bool
  | .fz (.int _) => true
  | .fz (.tup _) => true
  | _ => false
def ntT : W → String
  | .fz (.int _) => "int"
  | _ => "tuple"
structure WayN (K : PySem.W.Frag) (C : Addr) : Prop where
  fi : PySem.W.notFirst K C (.type "int") = true
  ft : PySem.W.notFirst K C (.type "tuple") = true
  ki : PySem.W.kitOne K (.type "int") (.ref C) = some false
  kt : PySem.W.kitOne K (.type "tuple") (.ref C) = some false
section
variable {K : PySem.W.Frag} {C : Addr} (N : WayN K C) {w : W} (h : isNT w = true)
include N h
theorem WayN.nf : PySem.W.notFirst K C (.type (ntT w)) = true := by
  cases w with
  | fz d => cases d <;> first | exact N.fi | exact N.ft | cases h
  | lst ws => cases h
  | ob _ _ => cases h
  | di _ => cases h
theorem WayN.k1 : PySem.W.kitOne K (.type (ntT w)) (.ref C) = some false := by
  cases w with
  | fz d => cases d <;> first | exact N.ki | exact N.kt | cases h
  | lst ws => cases h
  | ob _ _ => cases h
  | di _ => cases h
end
section
variable {prog : Program} {w : World} {A : Around} {E : Value → Shared → Prop} {s : Shared} {K : PySem.W.Frag} {x C f L : Addr} {ox : Obj} {od : Option Obj} {h₀ : Heap} {m : Str → Option Value} {y tb : Value}
end
end Mi
namespace Mi
open PySem PySem.Spec PyProof.Rows L2
section
variable {X : Cx} {cl : Nat → Addr} {a b e : Expr} {ca cb : CE} {qa qb : Bool} {pos p p2 : Pos} {i0 i1 i2 : Nat} {F : Fn}
end
end Mi
namespace Mi
open PySem PySem.Spec PyProof.Rows L2
end Mi
namespace Mi
open PySem PySem.Spec PyProof.Rows L2
section
variable {X : Cx} {cl : Nat → Addr} {e : Expr} {es : List Expr} {cb : CBs} {qb : Bool} {p pos : Pos}
end
end Mi
namespace Mi
open PySem PySem.Spec PyProof.Rows L2
theorem tE.mono {C : Cfg} {qt : Bool} {c : CE} {σ : Sg} {H : Hp} {Q Q' : VK} (h : tE C qt c σ H Q) (k : ∀ v H', Q v H' → Q' v H') : tE C qt c σ H Q' := by
  obtain ⟨O, L, ρ, b, ρ', env, nd, e, q⟩ := h
  exact ⟨O, L, ρ, b, ρ', env, nd, e, fun v H' O' L' Lb P => k _ _ (q v H' O' L' Lb P)⟩
section
variable {X : Cx} {cl : Nat → Addr} {e : Expr} {es : List Expr} {ce : CE} {cb : CBs} {qb : Bool} {px apos pos : Pos} {c i : Nat} {F : Fn} {io : KP} {x m : Str} {g : Addr} {pl : Sem Bool}
end
end Mi
namespace Mi
open PySem PySem.Spec PyProof.Rows L2
section
variable {X : Cx} {cl : Nat → Addr} {ps pa : Pos} {c k i : Nat} {x f : Str} {p : Addr} {kp : KP}
end
end Mi
namespace Mi
open PySem PySem.Spec PyProof.Rows L2
structure FnGX (X : Cx) (cl : Nat → Addr) (g : Addr) (F : Fx) : Prop where
  ex : ∃ (k : Nat) (fd : FuncData) (ps : List Str), FnOk X.prog X.w X.K X.mg X.base (L2.CX X.prog X.w) k g fd ps (spX ⟨X.K, cl⟩ F) ∧ Room k X.A ∧ Binds X.K fd ps []
section
variable {X : Cx} {cl : Nat → Addr} {e : Expr} {es : List Expr} {cb : CBs} {qb : Bool} {px apos pos : Pos} {c i : Nat} {F : Fx} {x m : Str} {g : Addr} {pl : Sem Bool}
end
section
variable {X : Cx} {cl : Nat → Addr} {o : Expr} {ca : CE} {qa : Bool} {apos pos : Pos} {c : Nat} {F : Fn} {io : KP} {m : Str} {g : Addr} {pl : Sem Bool}
end
end Mi
namespace Mi
open PySem PySem.Spec PyProof.Rows L2
section
variable {X : Cx} {CX : CXT} {o : Expr} {kws : List Keyword} {m : Str} {apos pos : Pos} {ks ps : List Str} {ix : List Nat} {C g : Addr} {k : Nat} {fd : FuncData} {sp : Sp} {E : XK} {ta : TE} {tk : TA} {pl : Sem Bool}
end
structure FnGKs (X : Cx) (cl : Nat → Addr) (g : Addr) (ks : List Str) (ix : List Nat) (F : Fn) : Prop where
  ex : ∃ (k : Nat) (fd : FuncData) (ps : List Str), FnOk X.prog X.w X.K X.mg X.base CX0 k g fd ps (spM ⟨X.K, cl⟩ F) ∧ Room k X.A ∧ KBn X.K fd ps 1 ks (fun us ws => us ++ pick ix ws) (fun vs zs => vs ++ pick ix zs)
section
variable {X : Cx} {cl : Nat → Addr} {kws : List Keyword} {cb : CBs} {qb : Bool} {px apos pos : Pos} {c i : Nat} {F : Fn} {io : KP} {x m : Str} {g : Addr} {pl : Sem Bool} {ks : List Str} {ix : List Nat}
end
end Mi
namespace Mi
open PySem PySem.Spec PyProof.Rows L2
structure ClsF (K : PySem.W.Frag) (C : Addr) (sl : List (Str × Nat)) (ms ps : List Str) : Prop where
  sc : SlX.SCls K C
  s : ∀ p ∈ sl, SlX.Slot1 K C p.1 (He.ma K C p.1) p.2
  m : ∀ m ∈ ms, Meth K C m (He.ma K C m)
  p : ∀ f ∈ ps, PrF K C f
section
variable {X : Cx} {cl : Nat → Addr} {sl : List (Str × Nat)} {ms prs : List Str} {c i k : Nat} {o e : Expr} {es : List Expr} {kws : List Keyword} {ca ce : CE} {cb : CBs} {qa qb : Bool} {f m x : Str} {F : Fn} {Fx' : Fx} {io kp : KP} {px pa ps apos pos : Pos} {pl : Sem Bool} {ks : List Str} {ix : List Nat}
end
structure DgX (P : Program) (w : World) (K : PySem.W.Frag) (mg : Str → Option Value) (base : Heap) (cl : Nat → Addr) (g : Addr) (k : Nat) (F : Fx) : Prop where
  ex : ∃ (fd : FuncData) (ps : List Str), FnOk P w K mg base (L2.CX P w) k g fd ps (spX ⟨K, cl⟩ F) ∧ Binds K fd ps []
structure DgKs (P : Program) (w : World) (K : PySem.W.Frag) (mg : Str → Option Value) (base : Heap) (cl : Nat → Addr) (g : Addr) (ks : List Str) (ix : List Nat) (k : Nat) (F : Fn) : Prop where
  ex : ∃ (fd : FuncData) (ps : List Str), FnOk P w K mg base CX0 k g fd ps (spM ⟨K, cl⟩ F) ∧ KBn K fd ps 1 ks (fun us ws => us ++ pick ix ws) (fun vs zs => vs ++ pick ix zs)
section
variable {P : Program} {w : World} {K : PySem.W.Frag} {mg : Str → Option Value} {base : Heap} {cl : Nat → Addr} {k j : Nat} {N : List Str} {q : Str} {sc : Scope} {f g : Addr} {cdv : Value} {A : Around} {outer : List Env} {s : Shared} {H : Hp} {E : XK} {F : Fn} {F' : Fx} {ks : List Str} {ix : List Nat}
end
section
variable {K : PySem.W.Frag} {x qual : Str} {params : Arguments} {body : List Stmt} {scope : Scope} {f : Addr} {fd : FuncData} {ps : List Str}
end
structure MkK0 (X : Cx) (cl : Nat → Addr) (c : Nat) (x : Str) (np : Nat) (I : List D → Res (List D)) (ks : List Str) (ix : List Nat) : Prop where
  ex : ∃ (k : Nat) (f : Addr) (fd : FuncData) (ps : List Str), FnOk X.prog X.w X.K X.mg X.base CX0 k f fd ps (spI ⟨X.K, cl⟩ c np I) ∧ Room (k + 1) X.A ∧ X.mg x = some (.ref (cl c)) ∧ Mk X.K (cl c) f ∧ (∀ ds fs, I ds = .ok fs → ds.length = np) ∧
    KBn X.K fd ps 1 ks (fun us ws => us ++ pick ix ws) (fun vs zs => vs ++ pick ix zs)
section
variable {X : Cx} {cl : Nat → Addr} {kws : List Keyword} {cb : CBs} {qb : Bool} {p pos : Pos} {ks : List Str} {ix : List Nat}
end
end Mi
namespace Mi
open PySem PySem.Spec PyProof.Rows L2
end Mi
namespace Mi
open PySem PySem.Spec PyProof.Rows L2
structure MkMo (X : Cx) (cl : Nat → Addr) (c : Nat) (x : Str) (np : Nat) (I : List D → Res (List D)) : Prop where
  ex : ∃ (k : Nat) (f : Addr) (fd : FuncData) (ps : List Str), FnOk X.prog X.w X.K X.mg X.base CX0 k f fd ps (spI ⟨X.K, cl⟩ c np I) ∧ Room (k + 1) X.A ∧ X.mg x = some (.ref (cl c)) ∧ Mk X.K (cl c) f ∧ (∀ ds fs, I ds = .ok fs → ds.length = np) ∧ Binds X.K fd ps []
structure MkXo (X : Cx) (cl : Nat → Addr) (c : Nat) (x : Str) (np : Nat) (I : List D → Res Xr) : Prop where
  ex : ∃ (k : Nat) (f : Addr) (fd : FuncData) (ps : List Str), FnOk X.prog X.w X.K X.mg X.base (L2.CX X.prog X.w) k f fd ps (spIX ⟨X.K, cl⟩ c np I) ∧ Room (k + 1) X.A ∧ X.mg x = some (.ref (cl c)) ∧ Mk X.K (cl c) f ∧ (∀ ds y, I ds = .ok y → ds.length = np) ∧ Binds X.K fd ps []
section
variable {X : Cx} {cl : Nat → Addr} {e : Expr} {es : List Expr} {cb : CBs} {qb : Bool} {p pos : Pos}
end
structure Dmo (P : Program) (w : World) (K : PySem.W.Frag) (mg : Str → Option Value) (base : Heap) (cl : Nat → Addr) (c : Nat) (x : Str) (k np : Nat) (I : List D → Res (List D)) : Prop where
  ex : ∃ (f : Addr) (fd : FuncData) (ps : List Str), FnOk P w K mg base CX0 k f fd ps (spI ⟨K, cl⟩ c np I) ∧ mg x = some (.ref (cl c)) ∧ Mk K (cl c) f ∧ (∀ ds fs, I ds = .ok fs → ds.length = np) ∧ Binds K fd ps []
structure DmXo (P : Program) (w : World) (K : PySem.W.Frag) (mg : Str → Option Value) (base : Heap) (cl : Nat → Addr) (c : Nat) (x : Str) (k np : Nat) (I : List D → Res Xr) : Prop where
  ex : ∃ (f : Addr) (fd : FuncData) (ps : List Str), FnOk P w K mg base (L2.CX P w) k f fd ps (spIX ⟨K, cl⟩ c np I) ∧ mg x = some (.ref (cl c)) ∧ Mk K (cl c) f ∧ (∀ ds y, I ds = .ok y → ds.length = np) ∧ Binds K fd ps []
structure DmKo (P : Program) (w : World) (K : PySem.W.Frag) (mg : Str → Option Value) (base : Heap) (cl : Nat → Addr) (c : Nat) (x : Str) (k np : Nat) (I : List D → Res (List D)) (ks : List Str) (ix : List Nat) : Prop where
  ex : ∃ (f : Addr) (fd : FuncData) (ps : List Str), FnOk P w K mg base CX0 k f fd ps (spI ⟨K, cl⟩ c np I) ∧ mg x = some (.ref (cl c)) ∧ Mk K (cl c) f ∧ (∀ ds fs, I ds = .ok fs → ds.length = np) ∧ KBn K fd ps 1 ks (fun us ws => us ++ pick ix ws) (fun vs zs => vs ++ pick ix zs)
section
variable {P : Program} {w : World} {K : PySem.W.Frag} {mg : Str → Option Value} {base : Heap} {cl : Nat → Addr} {k j : Nat} {N : List Str} {q : Str} {sc : Scope} {f : Addr} {cdv : Value} {A : Around} {outer : List Env} {s : Shared} {H : Hp} {E : XK} {c np : Nat} {x : Str}
end
end Mi
namespace Mi
open PySem PySem.Spec PyProof.Rows L2
section
variable {X : Cx} {cl : Nat → Addr} {e : Expr} {es : List Expr} {cbs : CBs} {qb : Bool} {p pos : Pos}
end
end Mi
namespace Mi
open PySem PySem.Spec PyProof.Rows L2
section
variable {X : Cx} {cl : Nat → Addr} {e : Expr} {ca : CE} {qa : Bool} {p p2 pos : Pos} {x : Str} {c : Nat} {fs : List Str}
end
end Mi
namespace Mi
open PySem PySem.Spec PyProof.Rows L2
def keyD : Key → D
  | .inl i => .int i
  | .inr s => .str s
section
variable {C : Cfg} {H : Hp} {O : AP}
theorem keyD_r {k : Key} : RepD C H O (keyD k) (kV k) := by cases k <;> rfl
theorem keysD_r : ∀ {ks : List Key}, RepDs C H O (ks.map keyD) (ks.map kV)
  | [] => rfl
  | k :: ks => ⟨kV k, ks.map kV, rfl, keyD_r, keysD_r⟩
end
def unkD : D → D
  | .ktp ks => .tup (ks.map keyD)
  | .tpn ds => .tup ds
  | d => d
theorem unkD_rep {C : Cfg} {H : Hp} {O : AP} {d : D} {v : V} (h : RepD C H O d v) : RepD C H O (unkD d) v := by
  cases d with
  | ktp ks =>
    obtain ⟨a, e, t, n⟩ := h
    exact ⟨a, ks.map kV, e, .inl ⟨.inl t, n⟩, keysD_r⟩
  | tpn ds =>
    obtain ⟨a, o, xs, e, t, _, n, r⟩ := h
    exact ⟨a, xs, e, .inl ⟨.inr ⟨o, t⟩, n⟩, r⟩
  | _ => exact h
def unkW : W → W
  | .fz d => .fz (unkD d)
  | w => w
theorem unkW_rep {C : Cfg} {H : Hp} {O : AP} {w : W} {v : V} {L : List Addr} (h : RepW C H O w v L) : RepW C H O (unkW w) v L := by
  cases w with
  | fz d => exact ⟨h.1, unkD_rep h.2⟩
  | _ => exact h
def unkB : B → B
  | .tmp w => .tmp (unkW w)
  | b => b
theorem unkB_br {C : Cfg} {H : Hp} {O : AP} {ρ : En} {σ : Sg} {b : B} {v : V} {L : List Addr} (h : BR C H O ρ σ b v L) : BR C H O ρ σ (unkB b) v L := by
  cases b with
  | tmp w => exact unkW_rep h
  | bor i p => exact h
def cUnk (c : CE) : CE := fun ρ => (c ρ).bind fun (b, ρ1) => .ok (unkB b, ρ1)
theorem se_unk {X : Cx} {cl : Nat → Addr} {q : Bool} {e : Expr} {c : CE} (h : SE X cl q e c) : SE X cl q e (cUnk c) := PE.imp h fun σ H Q t => by
  obtain ⟨O, L, ρ, b0, ρ', env, nd, c0, q⟩ := t
  obtain ⟨⟨b, ρ1⟩, c1, c2⟩ := Res.of_bind c0
  cases c2
  exact ⟨O, L, ρ, b, ρ', env, nd, c1, fun v H1 O1 L1 Lb P => q v H1 O1 L1 Lb ⟨P.env, unkB_br P.br, P.nd, P.st, P.qu⟩⟩
end Mi
namespace Mi
open PySem PySem.Spec PyProof.Rows L2
section
variable {κ : Type} [DecidableEq κ]
end
section
variable {X : Cx} {pins : List (Addr × Obj)} {σ : L2.St} {H : Hp} {s : Shared} {a b : Addr} {y v : V} {u r : Value} {o : Option V} {A : Around} {E : Value → Shared → Prop}
end
section
variable {X : Cx} {cl : Nat → Addr} {a b e : Expr} {es : List Expr} {ca cb : CE} {cbs : CBs} {qa qb : Bool} {p pos : Pos}
end
end Mi
namespace Mi
open PySem PySem.Spec PyProof.Rows L2
section
variable {X : Cx} {cl : Nat → Addr} {kp : KP} {ix : Expr} {ci : CE} {pos px : Pos} {x : Str} {i : Nat}
end
end Mi
namespace Mi
open PySem PySem.Spec PyProof.Rows L2
section
variable {C : Cfg} {H : Hp} {O : AP}
end
section
variable {X : Cx} {cl : Nat → Addr} {tg e : Expr} {ca : CE} {qa : Bool} {p pos : Pos}
end
end Mi
namespace Mi
open PySem PySem.Spec PyProof.Rows L2
end Mi
namespace Mi
open PySem PySem.Spec PyProof.Rows L2
section
variable {X : Cx} {cl : Nat → Addr} {a b c : Expr} {cb : CBs} {qb : Bool} {pos : Pos} {kp : KP}
end
end Mi
namespace Mi
open PySem PySem.Spec PyProof.Rows L2
structure OwnF (K : PySem.W.Frag) (C : Addr) : Prop where
  nf : PySem.W.notFirst K C (.ref C) = true
  gi : PySem.W.fnIn K (He.ma K C "__getitem__") = true
  isi : SlX.SIsi K C
  kit : PySem.W.kitOne K (.ref C) (.ref C) = some true
  kp : PySem.W.keepIn K (.ref C) = true
def ownB (K : PySem.W.Frag) (C : Addr) : Bool := decide (PySem.W.notFirst K C (.ref C) = true) && (decide (PySem.W.fnIn K (He.ma K C "__getitem__") = true) && ((He.eqO (PySem.W.findIn K (.ref C) "__class__") (some (some (.builtin "object.__class__"))) && (He.eqO (PySem.W.specialIn K (.builtin "object.__class__") "__get__") (some (some (.builtin "getset_descriptor.__get__"))) && (decide (PySem.W.takesIn K (.builtin "object.__class__") = some true) && decide (PySem.W.mroIn K C (.type "object") = some true)))) && (decide (PySem.W.kitOne K (.ref C) (.ref C) = some true) && PySem.W.keepIn K (.ref C))))
section
variable {X : Cx} {cl : Nat → Addr} {e : Expr} {ce : CE} {q : Bool} {px pos p p1 p2 : Pos} {c i j : Nat} {F : Fn} {io : KP} {x y : Str} {g : Addr} {sl : List (Str × Nat)} {ms prs : List Str}
end
end Mi
namespace Mi
open PySem PySem.Spec PyProof.Rows L2
section
variable {X : Cx} {cl : Nat → Addr} {c : Nat}
end
end Mi
namespace Mi
open PySem PySem.Spec PyProof.Rows L2
end Mi
namespace Mi
open PySem PySem.Spec PyProof.Rows L2
section
variable {X : Cx} {cl : Nat → Addr} {e : Expr} {es : List Expr} {ca : CE} {qa : Bool} {c : CR}
end
section
variable {X : Cx} {cl : Nat → Addr} {e : Expr} {es : List Expr} {ce : CE} {q0 : Bool} {px apos pos : Pos} {c i : Nat} {F : Fx} {cx : CR} {x m : Str} {g : Addr} {pl : Sem Bool} {sl : List (Str × Nat)} {ms prs : List Str}
structure FnGX1 (X : Cx) (cl : Nat → Addr) (g : Addr) (F : Fx) : Prop where
  ex : ∃ (k : Nat) (fd : FuncData) (ps : List Str), FnOk X.prog X.w X.K X.mg X.base (L2.CX X.prog X.w) k g fd ps (spX ⟨X.K, cl⟩ F) ∧ Room (k + 1) X.A ∧ Binds X.K fd ps []
end
section
variable {P : Program} {w : World} {K : PySem.W.Frag} {mg : Str → Option Value} {base : Heap} {cl : Nat → Addr} {k j : Nat} {N : List Str} {q : Str} {sc : Scope} {f g : Addr} {cdv : Value} {A : Around} {outer : List Env} {s : Shared} {H : Hp} {E : XK} {F' : Fx}
end
end Mi
namespace Mi
open PySem PySem.Spec PyProof.Rows L2
structure OwnE (K : PySem.W.Frag) (C : Addr) : Prop where
  o : OwnF K C
  n : WayN K C
  ne : PySem.W.findIn K (.ref C) "__ne__" = some (some (.builtin "object.__ne__"))
  ob : PySem.W.mroIn K C (.type "object") = some true
section
variable {X : Cx} {cl : Nat → Addr} {a b e : Expr} {ca cb ce : CE} {qa qb q : Bool} {px pos p p1 p2 : Pos} {c i : Nat} {F : Fn} {x : Str} {sl : List (Str × Nat)} {ms prs : List Str}
end
end Mi
namespace Mi
open PySem PySem.Spec PyProof.Rows L2
section
variable {X : Cx} {cl : Nat → Addr} {a b c d : Expr} {cb : CBs} {qb : Bool} {pos : Pos} {kp : KP}
end
section
variable {C : Cfg} {H : Hp} {O O3 : AP} {t : Addr} {xs0 : List V}
end
end Mi
namespace L2
open PySem PySem.Spec PyProof.Rows
theorem call_tuple_new {X : Cx} : CallR X (.type "tuple") (fun xs H Q => ∃ p ys, xs = [.ref p] ∧ SqL X.K H p ys ∧ ∀ l (o : Obj), H l = none → o.dict = none → Q (.ref l) (upd H l (.frz o (.tup ys)))) := by
  intro pins s σ H xs us Q I r h
  obtain ⟨p, ys, rfl, hq, q⟩ := h
  obtain ⟨u, rfl, rx⟩ := vals1 r
  cases rx
  obtain ⟨its, r', pl, hz⟩ := I.list hq
  have hlen := r'.length
  refine call_tuple_list pl.isList (fun h' kp => ?_) (by simp only [List.size_toArray] <;> omega)
  have I1 : Inv X pins σ H { s with heap := h' } := I.kept (t' := s.toks) kp
  have I2 : Inv X pins σ (upd H h'.objs.size (.frz { cls := .type "tuple", data := .seq its.toArray } (.tup ys))) { s with heap := h'.push { cls := .type "tuple", data := .seq its.toArray } } :=
    I1.laid (t' := s.toks) (fun b o e => Heap.get?_push_of_some _ e) (Nat.le_refl _) (show ObjOk X.prog X.w _ _ _ (.frz _ (.tup ys)) from ⟨Heap.get?_push_size _ rfl, hz, its, r', IsTup.new _ _⟩)
  exact ⟨.ref h'.objs.size, _, I2, rfl, q _ _ (I1.hok.fresh (Nat.le_refl _)) rfl⟩
def NoD (x : V) (H : Hp) : Prop := ∃ (p : Addr) (o : Obj) (ys : List V), x = .ref p ∧ H p = some (.frz o (.tup ys)) ∧ o.dict = none
def rCnt : R2 := fun x y H Q => ∃ (p : Addr) (o : Obj) (ns : List Int) (k : Int), x = .ref p ∧ y = .int k ∧ H p = some (.frz o (.tup (ns.map V.int))) ∧ Q (.int (ns.countP (· == k) : Nat)) H
def isK (k : Int) : Value → Bool
  | .int a _ => a == k
  | _ => false
theorem cnt_vals (k : Int) : ∀ (ns : List Int) (its : List Value), Vals (ns.map V.int) its → its.countP (isK k) = ns.countP (· == k) ∧ ∀ y ∈ its, ∃ a t, y = .int a t
  | [], _, .nil => ⟨rfl, fun y h => by cases h⟩
  | n :: ns, _, @Paired.cons _ _ _ _ u0 _ us r t => by
    obtain ⟨u, e⟩ := r
    obtain ⟨h1, h2⟩ := cnt_vals k ns us t
    subst e
    refine ⟨?_, fun y h => ?_⟩
    · rw [List.countP_cons, List.countP_cons, h1]; rfl
    · rcases List.mem_cons.mp h with rfl | h
      · exact ⟨n, u, rfl⟩
      · exact h2 y h
theorem mt_cnt {X : Cx} {p : Addr} {o : Obj} {ns : List Int} {k : Int} {tk : Tok} {pins : List (Addr × Obj)} {σ : St} {H2 : Hp} {s2 : Shared} {Q : VK} (I2 : Inv X pins σ H2 s2) (hp2 : H2 p = some (.frz o (.tup (ns.map V.int)))) (q : Q (.int (ns.countP (· == k) : Nat)) H2) :
    wpAny (model X.prog X.w) X.A (call (.builtin "tuple.count") [.ref p, .int k tk]) (EP X pins σ Q) X.xe s2 := by
  have hk2 : s2.heap.get? p = some o ∧ ObjOk X.prog X.w H2 s2.heap p (.tup (ns.map V.int)) := I2.hok p _ hp2
  obtain ⟨f1, hz, its2, rv, ob3, f2, hc3, n, hd3⟩ := hk2
  rw [f1] at f2; cases f2
  obtain ⟨c1, c2⟩ := cnt_vals k ns its2 rv
  obtain ⟨cls, dd, data, sl⟩ := o
  simp only at hc3 hd3
  subst hc3 hd3
  have e9 : its2.toArray.toList.countP (isK k) = ns.countP (· == k) := c1
  have hE : ∀ y, y ∈ its2.toArray → PySem.SeqAt.EqAt X.A.in1 s2 y (.int k tk) (isK k y) := fun y hy => by
    obtain ⟨a, t, rfl⟩ := c2 y (List.mem_toArray.mp hy)
    exact PySem.SeqAt.EqAt.int_int a t k tk
  have hR : EP X pins σ Q (.int (its2.toArray.toList.countP (isK k) : Nat) s2.toks) { s2 with toks := s2.toks + 1 } := by
    rw [e9]
    exact ⟨.int (ns.countP (· == k) : Nat), H2, I2.kept (fun _ _ z => z), ⟨_, rfl⟩, q⟩
  exact call_meets PySem.F.slot_tuple_count ⟨_, f1, rfl⟩ PySem.F.entry_tuple_count (PySem.F.args_tuple_count_2 _ _) (PySem.SeqAt.tuple_countAt p its2.toArray n dd sl (.int k tk) (isK k)) ⟨f1, hE, hR⟩
theorem pe_cnt {X : Cx} {o e : Expr} {to te : TE} {apos cpos : Pos} (ho : PE X o to) (ha : PE X e te)
    (hbase : attributeBase o "count" X.env (eval o X.env) = eval o X.env := by rfl)
    (hfew : ((backTo cpos (starEach [e] X.env)).all (fun x => !x.1) && (backToKw cpos (keywordEach [] X.env)).all (fun x => x.1.isSome)
      && decide ([e].length + ([] : List Keyword).length + (if ([] : List Keyword).isEmpty then 0 else 1) < 30)) = true := by rfl)
    (hline : (apos.endLine == cpos.line) = true := by rfl) (hs : starEach [e] X.env = (false, eval e X.env) :: starEach [] X.env := by rfl) (hplain : (backTo cpos (starEach [] X.env)).any (·.1) = false := by rfl) :
    PE X (.Call (.Attribute o "count" apos) [e] [] cpos) (fun σ H Q => to σ H fun x H1 => NoD x H1 ∧ te σ H1 fun y H2 => rCnt x y H2 Q) := by
  refine ⟨fun pins s σ H Q I h => ?_⟩
  refine wpAny_Call_method_late hbase hfew hline rfl (thn (ho.run pins s σ H _ I h) fun v s1 ⟨x, H1, I1, r1, nd, q1⟩ => ?_)
  obtain ⟨p, ob, ys, rfl, hp, hd⟩ := nd
  cases r1
  have hok := I1.hok p _ hp
  have hok2 : s1.heap.get? p = some ob ∧ ObjOk X.prog X.w H1 s1.heap p (.tup ys) := hok
  obtain ⟨e1, _, its, _, ob2, e2, hc, _⟩ := hok2
  rw [e1] at e2; cases e2
  refine ⟨"tuple", "tuple.count", PySem.F.plainAttrs_tuple, PySem.F.slot_tuple_count, PySem.F.type_tuple_count, ⟨ob, e1, hc⟩, fun a ea => ?_, ?_⟩
  · cases ea; exact ⟨ob, e1, hd⟩
  have hA := (pa_cons ha pa_nil hs).run cpos pins s1 σ H1 (fun vs H2 => match vs with | [y] => rCnt (.ref p) y H2 Q | _ => False) I1 q1
  rw [hs] at hA ⊢
  refine Calls.callWith_builtin (by show (false || (backTo cpos (starEach [] X.env)).any (·.1)) = false; rw [hplain] <;> rfl) (Calls.evalArgs_plain ?_)
  refine thn hA fun us s2 ⟨vs, H2, I2, r2, q2⟩ => ?_
  have ey : ∃ y, vs = [y] ∧ rCnt (.ref p) y H2 Q := by
    match vs, q2 with
    | [y], q2 => exact ⟨y, rfl, q2⟩
  obtain ⟨y, ey, q2⟩ := ey
  subst ey
  obtain ⟨p', o, ns, k, ep, ek, hp2, q⟩ := q2
  cases ep; subst ek
  obtain ⟨u, eu, ru⟩ := vals1 r2
  subst eu
  obtain ⟨tk, rfl⟩ := ru
  exact mt_cnt I2 hp2 q
end L2
namespace Mi
open PySem PySem.Spec PyProof.Rows L2
def fTupleN : List W → Res W
  | [x] => match lsV x with
    | some ds => .ok (.fz (.tpn ds))
    | none => .err
  | _ => .err
section
variable {C : Cfg} {H : Hp} {O : AP}
theorem new_tpn {p : Addr} {o : Obj} {ds : List D} {xs : List V} (hp : H p = none) (ho : o.dict = none) (r : RepDs C H O ds xs) : RepW C (upd H p (.frz o (.tup xs))) (Less O [p]) (.fz (.tpn ds)) (.ref p) [] :=
  ⟨rfl, p, o, xs, rfl, upd_same, ho, fun q => q.2 (by simp), RepDs.keep (Gr.new (o := .frz o (.tup xs)) hp).keep ds xs r⟩
theorem cs_tupleN : CallS C (fun xs H Q => ∃ p ys, xs = [.ref p] ∧ SqL C.K H p ys ∧ ∀ l (o : Obj), H l = none → o.dict = none → Q (.ref l) (upd H l (.frz o (.tup ys)))) fTupleN := by
  intro H O vs ws w Q r e q
  unfold fTupleN at e
  split at e
  · rename_i x
    split at e
    · rename_i ds hd
      cases e
      obtain ⟨v, vr, L, e1, r1, r2⟩ := r
      rw [show vr = [] from r2] at e1
      obtain ⟨a, xs, e2, h1, rs⟩ := lsV_rep r1 hd
      exact ⟨a, xs, by rw [e1, e2], h1, fun l o hp ho => q (.ref l) _ _ [] (new_tpn hp ho rs) (Gr.new hp)⟩
    · cases e
  · cases e
end
section
variable {X : Cx} {cl : Nat → Addr} {e : Expr} {es : List Expr} {cbs : CBs} {qb : Bool} {p pos : Pos}
theorem dTupleN (hg : Gl X "tuple") (hm : X.mg "tuple" = none) (hb : SB X cl qb (e :: es) cbs) (he : starEach (e :: es) X.env = (false, eval e X.env) :: starEach es X.env := by rfl) (hpl : (backTo pos (starEach es X.env)).any (·.1) = false := by rfl) :
    SE X cl qb (.Call (.Name "tuple" p) (e :: es) [] pos) (cCallB fTupleN cbs) := se_callTy call_tuple_new cs_tupleN hg hm (by decide +kernel) hb (by decide) (by decide) he hpl
end
def tpOf : B → Res (List D)
  | .tmp (.fz (.tpn ds)) => .ok ds
  | _ => .err
theorem tpOf_ok {b : B} {ds : List D} (h : tpOf b = .ok ds) : b = .tmp (.fz (.tpn ds)) := by
  unfold tpOf at h
  split at h
  · cases h; rfl
  · cases h
def fCnt : W → W → Res W
  | .fz (.tpn ds), .fz (.int k) => match intsD ds with
    | some ns => .ok (.fz (.int (ns.countP (· == k) : Nat)))
    | none => .err
  | _, _ => .err
theorem ops_cnt {C : Cfg} : OpS C rCnt fCnt := by
  intro H O x y wx wy w Lx Ly Q rx ry e q
  unfold fCnt at e
  split at e
  · rename_i ds k
    split at e
    · rename_i ns hn
      cases e
      obtain ⟨_, a, o, xs, e1, t, hd, n, r⟩ := rx
      obtain ⟨_, e2⟩ := ry
      have e3 := intsD_rep r hn
      subst e3
      exact ⟨a, o, ns, k, e1, e2, t, gr_same (show RepD C H O (.int _) (.int _) from rfl) q⟩
    · cases e
  · cases e
def cTCnt (qb : Bool) (ca cb : CE) : CE := fun ρ => (ca ρ).bind fun (a, _) => (tpOf a).bind fun _ => cBin fCnt qb ca cb ρ
theorem cnt_core {C : Cfg} {qa qb : Bool} {ca cb : CE} {σ : Sg} {H : Hp} {Q : VK} (h : tE C (qa && qb) (cTCnt qb ca cb) σ H Q) : tE C qa ca σ H fun x H1 => NoD x H1 ∧ tE C qb cb σ H1 fun y H2 => rCnt x y H2 Q := by
  obtain ⟨O, L, ρ, b0, ρ', env, nd, c, q⟩ := h
  obtain ⟨⟨a0, ρ0⟩, c0, c⟩ := Res.of_bind c
  obtain ⟨ds, g0, c⟩ := Res.of_bind c
  have ea := tpOf_ok g0
  obtain ⟨⟨a, ρ1⟩, c1, c⟩ := Res.of_bind c
  have e01 : a0 = a := by rw [c0] at c1; cases c1; rfl
  subst e01
  obtain ⟨⟨⟩, c2, c⟩ := Res.of_bind c
  obtain ⟨⟨b, ρ2⟩, c3, c⟩ := Res.of_bind c
  obtain ⟨x, c4, c⟩ := Res.of_bind c
  obtain ⟨y, c5, c⟩ := Res.of_bind c
  obtain ⟨w, c6, c⟩ := Res.of_bind c
  cases c
  refine ⟨O, L, ρ, a0, ρ1, env, nd, c1, fun va H1 O1 L1 La P1 => ?_⟩
  have own1 : ∀ z ∈ L1, O1 z := fun z hz => (P1.env.own z hz).1
  refine ⟨?_, O1, L1, ρ1, b, ρ', P1.env, (List.nodup_append.mp P1.nd).1, c3, fun vb H2 O2 L2 Lb P2 => ?_⟩
  · have hb := P1.br
    rw [ea] at hb
    obtain ⟨_, p, o, xs, e1, t, hd, _⟩ := hb
    exact ⟨p, o, xs, e1, t, hd⟩
  obtain ⟨ba, nd2⟩ := P1.br.pend own1 P1.nd P2 c2
  have nd3 : (L2 ++ (Lb ++ La)).Nodup := by rw [← List.append_assoc]; exact nd2
  have ndL := (List.nodup_append.mp nd3).1
  have d : ∀ z ∈ L2, z ∉ Lb ++ La := fun z hz q => (List.nodup_append.mp nd3).2.2 z hz z q rfl
  obtain ⟨Lx, rx, _⟩ := cont_rep (T := Lb ++ La) ba P2.env ndL d (fun z hz => by simp [hz]) c4
  obtain ⟨Ly, ry, _⟩ := cont_rep (T := Lb ++ La) P2.br P2.env ndL d (fun z hz => by simp [hz]) c5
  refine ops_cnt H2 (Less O2 (Lb ++ La)) va vb x y w Lx Ly _ rx ry c6 fun v H' O' Lw rw' g => ?_
  refine q v H' O' L2 Lw (post_of P2.env nd3 ?_ (fun hq => ?_) g rw')
  · refine (P1.st.trans (P2.st.frame La)).perm fun z hz => ?_
    rw [List.append_assoc]; exact hz
  · have hq' : qa = true ∧ qb = true := by simpa using hq
    exact ⟨(P2.qu hq'.2).1.trans (P1.qu hq'.1).1, fun z o e => (P2.qu hq'.2).2 z o ((P1.qu hq'.1).2 z o e)⟩
theorem se_cnt {X : Cx} {cl : Nat → Addr} {o e : Expr} {ca cb : CE} {qa qb : Bool} {apos cpos : Pos} (ho : SE X cl qa o ca) (ha : SE X cl qb e cb)
    (hbase : attributeBase o "count" X.env (eval o X.env) = eval o X.env := by rfl)
    (hfew : ((backTo cpos (starEach [e] X.env)).all (fun x => !x.1) && (backToKw cpos (keywordEach [] X.env)).all (fun x => x.1.isSome)
      && decide ([e].length + ([] : List Keyword).length + (if ([] : List Keyword).isEmpty then 0 else 1) < 30)) = true := by rfl)
    (hline : (apos.endLine == cpos.line) = true := by rfl) (hs : starEach [e] X.env = (false, eval e X.env) :: starEach [] X.env := by rfl) (hplain : (backTo cpos (starEach [] X.env)).any (·.1) = false := by rfl) :
    SE X cl (qa && qb) (.Call (.Attribute o "count" apos) [e] [] cpos) (cTCnt qb ca cb) :=
  PE.imp (pe_cnt ho ha hbase hfew hline hs hplain) fun σ H Q h => cnt_core h
end Mi
namespace Mi
open PySem
section
variable {c : Nat} {F : Fn} {ca cb : CE} {cbs : CBs} {ρ ρ1 ρ2 : En} {d y : D} {ds fs gs dd : List D} {r : W} {bk : List W} {I : List D → Res (List D)} {bs : List B} {i : Int}
end
end Mi
namespace Gn
open Mi PySem PySem.Spec PyProof.Rows L2
abbrev FnP (K : PySem.W.Frag) (x q : Str) (st : Stmt) (dv : List V) (f : Addr) (fd : FuncData) : Prop := FunD K x q (defArgs st) (defBody st) (defScope st) dv [] f fd
structure Gs (mg : Str → Option Value) : Prop where
  one : True
abbrev N_law_box : List Str := ["_law_script", "_law_k", "_law_cell"]
theorem sc_law_box : FnScope N_law_box ["_law_script", "_law_k"] (defScope (top 7)) := ⟨rfl, rfl, rfl, by decide +kernel, rfl, by decide +kernel, by decide +kernel⟩
def m_law_box : CS := (cSeq
  (cAsg (gSet 2) (cIf (cTest (cBin fLt true (cVar 1) (cCallB fLen (cCons true (cVar 0) cNil)))) (cBin fIdx true (cVar 0) (cVar 1)) (cC (.int 0))))
  (cRet (cLst true (cCons true (cBin fMul true (cCallB fAbs (cCons true (cVar 2) cNil)) (cCallB fInt (cCons true (cBin fGe true (cCallB fAbs (cCons true (cVar 2) cNil)) (cBin fPow true (cC (.int 10)) (cC (.int 18)))) cNil))) (cCons true (cBin fAdd true (cBin fAdd true (cBin fMod true (cCallB fInt (cCons true (cVar 2) cNil)) (cC (.int 2305843009213693951))) (cBin fMul true (cC (.int 39373)) (cVar 1))) (cC (.int 62338))) (cCons true (cC (.int 0)) cNil))))))
def F_law_box : Fn := runDef 2 3 (ioOf []) m_law_box
theorem b_law_box {P : Program} {w : World} {K : PySem.W.Frag} {mg : Str → Option Value} {base : Heap} {cl : Nat → Addr} (B : Blt mg) (S : Gs mg) {f : Addr} {cdv : Value} {A : Around} {outer : List Env} {s : Shared} {H : Hp} {E : XK} (hr : Room 0 (A.deeper (envOfC "_law_box" (defScope (top 7)) s.heap.objs.size f cdv)))  : SSs (BX P w K mg base N_law_box "_law_box" (defScope (top 7)) f cdv A outer s H E) cl (ioOf []) (defBody (top 7)) m_law_box :=
  (sss_cons
  (ss_asg (q := true) (se_if (qc := true) (qa := true) (qb := true) (tLt' (qa := true) (qb := true) (dv 1) (dLen (qb := true) rfl B.len (sb_cons (qa := true) (qb := true) (dv 0) sb_nil))) (dIx (qa := true) (qb := true) (dv 0) (dv 1)) se_int) (sg_name (i := 2) sc_law_box.nd rfl (by first | exact .inl rfl | exact .inr rfl) rfl))
  (sss_one (ss_ret (q := true) (se_lst (qb := true) (qd := true) (sb_cons (qa := true) (qb := true) (dMul (qa := true) (qb := true) (dAbs (qb := true) rfl B.abs (sb_cons (qa := true) (qb := true) (dv 2) sb_nil)) (dInt (qb := true) rfl B.int (sb_cons (qa := true) (qb := true) (dGe (qa := true) (qb := true) (dAbs (qb := true) rfl B.abs (sb_cons (qa := true) (qb := true) (dv 2) sb_nil)) (dPow (qa := true) (qb := true) se_int se_int)) sb_nil))) (sb_cons (qa := true) (qb := true) (dAdd (qa := true) (qb := true) (dAdd (qa := true) (qb := true) (dMod (qa := true) (qb := true) (dInt (qb := true) rfl B.int (sb_cons (qa := true) (qb := true) (dv 2) sb_nil)) se_int) (dMul (qa := true) (qb := true) se_int (dv 1))) se_int) (sb_cons (qa := true) (qb := true) se_int sb_nil)))))))
theorem o_law_box {P : Program} {w : World} {K : PySem.W.Frag} {mg : Str → Option Value} {base : Heap} {cl : Nat → Addr} (B : Blt mg) (S : Gs mg) {f : Addr} {fd : FuncData} (FD : FnP K "_law_box" "_law_box" (top 7) [] f fd)  : FnOk P w K mg base CX0 1 f fd ["_law_script", "_law_k"] (spM ⟨K, cl⟩ F_law_box) :=
  fn_defD (k := 0) (N := N_law_box) FD sc_law_box (ioOf_out (by decide)) (fun cdv A outer s H E hr => b_law_box B S hr )
theorem d_law_box {P : Program} {w : World} {K : PySem.W.Frag} {mg : Str → Option Value} {base : Heap} {cl : Nat → Addr} (B : Blt mg) (S : Gs mg) {f : Addr} {fd : FuncData} (FD : FnP K "_law_box" "_law_box" (top 7) [] f fd) (hm : mg "_law_box" = some (.ref f))  : Dn P w K mg base cl "_law_box" 1 F_law_box :=
  ⟨f, fd, ["_law_script", "_law_k"], o_law_box B S FD , hm, FD.kp, FD.bindsN fun _ _ _ _ _ _ us hl => match us, hl with | [_, _], _ => rfl⟩
abbrev N_law_lists : List Str := ["_law_matter", "_law_bit"]
theorem sc_law_lists : FnScope N_law_lists ["_law_matter"] (defScope (top 13)) := ⟨rfl, rfl, rfl, by decide +kernel, rfl, by decide +kernel, by decide +kernel⟩
def E_law_lists_1 (Fme : Fn) (ρ : En) : Res (B × En) := (cCallP false Fme (cCons true (cVar 1) cNil)) ρ
def m_law_lists (Fme : Fn) : CS := (cRet (cIf (cTest (cUn (fIsi ["list", "tuple"]) (cVar 0))) (cLc [1] (iSeq (cVar 0)) (gSet 1) cYes (E_law_lists_1 Fme)) (cVar 0)))
def F_law_lists : Nat → Fn
  | 0 => errF
  | n + 1 => runDef 1 2 (ioOf []) (m_law_lists (F_law_lists n))
theorem b_law_lists {P : Program} {w : World} {K : PySem.W.Frag} {mg : Str → Option Value} {base : Heap} {cl : Nat → Addr} (B : Blt mg) (S : Gs mg) {f : Addr} {cdv : Value} {A : Around} {outer : List Env} {s : Shared} {H : Hp} {E : XK} {n : Nat} {Fme : Fn} (hr : Room (n + 1) (A.deeper (envOfC "_law_lists" (defScope (top 13)) s.heap.objs.size f cdv))) (d_me : Dn P w K mg base cl "_law_lists" (n + 1) Fme)  : SSs (BX P w K mg base N_law_lists "_law_lists" (defScope (top 13)) f cdv A outer s H E) cl (ioOf []) (defBody (top 13)) (m_law_lists Fme) :=
  (sss_one (ss_ret (q := false) (se_if (qc := true) (qa := false) (qb := true) (st_val (qa := true) (se_isi2 (qa := true) rfl B.isinstance (tyList rfl B.list) (tyTuple rfl B.tuple) (by decide) (by decide) (dv 0))) (se_lc (own := [("_law_bit", 1)]) (qt := true) (qe := false) rfl sc_law_lists.nd (si_seq (qa := true) (dv 0)) (blkOk_by (by kernel_rfl)) (fun s H A l fp => (sg_name (i := 1) sc_law_lists.nd rfl (by first | exact .inl rfl | exact .inr rfl) rfl)) (fun s H A l fp => sts_nil) (fun s H A l fp => (se_callP (qb := true) (qd := false) (d_me.fm hr (by omega)).blk rfl (sb_cons (qa := true) (qb := true) (dv 1) sb_nil)))) (dv 0))))
theorem d_law_lists {P : Program} {w : World} {K : PySem.W.Frag} {mg : Str → Option Value} {base : Heap} {cl : Nat → Addr} (B : Blt mg) (S : Gs mg) {f : Addr} {fd : FuncData} (FD : FnP K "_law_lists" "_law_lists" (top 13) [] f fd) (hm : mg "_law_lists" = some (.ref f))  : ∀ n : Nat, Dn P w K mg base cl "_law_lists" (n + 1) (F_law_lists n)
  | 0 => ⟨f, fd, ["_law_matter"], fn_zero (k := 0 + 0) FD sc_law_lists, hm, FD.kp, FD.bindsN fun _ _ _ _ _ _ us hl => match us, hl with | [_], _ => rfl⟩
  | n + 1 => ⟨f, fd, ["_law_matter"], (Nat.succ_add n 1).symm ▸ fn_def (k := n + 1) FD sc_law_lists (ioOf_out (by decide)) (fun cdv A outer s H E hr => b_law_lists B S hr (d_law_lists B S FD hm  n) ), hm, FD.kp, FD.bindsN fun _ _ _ _ _ _ us hl => match us, hl with | [_], _ => rfl⟩
abbrev N_law_same : List Str := ["_law_got", "_law_due", "_law_mine", "_law_its"]
theorem sc_law_same : FnScope N_law_same ["_law_got", "_law_due"] (defScope (top 12)) := ⟨rfl, rfl, rfl, by decide +kernel, rfl, by decide +kernel, by decide +kernel⟩
def E_law_same_1 (Fme : Fn) (ρ : En) : Res (B × En) := (cCallV Fme (cCons true (cVar 2) (cCons true (cVar 3) cNil))) ρ
def m_law_same (Fme : Fn) : CS := (cSeq
  (cIfS (cTest (cUn (fIsi ["list", "tuple"]) (cVar 1))) (cSeq
  (cIfS (cTest (cBin fNe true (cUn (fIsi ["list"]) (cVar 0)) (cUn (fIsi ["list"]) (cVar 1)))) (cRet (cC (.bl false))) cNext)
  (cSeq
  (cIfS (cTest (cBin fNe true (cUn (fIsi ["tuple"]) (cVar 0)) (cUn (fIsi ["tuple"]) (cVar 1)))) (cRet (cC (.bl false))) cNext)
  (cRet (cAnd (cBin fEq true (cCallB fLen (cCons true (cVar 0) cNil)) (cCallB fLen (cCons true (cVar 1) cNil))) (cCallB fAll (cCons true (cLc [2, 3] (iZipM (cCons true (cVar 0) (cCons true (cVar 1) cNil))) (gUnp (gsCons (gSet 2) (gsCons (gSet 3) gsNil))) cYes (E_law_same_1 Fme)) cNil)))))) cNext)
  (cSeq
  (cIfS (cOrT (cTest (cBin fIsN true (cVar 1) (cC .non))) (cTest (cUn (fIsi ["bool", "str"]) (cVar 1)))) (cRet (cAnd (cBin fEq true (cVar 0) (cVar 1)) (cAnd (cBin fEq true (cUn (fIsi ["bool"]) (cVar 0)) (cUn (fIsi ["bool"]) (cVar 1))) (cBin fEq true (cBin fIsN true (cVar 0) (cC .non)) (cBin fIsN true (cVar 1) (cC .non)))))) cNext)
  (cRet (cAnd (cUn (fIsi ["int"]) (cVar 0)) (cAnd (cNot (cUn (fIsi ["bool"]) (cVar 0))) (cBin fEq true (cVar 0) (cVar 1)))))))
def F_law_same : Nat → Fn
  | 0 => errF
  | n + 1 => runDef 2 4 (ioOf []) (m_law_same (F_law_same n))
theorem b_law_same {P : Program} {w : World} {K : PySem.W.Frag} {mg : Str → Option Value} {base : Heap} {cl : Nat → Addr} (B : Blt mg) (S : Gs mg) {f : Addr} {cdv : Value} {A : Around} {outer : List Env} {s : Shared} {H : Hp} {E : XK} {n : Nat} {Fme : Fn} (hr : Room (n + 1) (A.deeper (envOfC "_law_same" (defScope (top 12)) s.heap.objs.size f cdv))) (d_me : Dn P w K mg base cl "_law_same" (n + 1) Fme)  : SSs (BX P w K mg base N_law_same "_law_same" (defScope (top 12)) f cdv A outer s H E) cl (ioOf []) (defBody (top 12)) (m_law_same Fme) :=
  (sss_cons
  (ss_if (q := true) (st_val (qa := true) (se_isi2 (qa := true) rfl B.isinstance (tyList rfl B.list) (tyTuple rfl B.tuple) (by decide) (by decide) (dv 1))) (sss_cons
  (ss_if (q := true) (tNe' (qa := true) (qb := true) hr.units (se_isi1 (qa := true) rfl B.isinstance (tyList rfl B.list) (by decide) (dv 0)) (se_isi1 (qa := true) rfl B.isinstance (tyList rfl B.list) (by decide) (dv 1))) (sss_one (ss_ret (q := true) se_bl)) sss_nil)
  (sss_cons
  (ss_if (q := true) (tNe' (qa := true) (qb := true) hr.units (se_isi1 (qa := true) rfl B.isinstance (tyTuple rfl B.tuple) (by decide) (dv 0)) (se_isi1 (qa := true) rfl B.isinstance (tyTuple rfl B.tuple) (by decide) (dv 1))) (sss_one (ss_ret (q := true) se_bl)) sss_nil)
  (sss_one (ss_ret (q := false) (se_and (qa := true) (qb := false) (dEq (qa := true) (qb := true) hr.units (dLen (qb := true) rfl B.len (sb_cons (qa := true) (qb := true) (dv 0) sb_nil)) (dLen (qb := true) rfl B.len (sb_cons (qa := true) (qb := true) (dv 1) sb_nil))) (se_one (qa := false) (dAll (qb := false) rfl rfl B.all (sb_cons (qa := false) (qb := true) (se_lc (own := [("_law_mine", 2), ("_law_its", 3)]) (qt := true) (qe := true) rfl sc_law_same.nd (si_zip (qb := true) rfl B.zip (sb_cons (qa := true) (qb := true) (dv 0) (sb_cons (qa := true) (qb := true) (dv 1) sb_nil))) (blkOk_by (by kernel_rfl)) (fun s H A l fp => (sg_unp rfl (sgs_cons (sg_name (i := 2) sc_law_same.nd rfl (by first | exact .inl rfl | exact .inr rfl) rfl) (sgs_cons (sg_name (i := 3) sc_law_same.nd rfl (by first | exact .inl rfl | exact .inr rfl) rfl) sgs_nil)) (gsCons_len (gsCons_len gsNil_len)))) (fun s H A l fp => sts_nil) (fun s H A l fp => (se_callV (qb := true) (d_me.fm hr (by omega)).blk rfl (sb_cons (qa := true) (qb := true) (dv 2) (sb_cons (qa := true) (qb := true) (dv 3) sb_nil))))) sb_nil)))))))) sss_nil)
  (sss_cons
  (ss_if (q := true) (SW.st (qa := true) (sw_or (qa := true) (qb := true) (tIs' (qa := true) (qb := true) (dv 1) se_non) (sw_or1 (qa := true) (st_val (qa := true) (se_isi2 (qa := true) rfl B.isinstance (tyBool rfl B.bool) (tyStr rfl B.str) (by decide) (by decide) (dv 1)))))) (sss_one (ss_ret (q := true) (se_and (qa := true) (qb := true) (dEq (qa := true) (qb := true) hr.units (dv 0) (dv 1)) (se_and (qa := true) (qb := true) (dEq (qa := true) (qb := true) hr.units (se_isi1 (qa := true) rfl B.isinstance (tyBool rfl B.bool) (by decide) (dv 0)) (se_isi1 (qa := true) rfl B.isinstance (tyBool rfl B.bool) (by decide) (dv 1))) (se_one (qa := true) (dEq (qa := true) (qb := true) hr.units (dIs (qa := true) (qb := true) (dv 0) se_non) (dIs (qa := true) (qb := true) (dv 1) se_non))))))) sss_nil)
  (sss_one (ss_ret (q := true) (se_and (qa := true) (qb := true) (se_isi1 (qa := true) rfl B.isinstance (tyInt rfl B.int) (by decide) (dv 0)) (se_and (qa := true) (qb := true) (se_not (qa := true) (se_isi1 (qa := true) rfl B.isinstance (tyBool rfl B.bool) (by decide) (dv 0))) (se_one (qa := true) (dEq (qa := true) (qb := true) hr.units (dv 0) (dv 1)))))))))
theorem d_law_same {P : Program} {w : World} {K : PySem.W.Frag} {mg : Str → Option Value} {base : Heap} {cl : Nat → Addr} (B : Blt mg) (S : Gs mg) {f : Addr} {fd : FuncData} (FD : FnP K "_law_same" "_law_same" (top 12) [] f fd) (hm : mg "_law_same" = some (.ref f))  : ∀ n : Nat, Dn P w K mg base cl "_law_same" (n + 1) (F_law_same n)
  | 0 => ⟨f, fd, ["_law_got", "_law_due"], fn_zero (k := 0 + 0) FD sc_law_same, hm, FD.kp, FD.bindsN fun _ _ _ _ _ _ us hl => match us, hl with | [_, _], _ => rfl⟩
  | n + 1 => ⟨f, fd, ["_law_got", "_law_due"], (Nat.succ_add n 1).symm ▸ fn_def (k := n + 1) FD sc_law_same (ioOf_out (by decide)) (fun cdv A outer s H E hr => b_law_same B S hr (d_law_same B S FD hm  n) ), hm, FD.kp, FD.bindsN fun _ _ _ _ _ _ us hl => match us, hl with | [_, _], _ => rfl⟩
abbrev Nis_number : List Str := ["value"]
theorem scis_number : FnScope Nis_number ["value"] (defScope (top 1)) := ⟨rfl, rfl, rfl, by decide +kernel, rfl, by decide +kernel, by decide +kernel⟩
def mis_number : CS := (cRet (cAnd (cUn (fIsi ["int"]) (cVar 0)) (cNot (cUn (fIsi ["bool"]) (cVar 0)))))
def Fis_number : Fn := runDef 1 1 (ioOf []) mis_number
theorem bis_number {P : Program} {w : World} {K : PySem.W.Frag} {mg : Str → Option Value} {base : Heap} {cl : Nat → Addr} (B : Blt mg) (S : Gs mg) {f : Addr} {cdv : Value} {A : Around} {outer : List Env} {s : Shared} {H : Hp} {E : XK} (hr : Room 0 (A.deeper (envOfC "is_number" (defScope (top 1)) s.heap.objs.size f cdv)))  : SSs (BX P w K mg base Nis_number "is_number" (defScope (top 1)) f cdv A outer s H E) cl (ioOf []) (defBody (top 1)) mis_number :=
  (sss_one (ss_ret (q := true) (se_and (qa := true) (qb := true) (se_isi1 (qa := true) rfl B.isinstance (tyInt rfl B.int) (by decide) (dv 0)) (se_one (qa := true) (se_not (qa := true) (se_isi1 (qa := true) rfl B.isinstance (tyBool rfl B.bool) (by decide) (dv 0)))))))
theorem ois_number {P : Program} {w : World} {K : PySem.W.Frag} {mg : Str → Option Value} {base : Heap} {cl : Nat → Addr} (B : Blt mg) (S : Gs mg) {f : Addr} {fd : FuncData} (FD : FnP K "is_number" "is_number" (top 1) [] f fd)  : FnOk P w K mg base CX0 1 f fd ["value"] (spM ⟨K, cl⟩ Fis_number) :=
  fn_defD (k := 0) (N := Nis_number) FD scis_number (ioOf_out (by decide)) (fun cdv A outer s H E hr => bis_number B S hr )
theorem dis_number {P : Program} {w : World} {K : PySem.W.Frag} {mg : Str → Option Value} {base : Heap} {cl : Nat → Addr} (B : Blt mg) (S : Gs mg) {f : Addr} {fd : FuncData} (FD : FnP K "is_number" "is_number" (top 1) [] f fd) (hm : mg "is_number" = some (.ref f))  : Dn P w K mg base cl "is_number" 1 Fis_number :=
  ⟨f, fd, ["value"], ois_number B S FD , hm, FD.kp, FD.bindsN fun _ _ _ _ _ _ us hl => match us, hl with | [_], _ => rfl⟩
abbrev Nis_weaving : List Str := ["streams", "thing", "event", "number", "stream"]
theorem scis_weaving : FnScope Nis_weaving ["streams", "thing"] (defScope (top 4)) := ⟨rfl, rfl, rfl, by decide +kernel, rfl, by decide +kernel, by decide +kernel⟩
def Eis_weaving_1 (ρ : En) : Res (B × En) := (cCallV Fis_number (cCons true (cVar 3) cNil)) ρ
def Eis_weaving_2 (ρ : En) : Res (B × En) := (cVar 3) ρ
def mis_weaving : CS := (cSeq
  (cIfS (cOrT (cNotT (cTest (cUn (fIsi ["tuple"]) (cVar 1)))) (cNotT (cTest (cCallB fAll (cCons true (cLc [3] (iSeq (cVar 1)) (gSet 3) cYes Eis_weaving_1) cNil))))) (cRet (cC (.bl false))) cNext)
  (cRet (cBin fEq false (cCallB fSortTu (cCons true (cVar 1) cNil)) (cLc2 [3, 4, 2] [2] (iEnumM (cVar 0)) (gUnp (gsCons (gSet 3) (gsCons (gSet 4) gsNil))) cYes (iSeq (cVar 4)) (gSet 2) cYes Eis_weaving_2))))
def Fis_weaving : Fn := runDef 2 5 (ioOf []) mis_weaving
theorem bis_weaving {P : Program} {w : World} {K : PySem.W.Frag} {mg : Str → Option Value} {base : Heap} {cl : Nat → Addr} (B : Blt mg) (S : Gs mg) {f : Addr} {cdv : Value} {A : Around} {outer : List Env} {s : Shared} {H : Hp} {E : XK} (hr : Room 1 (A.deeper (envOfC "is_weaving" (defScope (top 4)) s.heap.objs.size f cdv))) (dis_number : Dn P w K mg base cl "is_number" 1 Fis_number) : SSs (BX P w K mg base Nis_weaving "is_weaving" (defScope (top 4)) f cdv A outer s H E) cl (ioOf []) (defBody (top 4)) mis_weaving :=
  (sss_cons
  (ss_if (q := false) (SW.st (qa := false) (sw_or (qa := true) (qb := false) (st_not (qa := true) (st_val (qa := true) (se_isi1 (qa := true) rfl B.isinstance (tyTuple rfl B.tuple) (by decide) (dv 1)))) (sw_or1 (qa := false) (st_not (qa := false) (st_val (qa := false) (dAll (qb := false) rfl rfl B.all (sb_cons (qa := false) (qb := true) (se_lc (own := [("number", 3)]) (qt := true) (qe := true) rfl scis_weaving.nd (si_seq (qa := true) (dv 1)) (blkOk_by (by kernel_rfl)) (fun s H A l fp => (sg_name (i := 3) scis_weaving.nd rfl (by first | exact .inl rfl | exact .inr rfl) rfl)) (fun s H A l fp => sts_nil) (fun s H A l fp => (se_callV (qb := true) (dis_number.fm hr (by decide)).blk rfl (sb_cons (qa := true) (qb := true) (dv 3) sb_nil)))) sb_nil))))))) (sss_one (ss_ret (q := true) se_bl)) sss_nil)
  (sss_one (ss_ret (q := false) (dEq (qa := true) (qb := false) hr.units (dSortTu (qb := true) rfl B.sorted (sb_cons (qa := true) (qb := true) (dv 1) sb_nil)) (se_lc2 (own := [("number", 3), ("stream", 4), ("event", 2)]) (vs1 := [2]) (qt := true) (qt1 := true) (qe := true) rfl scis_weaving.nd (si_enum (qa := true) rfl B.enumerate (dv 0)) (blkOk_by (by kernel_rfl)) (by decide) (fun s H A l fp => (sg_unp rfl (sgs_cons (sg_name (i := 3) scis_weaving.nd rfl (by first | exact .inl rfl | exact .inr rfl) rfl) (sgs_cons (sg_name (i := 4) scis_weaving.nd rfl (by first | exact .inl rfl | exact .inr rfl) rfl) sgs_nil)) (gsCons_len (gsCons_len gsNil_len)))) (fun s H A l fp => sts_nil) (fun s H A l fp => (si_seq (qa := true) (dv 4))) (fun s H A l fp => (sg_name (i := 2) scis_weaving.nd rfl (by first | exact .inl rfl | exact .inr rfl) rfl)) (fun s H A l fp => sts_nil) (fun s H A l fp => (dv 3)))))))
theorem ois_weaving {P : Program} {w : World} {K : PySem.W.Frag} {mg : Str → Option Value} {base : Heap} {cl : Nat → Addr} (B : Blt mg) (S : Gs mg) {f : Addr} {fd : FuncData} (FD : FnP K "is_weaving" "is_weaving" (top 4) [] f fd) (dis_number : Dn P w K mg base cl "is_number" 1 Fis_number) : FnOk P w K mg base CX0 2 f fd ["streams", "thing"] (spM ⟨K, cl⟩ Fis_weaving) :=
  fn_defD (k := 1) (N := Nis_weaving) FD scis_weaving (ioOf_out (by decide)) (fun cdv A outer s H E hr => bis_weaving B S hr dis_number)
theorem dis_weaving {P : Program} {w : World} {K : PySem.W.Frag} {mg : Str → Option Value} {base : Heap} {cl : Nat → Addr} (B : Blt mg) (S : Gs mg) {f : Addr} {fd : FuncData} (FD : FnP K "is_weaving" "is_weaving" (top 4) [] f fd) (hm : mg "is_weaving" = some (.ref f)) (dis_number : Dn P w K mg base cl "is_number" 1 Fis_number) : Dn P w K mg base cl "is_weaving" 2 Fis_weaving :=
  ⟨f, fd, ["streams", "thing"], ois_weaving B S FD dis_number, hm, FD.kp, FD.bindsN fun _ _ _ _ _ _ us hl => match us, hl with | [_, _], _ => rfl⟩
theorem kis_weaving_thing_streams {P : Program} {w : World} {K : PySem.W.Frag} {mg : Str → Option Value} {base : Heap} {cl : Nat → Addr} (B : Blt mg) (S : Gs mg) {f : Addr} {fd : FuncData} (FD : FnP K "is_weaving" "is_weaving" (top 4) [] f fd) (hm : mg "is_weaving" = some (.ref f)) (dis_number : Dn P w K mg base cl "is_number" 1 Fis_number) : Dk P w K mg base cl "is_weaving" ["thing", "streams"] [1, 0] 2 Fis_weaving :=
  ⟨f, fd, ["streams", "thing"], ois_weaving B S FD dis_number, hm, FD.kp, kbn_of FD fun _ _ _ _ _ _ us hl => match us, hl with | [_, _], _ => rfl⟩
abbrev Ntupled : List Str := ["value", "part"]
theorem sctupled : FnScope Ntupled ["value"] (defScope (top 2)) := ⟨rfl, rfl, rfl, by decide +kernel, rfl, by decide +kernel, by decide +kernel⟩
def Etupled_1 (Fme : Fn) (ρ : En) : Res (B × En) := (cCallP false Fme (cCons true (cVar 1) cNil)) ρ
def mtupled (Fme : Fn) : CS := (cRet (cIf (cTest (cUn (fIsi ["list", "tuple"]) (cVar 0))) (cCallB fTuple (cCons true (cLc [1] (iSeq (cVar 0)) (gSet 1) cYes (Etupled_1 Fme)) cNil)) (cVar 0)))
def Ftupled : Nat → Fn
  | 0 => errF
  | n + 1 => runDef 1 2 (ioOf []) (mtupled (Ftupled n))
theorem btupled {P : Program} {w : World} {K : PySem.W.Frag} {mg : Str → Option Value} {base : Heap} {cl : Nat → Addr} (B : Blt mg) (S : Gs mg) {f : Addr} {cdv : Value} {A : Around} {outer : List Env} {s : Shared} {H : Hp} {E : XK} {n : Nat} {Fme : Fn} (hr : Room (n + 1) (A.deeper (envOfC "tupled" (defScope (top 2)) s.heap.objs.size f cdv))) (d_me : Dn P w K mg base cl "tupled" (n + 1) Fme)  : SSs (BX P w K mg base Ntupled "tupled" (defScope (top 2)) f cdv A outer s H E) cl (ioOf []) (defBody (top 2)) (mtupled Fme) :=
  (sss_one (ss_ret (q := false) (se_if (qc := true) (qa := false) (qb := true) (st_val (qa := true) (se_isi2 (qa := true) rfl B.isinstance (tyList rfl B.list) (tyTuple rfl B.tuple) (by decide) (by decide) (dv 0))) (dTuple (qb := false) rfl B.tuple (sb_cons (qa := false) (qb := true) (se_lc (own := [("part", 1)]) (qt := true) (qe := false) rfl sctupled.nd (si_seq (qa := true) (dv 0)) (blkOk_by (by kernel_rfl)) (fun s H A l fp => (sg_name (i := 1) sctupled.nd rfl (by first | exact .inl rfl | exact .inr rfl) rfl)) (fun s H A l fp => sts_nil) (fun s H A l fp => (se_callP (qb := true) (qd := false) (d_me.fm hr (by omega)).blk rfl (sb_cons (qa := true) (qb := true) (dv 1) sb_nil)))) sb_nil)) (dv 0))))
theorem dtupled {P : Program} {w : World} {K : PySem.W.Frag} {mg : Str → Option Value} {base : Heap} {cl : Nat → Addr} (B : Blt mg) (S : Gs mg) {f : Addr} {fd : FuncData} (FD : FnP K "tupled" "tupled" (top 2) [] f fd) (hm : mg "tupled" = some (.ref f))  : ∀ n : Nat, Dn P w K mg base cl "tupled" (n + 1) (Ftupled n)
  | 0 => ⟨f, fd, ["value"], fn_zero (k := 0 + 0) FD sctupled, hm, FD.kp, FD.bindsN fun _ _ _ _ _ _ us hl => match us, hl with | [_], _ => rfl⟩
  | n + 1 => ⟨f, fd, ["value"], (Nat.succ_add n 1).symm ▸ fn_def (k := n + 1) FD sctupled (ioOf_out (by decide)) (fun cdv A outer s H E hr => btupled B S hr (dtupled B S FD hm  n) ), hm, FD.kp, FD.bindsN fun _ _ _ _ _ _ us hl => match us, hl with | [_], _ => rfl⟩
abbrev Nwoven_row : List Str := ["streams", "weaving", "done", "number", "rows", "found"]
theorem scwoven_row : FnScope Nwoven_row ["streams", "weaving"] (defScope (top 5)) := ⟨rfl, rfl, rfl, by decide +kernel, rfl, by decide +kernel, by decide +kernel⟩
def Lwoven_row_1 (ρ : En) : Res (Fl × En) := (cSeq
  (cDrop (cApp true (cVar 5) (cBin fIdx true (cBin fIdx true (cVar 4) (cVar 3)) (cBin fIdx true (cVar 2) (cVar 3)))))
  (cAugS 2 (fun i j => i + j) (cVar 3) (cC (.int 1)))) ρ
def mwoven_row : CS := (cSeq
  (cPar2 4 5 (cCons true (cCallP false (Ftupled 40) (cCons true (cVar 0) cNil)) (cCons true (cLst true cNil) cNil)))
  (cSeq
  (cAsg (gSet 2) (cBin fMul true (cLst true (cCons true (cC (.int 0)) cNil)) (cCallB fLen (cCons true (cVar 4) cNil))))
  (cSeq
  (cFor (iSeq (cVar 1)) (gSet 3) Lwoven_row_1)
  (cRet (cCallB fTuple (cCons true (cVar 5) cNil))))))
def Fwoven_row : Fn := runDef 2 6 (ioOf []) mwoven_row
theorem bwoven_row {P : Program} {w : World} {K : PySem.W.Frag} {mg : Str → Option Value} {base : Heap} {cl : Nat → Addr} (B : Blt mg) (S : Gs mg) {f : Addr} {cdv : Value} {A : Around} {outer : List Env} {s : Shared} {H : Hp} {E : XK} (hr : Room 41 (A.deeper (envOfC "woven_row" (defScope (top 5)) s.heap.objs.size f cdv))) (dtupled : Dn P w K mg base cl "tupled" 41 (Ftupled 40)) : SSs (BX P w K mg base Nwoven_row "woven_row" (defScope (top 5)) f cdv A outer s H E) cl (ioOf []) (defBody (top 5)) mwoven_row :=
  (sss_cons
  (ss_par2 (i := 4) (j := 5) (qb := false) rfl scwoven_row.nd rfl rfl (by decide) rfl rfl rfl rfl (sb_cons (qa := false) (qb := true) (se_callP (qb := true) (qd := false) (dtupled.fm hr (by decide)) rfl (sb_cons (qa := true) (qb := true) (dv 0) sb_nil)) (sb_cons (qa := true) (qb := true) (se_lst (qb := true) (qd := true) sb_nil) sb_nil)) rfl)
  (sss_cons
  (ss_asg (q := true) (dMul (qa := true) (qb := true) (se_lst (qb := true) (qd := true) (sb_cons (qa := true) (qb := true) se_int sb_nil)) (dLen (qb := true) rfl B.len (sb_cons (qa := true) (qb := true) (dv 4) sb_nil))) (sg_name (i := 2) scwoven_row.nd rfl (by first | exact .inl rfl | exact .inr rfl) rfl))
  (sss_cons
  (ss_for PassesOwn.never rfl (si_seq (qa := true) (dv 1)) (sg_name (i := 3) scwoven_row.nd rfl (by first | exact .inl rfl | exact .inr rfl) rfl) (sss_cons
  (ss_expr (q := false) (se_append (qo := true) (qa := true) (dv 5) (dIx (qa := true) (qb := true) (dIx (qa := true) (qb := true) (dv 4) (dv 3)) (dIx (qa := true) (qb := true) (dv 2) (dv 3)))))
  (sss_one (ss_augS (i := 2) (qi := true) (qe := true) (dv 2) (dv 3) se_int ip_add))))
  (sss_one (ss_ret (q := true) (dTuple (qb := true) rfl B.tuple (sb_cons (qa := true) (qb := true) (dv 5) sb_nil)))))))
theorem owoven_row {P : Program} {w : World} {K : PySem.W.Frag} {mg : Str → Option Value} {base : Heap} {cl : Nat → Addr} (B : Blt mg) (S : Gs mg) {f : Addr} {fd : FuncData} (FD : FnP K "woven_row" "woven_row" (top 5) [] f fd) (dtupled : Dn P w K mg base cl "tupled" 41 (Ftupled 40)) : FnOk P w K mg base CX0 42 f fd ["streams", "weaving"] (spM ⟨K, cl⟩ Fwoven_row) :=
  fn_defD (k := 41) (N := Nwoven_row) FD scwoven_row (ioOf_out (by decide)) (fun cdv A outer s H E hr => bwoven_row B S hr dtupled)
theorem dwoven_row {P : Program} {w : World} {K : PySem.W.Frag} {mg : Str → Option Value} {base : Heap} {cl : Nat → Addr} (B : Blt mg) (S : Gs mg) {f : Addr} {fd : FuncData} (FD : FnP K "woven_row" "woven_row" (top 5) [] f fd) (hm : mg "woven_row" = some (.ref f)) (dtupled : Dn P w K mg base cl "tupled" 41 (Ftupled 40)) : Dn P w K mg base cl "woven_row" 42 Fwoven_row :=
  ⟨f, fd, ["streams", "weaving"], owoven_row B S FD dtupled, hm, FD.kp, FD.bindsN fun _ _ _ _ _ _ us hl => match us, hl with | [_, _], _ => rfl⟩
theorem kwoven_row_weaving_streams {P : Program} {w : World} {K : PySem.W.Frag} {mg : Str → Option Value} {base : Heap} {cl : Nat → Addr} (B : Blt mg) (S : Gs mg) {f : Addr} {fd : FuncData} (FD : FnP K "woven_row" "woven_row" (top 5) [] f fd) (hm : mg "woven_row" = some (.ref f)) (dtupled : Dn P w K mg base cl "tupled" 41 (Ftupled 40)) : Dk P w K mg base cl "woven_row" ["weaving", "streams"] [1, 0] 42 Fwoven_row :=
  ⟨f, fd, ["streams", "weaving"], owoven_row B S FD dtupled, hm, FD.kp, kbn_of FD fun _ _ _ _ _ _ us hl => match us, hl with | [_, _], _ => rfl⟩
abbrev N_law_by_hand_right : List Str := ["_law_shop", "_law_fine", "_law_odd", "_law_got", "_law_due", "_law_three", "_law_far", "_law_own", "_law_k", "_law_lap"]
theorem sc_law_by_hand_right : FnScope N_law_by_hand_right [] (defScope (top 20)) := ⟨rfl, rfl, rfl, by decide +kernel, rfl, by decide +kernel, by decide +kernel⟩
def E_law_by_hand_right_1 (ρ : En) : Res (B × En) := (cCallV Fis_weaving (cCons true (cVar 0) (cCons true (cVar 7) cNil))) ρ
def E_law_by_hand_right_2 (ρ : En) : Res (B × En) := (cTup true (cCons true (cC (.str "add")) (cCons true (cBin fAdd true (cBin fMul true (cC (.int 100)) (cVar 8)) (cVar 9)) cNil))) ρ
def E_law_by_hand_right_3 (ρ : En) : Res (B × En) := (cCallB fTuple (cCons true (cLc [9] (iRange1 (cC (.int 12))) (gSet 9) cYes E_law_by_hand_right_2) cNil)) ρ
def E_law_by_hand_right_4 (ρ : En) : Res (B × En) := (cBin fIdx true (cVar 7) (cC (.int 1))) ρ
def B_law_by_hand_right : List CS := [
  (cAsg (gSet 0) (cTup true (cCons true (cTup true (cCons true (cTup true (cCons true (cC (.str "add")) (cCons true (cC (.int 5)) cNil))) (cCons true (cTup true (cCons true (cC (.str "cap")) (cCons true (cC (.int 6)) cNil))) cNil))) (cCons true (cTup true (cCons true (cTup true (cCons true (cC (.str "floor")) (cCons true (cC (.int 0)) cNil))) (cCons true (cTup true (cCons true (cC (.str "add")) (cCons true (cUn fNeg (cC (.int 4))) cNil))) cNil))) cNil)))),
  (cAsg (gSet 1) (cLst true (cCons true (cTup true (cCons true (cC (.int 0)) (cCons true (cC (.int 0)) (cCons true (cC (.int 1)) (cCons true (cC (.int 1)) cNil))))) (cCons true (cTup true (cCons true (cC (.int 0)) (cCons true (cC (.int 1)) (cCons true (cC (.int 0)) (cCons true (cC (.int 1)) cNil))))) (cCons true (cTup true (cCons true (cC (.int 0)) (cCons true (cC (.int 1)) (cCons true (cC (.int 1)) (cCons true (cC (.int 0)) cNil))))) (cCons true (cTup true (cCons true (cC (.int 1)) (cCons true (cC (.int 0)) (cCons true (cC (.int 0)) (cCons true (cC (.int 1)) cNil))))) (cCons true (cTup true (cCons true (cC (.int 1)) (cCons true (cC (.int 0)) (cCons true (cC (.int 1)) (cCons true (cC (.int 0)) cNil))))) (cCons true (cTup true (cCons true (cC (.int 1)) (cCons true (cC (.int 1)) (cCons true (cC (.int 0)) (cCons true (cC (.int 0)) cNil))))) cNil)))))))),
  (cAsg (gSet 2) (cFz (cLst true (cCons true (cTup true (cCons true (cC (.int 0)) (cCons true (cC (.int 0)) (cCons true (cC (.int 1)) cNil)))) (cCons true (cTup true (cCons true (cC (.int 0)) (cCons true (cC (.int 0)) (cCons true (cC (.int 0)) (cCons true (cC (.int 1)) cNil))))) (cCons true (cTup true (cCons true (cC (.int 0)) (cCons true (cC (.int 1)) (cCons true (cC (.int 1)) (cCons true (cC (.int 0)) (cCons true (cC (.int 0)) cNil)))))) (cCons true (cTup true (cCons true (cC (.int 0)) (cCons true (cC (.int 1)) (cCons true (cC (.int 1)) (cCons true (cC (.int 2)) cNil))))) (cCons true (cTup true (cCons true (cC (.int 0)) (cCons true (cC (.int 1)) (cCons true (cC (.int 1)) (cCons true (cUn fNeg (cC (.int 1))) cNil))))) (cCons true (cLst true (cCons true (cC (.int 0)) (cCons true (cC (.int 1)) (cCons true (cC (.int 1)) (cCons true (cC (.int 0)) cNil))))) (cCons true (cTup true (cCons true (cC (.int 0)) (cCons true (cC (.bl true)) (cCons true (cC (.bl true)) (cCons true (cC (.int 0)) cNil))))) cNil)))))))))),
  (cAsg (gSet 2) (cBinF fAdd true (cVar 2) (cLst true (cCons true (cTup true (cCons true (cC (.str "0")) (cCons true (cC (.int 1)) (cCons true (cC (.int 1)) (cCons true (cC (.int 0)) cNil))))) (cCons true (cC .non) (cCons true (cC (.int 5)) (cCons true (cC (.str "0110")) (cCons true (cTup true (cCons true (cC (.int 0)) (cCons true (cC (.int 1)) (cCons true (cTup true (cCons true (cC (.int 1)) (cCons true (cC (.int 0)) cNil))) cNil)))) (cCons true (cTup true cNil) (cCons true (cTup true (cCons true (cC (.int 0)) (cCons true (cC .non) (cCons true (cC (.int 1)) (cCons true (cC (.int 1)) cNil))))) (cCons true (cTup true (cCons true (cTup true (cCons true (cC (.int 0)) (cCons true (cC (.int 1)) (cCons true (cC (.int 1)) (cCons true (cC (.int 0)) cNil))))) cNil)) cNil))))))))))),
  (cAsg (gSet 3) (cLc [7] (iSeq (cBin fAdd true (cVar 1) (cVar 2))) (gSet 7) cYes E_law_by_hand_right_1)),
  (cAsg (gSet 4) (cBin fAdd true (cBin fMul true (cLst true (cCons true (cC (.bl true)) cNil)) (cC (.int 6))) (cBin fMul true (cLst true (cCons true (cC (.bl false)) cNil)) (cC (.int 15))))),
  (cAsg (gSet 3) (cBinF fAdd false (cVar 3) (cLst true (cCons false (cCallP false Fwoven_row (cCons true (cVar 0) (cCons true (cBin fIdx true (cVar 1) (cC (.int 0))) cNil))) (cCons false (cCallP false Fwoven_row (cCons true (cVar 0) (cCons true (cBin fIdx true (cVar 1) (cC (.int 4))) cNil))) (cCons true (cCallKP false Fwoven_row [1, 0] 2 (cCons true (cLst true (cCons true (cC (.int 0)) (cCons true (cC (.int 1)) (cCons true (cC (.int 1)) (cCons true (cC (.int 0)) cNil))))) (cCons true (cVar 0) cNil))) cNil)))))),
  (cDrop (cApp true (cVar 4) (cTup true (cCons true (cTup true (cCons true (cC (.str "add")) (cCons true (cC (.int 5)) cNil))) (cCons true (cTup true (cCons true (cC (.str "cap")) (cCons true (cC (.int 6)) cNil))) (cCons true (cTup true (cCons true (cC (.str "floor")) (cCons true (cC (.int 0)) cNil))) (cCons true (cTup true (cCons true (cC (.str "add")) (cCons true (cUn fNeg (cC (.int 4))) cNil))) cNil))))))),
  (cDrop (cApp true (cVar 4) (cTup true (cCons true (cTup true (cCons true (cC (.str "floor")) (cCons true (cC (.int 0)) cNil))) (cCons true (cTup true (cCons true (cC (.str "add")) (cCons true (cC (.int 5)) cNil))) (cCons true (cTup true (cCons true (cC (.str "add")) (cCons true (cUn fNeg (cC (.int 4))) cNil))) (cCons true (cTup true (cCons true (cC (.str "cap")) (cCons true (cC (.int 6)) cNil))) cNil))))))),
  (cDrop (cApp true (cVar 4) (cTup true (cCons true (cTup true (cCons true (cC (.str "add")) (cCons true (cC (.int 5)) cNil))) (cCons true (cTup true (cCons true (cC (.str "floor")) (cCons true (cC (.int 0)) cNil))) (cCons true (cTup true (cCons true (cC (.str "add")) (cCons true (cUn fNeg (cC (.int 4))) cNil))) (cCons true (cTup true (cCons true (cC (.str "cap")) (cCons true (cC (.int 6)) cNil))) cNil))))))),
  (cAsg (gSet 3) (cBinF fAdd true (cVar 3) (cLst true (cCons true (cCallV Fis_weaving (cCons true (cTup true (cCons true (cTup true cNil) cNil)) (cCons true (cTup true cNil) cNil))) (cCons true (cCallV Fis_weaving (cCons true (cTup true (cCons true (cTup true cNil) cNil)) (cCons true (cTup true (cCons true (cC (.int 0)) cNil)) cNil))) (cCons true (cCallV Fis_weaving (cCons true (cTup true (cCons true (cTup true cNil) (cCons true (cTup true (cCons true (cTup true (cCons true (cC (.str "cap")) (cCons true (cC (.int 1)) cNil))) cNil)) (cCons true (cTup true cNil) cNil)))) (cCons true (cTup true (cCons true (cC (.int 1)) cNil)) cNil))) cNil)))))),
  (cDrop (cApp true (cVar 3) (cCallP true Fwoven_row (cCons true (cTup true (cCons true (cTup true cNil) cNil)) (cCons true (cTup true cNil) cNil))))),
  (cAsg (gSet 4) (cBinF fAdd true (cVar 4) (cLst true (cCons true (cC (.bl true)) (cCons true (cC (.bl false)) (cCons true (cC (.bl true)) (cCons true (cTup true cNil) cNil))))))),
  (cAsg (gSet 5) (cTup true (cCons true (cTup true (cCons true (cTup true (cCons true (cC (.str "add")) (cCons true (cC (.int 1)) cNil))) cNil)) (cCons true (cTup true (cCons true (cTup true (cCons true (cC (.str "add")) (cCons true (cC (.int 2)) cNil))) (cCons true (cTup true (cCons true (cC (.str "add")) (cCons true (cC (.int 3)) cNil))) cNil))) (cCons true (cTup true (cCons true (cTup true (cCons true (cC (.str "cap")) (cCons true (cC (.int 4)) cNil))) cNil)) cNil))))),
  (cAsg (gSet 3) (cBinF fAdd false (cVar 3) (cLst true (cCons false (cCallP false Fwoven_row (cCons true (cVar 5) (cCons true (cTup true (cCons true (cC (.int 2)) (cCons true (cC (.int 1)) (cCons true (cC (.int 0)) (cCons true (cC (.int 1)) cNil))))) cNil))) (cCons true (cCallKV Fis_weaving [1, 0] 2 (cCons false (cTup true (cCons true (cC (.int 1)) (cCons true (cC (.int 2)) (cCons true (cC (.int 1)) (cCons true (cC (.int 0)) cNil))))) (cCons true (cCallP false (F_law_lists 40) (cCons true (cVar 5) cNil)) cNil))) cNil))))),
  (cAsg (gSet 4) (cBinF fAdd true (cVar 4) (cLst true (cCons true (cTup true (cCons true (cTup true (cCons true (cC (.str "cap")) (cCons true (cC (.int 4)) cNil))) (cCons true (cTup true (cCons true (cC (.str "add")) (cCons true (cC (.int 2)) cNil))) (cCons true (cTup true (cCons true (cC (.str "add")) (cCons true (cC (.int 1)) cNil))) (cCons true (cTup true (cCons true (cC (.str "add")) (cCons true (cC (.int 3)) cNil))) cNil))))) (cCons true (cC (.bl true)) cNil))))),
  (cAsg (gSet 6) (cCallB fTuple (cCons true (cLc [8] (iRange1 (cC (.int 3))) (gSet 8) cYes E_law_by_hand_right_3) cNil))),
  (cAsg (gSet 3) (cBinF fAdd true (cVar 3) (cLst true (cCons true (cCallV Fis_weaving (cCons true (cVar 6) (cCons true (cBin fMul true (cTup true (cCons true (cC (.int 0)) (cCons true (cC (.int 1)) (cCons true (cC (.int 2)) cNil)))) (cC (.int 12))) cNil))) (cCons true (cCallV Fis_weaving (cCons true (cVar 6) (cCons true (cBin fAdd true (cBin fMul true (cTup true (cCons true (cC (.int 0)) (cCons true (cC (.int 1)) (cCons true (cC (.int 2)) cNil)))) (cC (.int 11))) (cTup true (cCons true (cC (.int 0)) (cCons true (cC (.int 1)) (cCons true (cC (.int 1)) cNil))))) cNil))) cNil))))),
  (cDrop (cApp false (cVar 3) (cSl fSl true (cLc [7] (iSeq (cCallP false Fwoven_row (cCons true (cVar 6) (cCons true (cBin fMul true (cTup true (cCons true (cC (.int 2)) (cCons true (cC (.int 0)) (cCons true (cC (.int 1)) cNil)))) (cC (.int 12))) cNil)))) (gSet 7) cYes E_law_by_hand_right_4) oNone (oSome (cC (.int 7))))))]
def Z_law_by_hand_right : CS := (cRet (cCallV (F_law_same 40) (cCons false (cVar 3) (cCons true (cBinF fAdd true (cVar 4) (cLst true (cCons true (cC (.bl true)) (cCons true (cC (.bl false)) (cCons true (cLst true (cCons true (cC (.int 200)) (cCons true (cC (.int 0)) (cCons true (cC (.int 100)) (cCons true (cC (.int 201)) (cCons true (cC (.int 1)) (cCons true (cC (.int 101)) (cCons true (cC (.int 202)) cNil)))))))) cNil))))) cNil))))
def m_law_by_hand_right : CS := chain B_law_by_hand_right Z_law_by_hand_right
def F_law_by_hand_right : Fn := runDef 0 10 (ioOf []) m_law_by_hand_right
theorem b_law_by_hand_right {P : Program} {w : World} {K : PySem.W.Frag} {mg : Str → Option Value} {base : Heap} {cl : Nat → Addr} (B : Blt mg) (S : Gs mg) {f : Addr} {cdv : Value} {A : Around} {outer : List Env} {s : Shared} {H : Hp} {E : XK} (hr : Room 42 (A.deeper (envOfC "_law_by_hand_right" (defScope (top 20)) s.heap.objs.size f cdv))) (d_law_lists : Dn P w K mg base cl "_law_lists" 41 (F_law_lists 40)) (d_law_same : Dn P w K mg base cl "_law_same" 41 (F_law_same 40)) (dis_weaving : Dn P w K mg base cl "is_weaving" 2 Fis_weaving) (dwoven_row : Dn P w K mg base cl "woven_row" 42 Fwoven_row) (kis_weaving_thing_streams : Dk P w K mg base cl "is_weaving" ["thing", "streams"] [1, 0] 2 Fis_weaving) (kwoven_row_weaving_streams : Dk P w K mg base cl "woven_row" ["weaving", "streams"] [1, 0] 42 Fwoven_row) : SSs (BX P w K mg base N_law_by_hand_right "_law_by_hand_right" (defScope (top 20)) f cdv A outer s H E) cl (ioOf []) (defBody (top 20)) m_law_by_hand_right :=
  (sss_cons
  (ss_asg (q := true) (se_tup (qb := true) (qd := true) (sb_cons (qa := true) (qb := true) (se_tup (qb := true) (qd := true) (sb_cons (qa := true) (qb := true) (se_tup (qb := true) (qd := true) (sb_cons (qa := true) (qb := true) se_str (sb_cons (qa := true) (qb := true) se_int sb_nil))) (sb_cons (qa := true) (qb := true) (se_tup (qb := true) (qd := true) (sb_cons (qa := true) (qb := true) se_str (sb_cons (qa := true) (qb := true) se_int sb_nil))) sb_nil))) (sb_cons (qa := true) (qb := true) (se_tup (qb := true) (qd := true) (sb_cons (qa := true) (qb := true) (se_tup (qb := true) (qd := true) (sb_cons (qa := true) (qb := true) se_str (sb_cons (qa := true) (qb := true) se_int sb_nil))) (sb_cons (qa := true) (qb := true) (se_tup (qb := true) (qd := true) (sb_cons (qa := true) (qb := true) se_str (sb_cons (qa := true) (qb := true) (dNeg (qa := true) se_int) sb_nil))) sb_nil))) sb_nil))) (sg_name (i := 0) sc_law_by_hand_right.nd rfl (by first | exact .inl rfl | exact .inr rfl) rfl))
  (sss_cons
  (ss_asg (q := true) (se_lst (qb := true) (qd := true) (sb_cons (qa := true) (qb := true) (se_tup (qb := true) (qd := true) (sb_cons (qa := true) (qb := true) se_int (sb_cons (qa := true) (qb := true) se_int (sb_cons (qa := true) (qb := true) se_int (sb_cons (qa := true) (qb := true) se_int sb_nil))))) (sb_cons (qa := true) (qb := true) (se_tup (qb := true) (qd := true) (sb_cons (qa := true) (qb := true) se_int (sb_cons (qa := true) (qb := true) se_int (sb_cons (qa := true) (qb := true) se_int (sb_cons (qa := true) (qb := true) se_int sb_nil))))) (sb_cons (qa := true) (qb := true) (se_tup (qb := true) (qd := true) (sb_cons (qa := true) (qb := true) se_int (sb_cons (qa := true) (qb := true) se_int (sb_cons (qa := true) (qb := true) se_int (sb_cons (qa := true) (qb := true) se_int sb_nil))))) (sb_cons (qa := true) (qb := true) (se_tup (qb := true) (qd := true) (sb_cons (qa := true) (qb := true) se_int (sb_cons (qa := true) (qb := true) se_int (sb_cons (qa := true) (qb := true) se_int (sb_cons (qa := true) (qb := true) se_int sb_nil))))) (sb_cons (qa := true) (qb := true) (se_tup (qb := true) (qd := true) (sb_cons (qa := true) (qb := true) se_int (sb_cons (qa := true) (qb := true) se_int (sb_cons (qa := true) (qb := true) se_int (sb_cons (qa := true) (qb := true) se_int sb_nil))))) (sb_cons (qa := true) (qb := true) (se_tup (qb := true) (qd := true) (sb_cons (qa := true) (qb := true) se_int (sb_cons (qa := true) (qb := true) se_int (sb_cons (qa := true) (qb := true) se_int (sb_cons (qa := true) (qb := true) se_int sb_nil))))) sb_nil))))))) (sg_name (i := 1) sc_law_by_hand_right.nd rfl (by first | exact .inl rfl | exact .inr rfl) rfl))
  (sss_cons
  (ss_asg (q := true) (se_fz (se_lst (qb := true) (qd := true) (sb_cons (qa := true) (qb := true) (se_tup (qb := true) (qd := true) (sb_cons (qa := true) (qb := true) se_int (sb_cons (qa := true) (qb := true) se_int (sb_cons (qa := true) (qb := true) se_int sb_nil)))) (sb_cons (qa := true) (qb := true) (se_tup (qb := true) (qd := true) (sb_cons (qa := true) (qb := true) se_int (sb_cons (qa := true) (qb := true) se_int (sb_cons (qa := true) (qb := true) se_int (sb_cons (qa := true) (qb := true) se_int sb_nil))))) (sb_cons (qa := true) (qb := true) (se_tup (qb := true) (qd := true) (sb_cons (qa := true) (qb := true) se_int (sb_cons (qa := true) (qb := true) se_int (sb_cons (qa := true) (qb := true) se_int (sb_cons (qa := true) (qb := true) se_int (sb_cons (qa := true) (qb := true) se_int sb_nil)))))) (sb_cons (qa := true) (qb := true) (se_tup (qb := true) (qd := true) (sb_cons (qa := true) (qb := true) se_int (sb_cons (qa := true) (qb := true) se_int (sb_cons (qa := true) (qb := true) se_int (sb_cons (qa := true) (qb := true) se_int sb_nil))))) (sb_cons (qa := true) (qb := true) (se_tup (qb := true) (qd := true) (sb_cons (qa := true) (qb := true) se_int (sb_cons (qa := true) (qb := true) se_int (sb_cons (qa := true) (qb := true) se_int (sb_cons (qa := true) (qb := true) (dNeg (qa := true) se_int) sb_nil))))) (sb_cons (qa := true) (qb := true) (se_lst (qb := true) (qd := true) (sb_cons (qa := true) (qb := true) se_int (sb_cons (qa := true) (qb := true) se_int (sb_cons (qa := true) (qb := true) se_int (sb_cons (qa := true) (qb := true) se_int sb_nil))))) (sb_cons (qa := true) (qb := true) (se_tup (qb := true) (qd := true) (sb_cons (qa := true) (qb := true) se_int (sb_cons (qa := true) (qb := true) se_bl (sb_cons (qa := true) (qb := true) se_bl (sb_cons (qa := true) (qb := true) se_int sb_nil))))) sb_nil))))))))) (sg_name (i := 2) sc_law_by_hand_right.nd rfl (by first | exact .inl rfl | exact .inr rfl) rfl))
  (sss_cons
  (ss_asg (q := false) (se_binF (qa := true) (qb := true) opr_add ops_add (dv 2) (se_lst (qb := true) (qd := true) (sb_cons (qa := true) (qb := true) (se_tup (qb := true) (qd := true) (sb_cons (qa := true) (qb := true) se_str (sb_cons (qa := true) (qb := true) se_int (sb_cons (qa := true) (qb := true) se_int (sb_cons (qa := true) (qb := true) se_int sb_nil))))) (sb_cons (qa := true) (qb := true) se_non (sb_cons (qa := true) (qb := true) se_int (sb_cons (qa := true) (qb := true) se_str (sb_cons (qa := true) (qb := true) (se_tup (qb := true) (qd := true) (sb_cons (qa := true) (qb := true) se_int (sb_cons (qa := true) (qb := true) se_int (sb_cons (qa := true) (qb := true) (se_tup (qb := true) (qd := true) (sb_cons (qa := true) (qb := true) se_int (sb_cons (qa := true) (qb := true) se_int sb_nil))) sb_nil)))) (sb_cons (qa := true) (qb := true) (se_tup (qb := true) (qd := true) sb_nil) (sb_cons (qa := true) (qb := true) (se_tup (qb := true) (qd := true) (sb_cons (qa := true) (qb := true) se_int (sb_cons (qa := true) (qb := true) se_non (sb_cons (qa := true) (qb := true) se_int (sb_cons (qa := true) (qb := true) se_int sb_nil))))) (sb_cons (qa := true) (qb := true) (se_tup (qb := true) (qd := true) (sb_cons (qa := true) (qb := true) (se_tup (qb := true) (qd := true) (sb_cons (qa := true) (qb := true) se_int (sb_cons (qa := true) (qb := true) se_int (sb_cons (qa := true) (qb := true) se_int (sb_cons (qa := true) (qb := true) se_int sb_nil))))) sb_nil)) sb_nil)))))))))) (sg_name (i := 2) sc_law_by_hand_right.nd rfl (by first | exact .inl rfl | exact .inr rfl) rfl))
  (sss_cons
  (ss_setLc (i := 3) (own := [("_law_own", 7)]) (qt := true) (qe := true) rfl sc_law_by_hand_right.nd rfl rfl rfl (sw_true rfl rfl rfl (by decide +kernel)) (si_seq (qa := true) (dAdd (qa := true) (qb := true) (dv 1) (dv 2))) (blkOk_by (by kernel_rfl)) (fun s H A l fp => (sg_name (i := 7) sc_law_by_hand_right.nd rfl (by first | exact .inl rfl | exact .inr rfl) rfl)) (fun s H A l fp => sts_nil) (fun s H A l fp => (se_callV (qb := true) (dis_weaving.fm hr (by decide)).blk rfl (sb_cons (qa := true) (qb := true) (dv 0) (sb_cons (qa := true) (qb := true) (dv 7) sb_nil)))))
  (sss_cons
  (ss_asg (q := true) (dAdd (qa := true) (qb := true) (dMul (qa := true) (qb := true) (se_lst (qb := true) (qd := true) (sb_cons (qa := true) (qb := true) se_bl sb_nil)) se_int) (dMul (qa := true) (qb := true) (se_lst (qb := true) (qd := true) (sb_cons (qa := true) (qb := true) se_bl sb_nil)) se_int)) (sg_name (i := 4) sc_law_by_hand_right.nd rfl (by first | exact .inl rfl | exact .inr rfl) rfl))
  (sss_cons
  (ss_asg (q := false) (se_binF (qa := true) (qb := false) opr_add ops_add (dv 3) (se_lst (qb := false) (qd := true) (sb_cons (qa := false) (qb := false) (se_callP (qb := true) (qd := false) (dwoven_row.fm hr (by decide)) rfl (sb_cons (qa := true) (qb := true) (dv 0) (sb_cons (qa := true) (qb := true) (dIx (qa := true) (qb := true) (dv 1) se_int) sb_nil))) (sb_cons (qa := false) (qb := false) (se_callP (qb := true) (qd := false) (dwoven_row.fm hr (by decide)) rfl (sb_cons (qa := true) (qb := true) (dv 0) (sb_cons (qa := true) (qb := true) (dIx (qa := true) (qb := true) (dv 1) se_int) sb_nil))) (sb_cons (qa := false) (qb := true) (se_callKP (qb := true) (qd := false) (kwoven_row_weaving_streams.fm hr (by decide)) rfl (sk_cons (qa := true) (qb := true) (se_lst (qb := true) (qd := true) (sb_cons (qa := true) (qb := true) se_int (sb_cons (qa := true) (qb := true) se_int (sb_cons (qa := true) (qb := true) se_int (sb_cons (qa := true) (qb := true) se_int sb_nil))))) (sk_cons (qa := true) (qb := true) (dv 0) sk_nil))) sb_nil))))) (sg_name (i := 3) sc_law_by_hand_right.nd rfl (by first | exact .inl rfl | exact .inr rfl) rfl))
  (sss_cons
  (ss_expr (q := false) (se_append (qo := true) (qa := true) (dv 4) (se_tup (qb := true) (qd := true) (sb_cons (qa := true) (qb := true) (se_tup (qb := true) (qd := true) (sb_cons (qa := true) (qb := true) se_str (sb_cons (qa := true) (qb := true) se_int sb_nil))) (sb_cons (qa := true) (qb := true) (se_tup (qb := true) (qd := true) (sb_cons (qa := true) (qb := true) se_str (sb_cons (qa := true) (qb := true) se_int sb_nil))) (sb_cons (qa := true) (qb := true) (se_tup (qb := true) (qd := true) (sb_cons (qa := true) (qb := true) se_str (sb_cons (qa := true) (qb := true) se_int sb_nil))) (sb_cons (qa := true) (qb := true) (se_tup (qb := true) (qd := true) (sb_cons (qa := true) (qb := true) se_str (sb_cons (qa := true) (qb := true) (dNeg (qa := true) se_int) sb_nil))) sb_nil)))))))
  (sss_cons
  (ss_expr (q := false) (se_append (qo := true) (qa := true) (dv 4) (se_tup (qb := true) (qd := true) (sb_cons (qa := true) (qb := true) (se_tup (qb := true) (qd := true) (sb_cons (qa := true) (qb := true) se_str (sb_cons (qa := true) (qb := true) se_int sb_nil))) (sb_cons (qa := true) (qb := true) (se_tup (qb := true) (qd := true) (sb_cons (qa := true) (qb := true) se_str (sb_cons (qa := true) (qb := true) se_int sb_nil))) (sb_cons (qa := true) (qb := true) (se_tup (qb := true) (qd := true) (sb_cons (qa := true) (qb := true) se_str (sb_cons (qa := true) (qb := true) (dNeg (qa := true) se_int) sb_nil))) (sb_cons (qa := true) (qb := true) (se_tup (qb := true) (qd := true) (sb_cons (qa := true) (qb := true) se_str (sb_cons (qa := true) (qb := true) se_int sb_nil))) sb_nil)))))))
  (sss_cons
  (ss_expr (q := false) (se_append (qo := true) (qa := true) (dv 4) (se_tup (qb := true) (qd := true) (sb_cons (qa := true) (qb := true) (se_tup (qb := true) (qd := true) (sb_cons (qa := true) (qb := true) se_str (sb_cons (qa := true) (qb := true) se_int sb_nil))) (sb_cons (qa := true) (qb := true) (se_tup (qb := true) (qd := true) (sb_cons (qa := true) (qb := true) se_str (sb_cons (qa := true) (qb := true) se_int sb_nil))) (sb_cons (qa := true) (qb := true) (se_tup (qb := true) (qd := true) (sb_cons (qa := true) (qb := true) se_str (sb_cons (qa := true) (qb := true) (dNeg (qa := true) se_int) sb_nil))) (sb_cons (qa := true) (qb := true) (se_tup (qb := true) (qd := true) (sb_cons (qa := true) (qb := true) se_str (sb_cons (qa := true) (qb := true) se_int sb_nil))) sb_nil)))))))
  (sss_cons
  (ss_asg (q := false) (se_binF (qa := true) (qb := true) opr_add ops_add (dv 3) (se_lst (qb := true) (qd := true) (sb_cons (qa := true) (qb := true) (se_callV (qb := true) (dis_weaving.fm hr (by decide)) rfl (sb_cons (qa := true) (qb := true) (se_tup (qb := true) (qd := true) (sb_cons (qa := true) (qb := true) (se_tup (qb := true) (qd := true) sb_nil) sb_nil)) (sb_cons (qa := true) (qb := true) (se_tup (qb := true) (qd := true) sb_nil) sb_nil))) (sb_cons (qa := true) (qb := true) (se_callV (qb := true) (dis_weaving.fm hr (by decide)) rfl (sb_cons (qa := true) (qb := true) (se_tup (qb := true) (qd := true) (sb_cons (qa := true) (qb := true) (se_tup (qb := true) (qd := true) sb_nil) sb_nil)) (sb_cons (qa := true) (qb := true) (se_tup (qb := true) (qd := true) (sb_cons (qa := true) (qb := true) se_int sb_nil)) sb_nil))) (sb_cons (qa := true) (qb := true) (se_callV (qb := true) (dis_weaving.fm hr (by decide)) rfl (sb_cons (qa := true) (qb := true) (se_tup (qb := true) (qd := true) (sb_cons (qa := true) (qb := true) (se_tup (qb := true) (qd := true) sb_nil) (sb_cons (qa := true) (qb := true) (se_tup (qb := true) (qd := true) (sb_cons (qa := true) (qb := true) (se_tup (qb := true) (qd := true) (sb_cons (qa := true) (qb := true) se_str (sb_cons (qa := true) (qb := true) se_int sb_nil))) sb_nil)) (sb_cons (qa := true) (qb := true) (se_tup (qb := true) (qd := true) sb_nil) sb_nil)))) (sb_cons (qa := true) (qb := true) (se_tup (qb := true) (qd := true) (sb_cons (qa := true) (qb := true) se_int sb_nil)) sb_nil))) sb_nil))))) (sg_name (i := 3) sc_law_by_hand_right.nd rfl (by first | exact .inl rfl | exact .inr rfl) rfl))
  (sss_cons
  (ss_expr (q := false) (se_append (qo := true) (qa := true) (dv 3) (se_callP (qb := true) (qd := true) (dwoven_row.fm hr (by decide)) rfl (sb_cons (qa := true) (qb := true) (se_tup (qb := true) (qd := true) (sb_cons (qa := true) (qb := true) (se_tup (qb := true) (qd := true) sb_nil) sb_nil)) (sb_cons (qa := true) (qb := true) (se_tup (qb := true) (qd := true) sb_nil) sb_nil)))))
  (sss_cons
  (ss_asg (q := false) (se_binF (qa := true) (qb := true) opr_add ops_add (dv 4) (se_lst (qb := true) (qd := true) (sb_cons (qa := true) (qb := true) se_bl (sb_cons (qa := true) (qb := true) se_bl (sb_cons (qa := true) (qb := true) se_bl (sb_cons (qa := true) (qb := true) (se_tup (qb := true) (qd := true) sb_nil) sb_nil)))))) (sg_name (i := 4) sc_law_by_hand_right.nd rfl (by first | exact .inl rfl | exact .inr rfl) rfl))
  (sss_cons
  (ss_asg (q := true) (se_tup (qb := true) (qd := true) (sb_cons (qa := true) (qb := true) (se_tup (qb := true) (qd := true) (sb_cons (qa := true) (qb := true) (se_tup (qb := true) (qd := true) (sb_cons (qa := true) (qb := true) se_str (sb_cons (qa := true) (qb := true) se_int sb_nil))) sb_nil)) (sb_cons (qa := true) (qb := true) (se_tup (qb := true) (qd := true) (sb_cons (qa := true) (qb := true) (se_tup (qb := true) (qd := true) (sb_cons (qa := true) (qb := true) se_str (sb_cons (qa := true) (qb := true) se_int sb_nil))) (sb_cons (qa := true) (qb := true) (se_tup (qb := true) (qd := true) (sb_cons (qa := true) (qb := true) se_str (sb_cons (qa := true) (qb := true) se_int sb_nil))) sb_nil))) (sb_cons (qa := true) (qb := true) (se_tup (qb := true) (qd := true) (sb_cons (qa := true) (qb := true) (se_tup (qb := true) (qd := true) (sb_cons (qa := true) (qb := true) se_str (sb_cons (qa := true) (qb := true) se_int sb_nil))) sb_nil)) sb_nil)))) (sg_name (i := 5) sc_law_by_hand_right.nd rfl (by first | exact .inl rfl | exact .inr rfl) rfl))
  (sss_cons
  (ss_asg (q := false) (se_binF (qa := true) (qb := false) opr_add ops_add (dv 3) (se_lst (qb := false) (qd := true) (sb_cons (qa := false) (qb := false) (se_callP (qb := true) (qd := false) (dwoven_row.fm hr (by decide)) rfl (sb_cons (qa := true) (qb := true) (dv 5) (sb_cons (qa := true) (qb := true) (se_tup (qb := true) (qd := true) (sb_cons (qa := true) (qb := true) se_int (sb_cons (qa := true) (qb := true) se_int (sb_cons (qa := true) (qb := true) se_int (sb_cons (qa := true) (qb := true) se_int sb_nil))))) sb_nil))) (sb_cons (qa := false) (qb := true) (se_callKV (qb := false) (kis_weaving_thing_streams.fm hr (by decide)) rfl (sk_cons (qa := true) (qb := false) (se_tup (qb := true) (qd := true) (sb_cons (qa := true) (qb := true) se_int (sb_cons (qa := true) (qb := true) se_int (sb_cons (qa := true) (qb := true) se_int (sb_cons (qa := true) (qb := true) se_int sb_nil))))) (sk_cons (qa := false) (qb := true) (se_callP (qb := true) (qd := false) (d_law_lists.fm hr (by decide)) rfl (sb_cons (qa := true) (qb := true) (dv 5) sb_nil)) sk_nil))) sb_nil)))) (sg_name (i := 3) sc_law_by_hand_right.nd rfl (by first | exact .inl rfl | exact .inr rfl) rfl))
  (sss_cons
  (ss_asg (q := false) (se_binF (qa := true) (qb := true) opr_add ops_add (dv 4) (se_lst (qb := true) (qd := true) (sb_cons (qa := true) (qb := true) (se_tup (qb := true) (qd := true) (sb_cons (qa := true) (qb := true) (se_tup (qb := true) (qd := true) (sb_cons (qa := true) (qb := true) se_str (sb_cons (qa := true) (qb := true) se_int sb_nil))) (sb_cons (qa := true) (qb := true) (se_tup (qb := true) (qd := true) (sb_cons (qa := true) (qb := true) se_str (sb_cons (qa := true) (qb := true) se_int sb_nil))) (sb_cons (qa := true) (qb := true) (se_tup (qb := true) (qd := true) (sb_cons (qa := true) (qb := true) se_str (sb_cons (qa := true) (qb := true) se_int sb_nil))) (sb_cons (qa := true) (qb := true) (se_tup (qb := true) (qd := true) (sb_cons (qa := true) (qb := true) se_str (sb_cons (qa := true) (qb := true) se_int sb_nil))) sb_nil))))) (sb_cons (qa := true) (qb := true) se_bl sb_nil)))) (sg_name (i := 4) sc_law_by_hand_right.nd rfl (by first | exact .inl rfl | exact .inr rfl) rfl))
  (sss_cons
  (ss_asg (q := false) (dTuple (qb := false) rfl B.tuple (sb_cons (qa := false) (qb := true) (se_lc (own := [("_law_k", 8)]) (qt := true) (qe := false) rfl sc_law_by_hand_right.nd (si_range1 (qa := true) rfl B.range se_int) (blkOk_by (by kernel_rfl)) (fun s H A l fp => (sg_name (i := 8) sc_law_by_hand_right.nd rfl (by first | exact .inl rfl | exact .inr rfl) rfl)) (fun s H A l fp => sts_nil) (fun s H A l fp => (dTuple (qb := false) rfl B.tuple (sb_cons (qa := false) (qb := true) (se_lc (own := [("_law_lap", 9)]) (qt := true) (qe := true) rfl sc_law_by_hand_right.nd (si_range1 (qa := true) rfl B.range se_int) (blkOk_by (by kernel_rfl)) (fun s H A l fp => (sg_name (i := 9) sc_law_by_hand_right.nd rfl (by first | exact .inl rfl | exact .inr rfl) rfl)) (fun s H A l fp => sts_nil) (fun s H A l fp => (se_tup (qb := true) (qd := true) (sb_cons (qa := true) (qb := true) se_str (sb_cons (qa := true) (qb := true) (dAdd (qa := true) (qb := true) (dMul (qa := true) (qb := true) se_int (dv 8)) (dv 9)) sb_nil))))) sb_nil)))) sb_nil)) (sg_name (i := 6) sc_law_by_hand_right.nd rfl (by first | exact .inl rfl | exact .inr rfl) rfl))
  (sss_cons
  (ss_asg (q := false) (se_binF (qa := true) (qb := true) opr_add ops_add (dv 3) (se_lst (qb := true) (qd := true) (sb_cons (qa := true) (qb := true) (se_callV (qb := true) (dis_weaving.fm hr (by decide)) rfl (sb_cons (qa := true) (qb := true) (dv 6) (sb_cons (qa := true) (qb := true) (dMul (qa := true) (qb := true) (se_tup (qb := true) (qd := true) (sb_cons (qa := true) (qb := true) se_int (sb_cons (qa := true) (qb := true) se_int (sb_cons (qa := true) (qb := true) se_int sb_nil)))) se_int) sb_nil))) (sb_cons (qa := true) (qb := true) (se_callV (qb := true) (dis_weaving.fm hr (by decide)) rfl (sb_cons (qa := true) (qb := true) (dv 6) (sb_cons (qa := true) (qb := true) (dAdd (qa := true) (qb := true) (dMul (qa := true) (qb := true) (se_tup (qb := true) (qd := true) (sb_cons (qa := true) (qb := true) se_int (sb_cons (qa := true) (qb := true) se_int (sb_cons (qa := true) (qb := true) se_int sb_nil)))) se_int) (se_tup (qb := true) (qd := true) (sb_cons (qa := true) (qb := true) se_int (sb_cons (qa := true) (qb := true) se_int (sb_cons (qa := true) (qb := true) se_int sb_nil))))) sb_nil))) sb_nil)))) (sg_name (i := 3) sc_law_by_hand_right.nd rfl (by first | exact .inl rfl | exact .inr rfl) rfl))
  (sss_cons
  (ss_expr (q := false) (se_append (qo := true) (qa := false) (dv 3) (dSl (qa := false) (ql := true) (qh := true) (se_lc (own := [("_law_own", 7)]) (qt := true) (qe := true) rfl sc_law_by_hand_right.nd (si_seq (qa := false) (se_callP (qb := true) (qd := false) (dwoven_row.fm hr (by decide)) rfl (sb_cons (qa := true) (qb := true) (dv 6) (sb_cons (qa := true) (qb := true) (dMul (qa := true) (qb := true) (se_tup (qb := true) (qd := true) (sb_cons (qa := true) (qb := true) se_int (sb_cons (qa := true) (qb := true) se_int (sb_cons (qa := true) (qb := true) se_int sb_nil)))) se_int) sb_nil)))) (blkOk_by (by kernel_rfl)) (fun s H A l fp => (sg_name (i := 7) sc_law_by_hand_right.nd rfl (by first | exact .inl rfl | exact .inr rfl) rfl)) (fun s H A l fp => sts_nil) (fun s H A l fp => (dIx (qa := true) (qb := true) (dv 7) se_int))) so_none (so_some (qa := true) se_int))))
  (sss_one (ss_ret (q := false) (se_callV (qb := false) (d_law_same.fm hr (by decide)) rfl (sb_cons (qa := true) (qb := false) (dv 3) (sb_cons (qa := false) (qb := true) (se_binF (qa := true) (qb := true) opr_add ops_add (dv 4) (se_lst (qb := true) (qd := true) (sb_cons (qa := true) (qb := true) se_bl (sb_cons (qa := true) (qb := true) se_bl (sb_cons (qa := true) (qb := true) (se_lst (qb := true) (qd := true) (sb_cons (qa := true) (qb := true) se_int (sb_cons (qa := true) (qb := true) se_int (sb_cons (qa := true) (qb := true) se_int (sb_cons (qa := true) (qb := true) se_int (sb_cons (qa := true) (qb := true) se_int (sb_cons (qa := true) (qb := true) se_int (sb_cons (qa := true) (qb := true) se_int sb_nil)))))))) sb_nil))))) sb_nil))))))))))))))))))))))))
theorem o_law_by_hand_right {P : Program} {w : World} {K : PySem.W.Frag} {mg : Str → Option Value} {base : Heap} {cl : Nat → Addr} (B : Blt mg) (S : Gs mg) {f : Addr} {fd : FuncData} (FD : FnP K "_law_by_hand_right" "_law_by_hand_right" (top 20) [] f fd) (d_law_lists : Dn P w K mg base cl "_law_lists" 41 (F_law_lists 40)) (d_law_same : Dn P w K mg base cl "_law_same" 41 (F_law_same 40)) (dis_weaving : Dn P w K mg base cl "is_weaving" 2 Fis_weaving) (dwoven_row : Dn P w K mg base cl "woven_row" 42 Fwoven_row) (kis_weaving_thing_streams : Dk P w K mg base cl "is_weaving" ["thing", "streams"] [1, 0] 2 Fis_weaving) (kwoven_row_weaving_streams : Dk P w K mg base cl "woven_row" ["weaving", "streams"] [1, 0] 42 Fwoven_row) : FnOk P w K mg base CX0 43 f fd [] (spM ⟨K, cl⟩ F_law_by_hand_right) :=
  fn_defD (k := 42) (N := N_law_by_hand_right) FD sc_law_by_hand_right (ioOf_out (by decide)) (fun cdv A outer s H E hr => b_law_by_hand_right B S hr d_law_lists d_law_same dis_weaving dwoven_row kis_weaving_thing_streams kwoven_row_weaving_streams)
theorem d_law_by_hand_right {P : Program} {w : World} {K : PySem.W.Frag} {mg : Str → Option Value} {base : Heap} {cl : Nat → Addr} (B : Blt mg) (S : Gs mg) {f : Addr} {fd : FuncData} (FD : FnP K "_law_by_hand_right" "_law_by_hand_right" (top 20) [] f fd) (hm : mg "_law_by_hand_right" = some (.ref f)) (d_law_lists : Dn P w K mg base cl "_law_lists" 41 (F_law_lists 40)) (d_law_same : Dn P w K mg base cl "_law_same" 41 (F_law_same 40)) (dis_weaving : Dn P w K mg base cl "is_weaving" 2 Fis_weaving) (dwoven_row : Dn P w K mg base cl "woven_row" 42 Fwoven_row) (kis_weaving_thing_streams : Dk P w K mg base cl "is_weaving" ["thing", "streams"] [1, 0] 2 Fis_weaving) (kwoven_row_weaving_streams : Dk P w K mg base cl "woven_row" ["weaving", "streams"] [1, 0] 42 Fwoven_row) : Dn P w K mg base cl "_law_by_hand_right" 43 F_law_by_hand_right :=
  ⟨f, fd, [], o_law_by_hand_right B S FD d_law_lists d_law_same dis_weaving dwoven_row kis_weaving_thing_streams kwoven_row_weaving_streams, hm, FD.kp, FD.bindsN fun _ _ _ _ _ _ us hl => match us, hl with | [], _ => rfl⟩
abbrev N_law_cells : List Str := ["_law_script", "_law_top_so", "_law_cells_so", "_law_k", "_law_cell", "_law_at_so"]
theorem sc_law_cells : FnScope N_law_cells ["_law_script", "_law_top_so"] (defScope (top 9)) := ⟨rfl, rfl, rfl, by decide +kernel, rfl, by decide +kernel, by decide +kernel⟩
def L_law_cells_1 (ρ : En) : Res (Fl × En) := (cSeq
  (cAsg (gSet 5) (cBin fMod true (cCallB fInt (cCons true (cVar 3) cNil)) (cVar 1)))
  (cAsg (gSub true (cVar 2) (cVar 5)) (cBin fAdd true (cBin fIdx true (cVar 2) (cVar 5)) (cBin fMul true (cVar 4) (cBin fAdd true (cVar 3) (cC (.int 2))))))) ρ
def m_law_cells : CS := (cSeq
  (cAsg (gSet 2) (cOrL (cCallB fList (cCons true (cSl fSl true (cVar 0) oNone (oSome (cVar 1))) cNil)) (cLst true (cCons true (cC (.int 0)) cNil))))
  (cSeq
  (cFor (iEnumM (cSl fSl true (cVar 0) (oSome (cVar 1)) (oSome (cC (.int 63))))) (gUnp (gsCons (gSet 3) (gsCons (gSet 4) gsNil))) L_law_cells_1)
  (cRet (cVar 2))))
def F_law_cells : Fn := runDef 2 6 (ioOf []) m_law_cells
theorem b_law_cells {P : Program} {w : World} {K : PySem.W.Frag} {mg : Str → Option Value} {base : Heap} {cl : Nat → Addr} (B : Blt mg) (S : Gs mg) {f : Addr} {cdv : Value} {A : Around} {outer : List Env} {s : Shared} {H : Hp} {E : XK} (hr : Room 0 (A.deeper (envOfC "_law_cells" (defScope (top 9)) s.heap.objs.size f cdv)))  : SSs (BX P w K mg base N_law_cells "_law_cells" (defScope (top 9)) f cdv A outer s H E) cl (ioOf []) (defBody (top 9)) m_law_cells :=
  (sss_cons
  (ss_asg (q := true) (se_orL (qa := true) (qb := true) (dList (qb := true) rfl B.list (sb_cons (qa := true) (qb := true) (dSl (qa := true) (ql := true) (qh := true) (dv 0) so_none (so_some (qa := true) (dv 1))) sb_nil)) (se_one (qa := true) (se_lst (qb := true) (qd := true) (sb_cons (qa := true) (qb := true) se_int sb_nil)))) (sg_name (i := 2) sc_law_cells.nd rfl (by first | exact .inl rfl | exact .inr rfl) rfl))
  (sss_cons
  (ss_for PassesOwn.never rfl (si_enum (qa := true) rfl B.enumerate (dSl (qa := true) (ql := true) (qh := true) (dv 0) (so_some (qa := true) (dv 1)) (so_some (qa := true) se_int))) (sg_unp rfl (sgs_cons (sg_name (i := 3) sc_law_cells.nd rfl (by first | exact .inl rfl | exact .inr rfl) rfl) (sgs_cons (sg_name (i := 4) sc_law_cells.nd rfl (by first | exact .inl rfl | exact .inr rfl) rfl) sgs_nil)) (gsCons_len (gsCons_len gsNil_len))) (sss_cons
  (ss_asg (q := true) (dMod (qa := true) (qb := true) (dInt (qb := true) rfl B.int (sb_cons (qa := true) (qb := true) (dv 3) sb_nil)) (dv 1)) (sg_name (i := 5) sc_law_cells.nd rfl (by first | exact .inl rfl | exact .inr rfl) rfl))
  (sss_one (ss_asg (q := true) (dAdd (qa := true) (qb := true) (dIx (qa := true) (qb := true) (dv 2) (dv 5)) (dMul (qa := true) (qb := true) (dv 4) (dAdd (qa := true) (qb := true) (dv 3) se_int))) (sg_sub (qo := true) (qi := true) (dv 2) (dv 5))))))
  (sss_one (ss_ret (q := true) (dv 2)))))
theorem o_law_cells {P : Program} {w : World} {K : PySem.W.Frag} {mg : Str → Option Value} {base : Heap} {cl : Nat → Addr} (B : Blt mg) (S : Gs mg) {f : Addr} {fd : FuncData} (FD : FnP K "_law_cells" "_law_cells" (top 9) [] f fd)  : FnOk P w K mg base CX0 1 f fd ["_law_script", "_law_top_so"] (spM ⟨K, cl⟩ F_law_cells) :=
  fn_defD (k := 0) (N := N_law_cells) FD sc_law_cells (ioOf_out (by decide)) (fun cdv A outer s H E hr => b_law_cells B S hr )
theorem d_law_cells {P : Program} {w : World} {K : PySem.W.Frag} {mg : Str → Option Value} {base : Heap} {cl : Nat → Addr} (B : Blt mg) (S : Gs mg) {f : Addr} {fd : FuncData} (FD : FnP K "_law_cells" "_law_cells" (top 9) [] f fd) (hm : mg "_law_cells" = some (.ref f))  : Dn P w K mg base cl "_law_cells" 1 F_law_cells :=
  ⟨f, fd, ["_law_script", "_law_top_so"], o_law_cells B S FD , hm, FD.kp, FD.bindsN fun _ _ _ _ _ _ us hl => match us, hl with | [_, _], _ => rfl⟩
abbrev N_law_take : List Str := ["_law_box_here", "_law_size_so", "_law_once", "_law_far", "_law_again", "_law_some"]
theorem sc_law_take : FnScope N_law_take ["_law_box_here", "_law_size_so"] (defScope (top 8)) := ⟨rfl, rfl, rfl, by decide +kernel, rfl, by decide +kernel, by decide +kernel⟩
def m_law_take : CS := (cSeq
  (cIfS (cTest (cBin fGt true (cBin fIdx true (cVar 0) (cC (.int 0))) (cC (.int 0)))) (cSeq
  (cAsg (gSet 5) (cBin fMod true (cCallB fInt (cCons true (cBin fIdx true (cVar 0) (cC (.int 0))) cNil)) (cVar 1)))
  (cSeq
  (cAsg (gSub true (cVar 0) (cC (.int 0))) (cBin fDiv true (cBin fIdx true (cVar 0) (cC (.int 0))) (cVar 1)))
  (cRet (cVar 5)))) cNext)
  (cSeq
  (cAsg (gSub true (cVar 0) (cC (.int 2))) (cBin fAdd true (cBin fIdx true (cVar 0) (cC (.int 2))) (cC (.int 1))))
  (cSeq
  (cAsg (gSet 2) (cBin fMod true (cCallB fInt (cCons true (cBin fMul true (cBin fAdd true (cBin fIdx true (cVar 0) (cC (.int 1))) (cBin fMul true (cC (.int 48271)) (cBin fIdx true (cVar 0) (cC (.int 2))))) (cBin fAdd true (cC (.int 39373)) (cBin fIdx true (cVar 0) (cC (.int 2))))) cNil)) (cC (.int 2147483647))))
  (cSeq
  (cAsg (gSet 3) (cBin fAdd true (cBin fMod true (cCallB fInt (cCons true (cVar 2) cNil)) (cC (.int 40009))) (cC (.int 7))))
  (cSeq
  (cAsg (gSet 4) (cBin fMod true (cCallB fInt (cCons true (cBin fMul true (cBin fAdd true (cBin fAdd true (cVar 2) (cBin fIdx true (cVar 0) (cC (.int 2)))) (cBin fDiv true (cBin fIdx true (cVar 0) (cC (.int 1))) (cC (.int 1000003)))) (cVar 3)) cNil)) (cC (.int 2147483629))))
  (cRet (cBin fMod true (cCallB fInt (cCons true (cBin fDiv true (cBin fMod true (cCallB fInt (cCons true (cBin fAdd true (cBin fMul true (cVar 4) (cC (.int 48271))) (cVar 2)) cNil)) (cC (.int 2147483587))) (cC (.int 64))) cNil)) (cVar 1))))))))
def F_law_take : Fn := runDef 2 6 (ioOf [0]) m_law_take
theorem b_law_take {P : Program} {w : World} {K : PySem.W.Frag} {mg : Str → Option Value} {base : Heap} {cl : Nat → Addr} (B : Blt mg) (S : Gs mg) {f : Addr} {cdv : Value} {A : Around} {outer : List Env} {s : Shared} {H : Hp} {E : XK} (hr : Room 0 (A.deeper (envOfC "_law_take" (defScope (top 8)) s.heap.objs.size f cdv)))  : SSs (BX P w K mg base N_law_take "_law_take" (defScope (top 8)) f cdv A outer s H E) cl (ioOf [0]) (defBody (top 8)) m_law_take :=
  (sss_cons
  (ss_if (q := true) (tGt' (qa := true) (qb := true) (dIx (qa := true) (qb := true) (dv 0) se_int) se_int) (sss_cons
  (ss_asg (q := true) (dMod (qa := true) (qb := true) (dInt (qb := true) rfl B.int (sb_cons (qa := true) (qb := true) (dIx (qa := true) (qb := true) (dv 0) se_int) sb_nil)) (dv 1)) (sg_name (i := 5) sc_law_take.nd rfl (by first | exact .inl rfl | exact .inr rfl) rfl))
  (sss_cons
  (ss_asg (q := true) (dDiv (qa := true) (qb := true) (dIx (qa := true) (qb := true) (dv 0) se_int) (dv 1)) (sg_sub (qo := true) (qi := true) (dv 0) se_int))
  (sss_one (ss_ret (q := true) (dv 5))))) sss_nil)
  (sss_cons
  (ss_asg (q := true) (dAdd (qa := true) (qb := true) (dIx (qa := true) (qb := true) (dv 0) se_int) se_int) (sg_sub (qo := true) (qi := true) (dv 0) se_int))
  (sss_cons
  (ss_asg (q := true) (dMod (qa := true) (qb := true) (dInt (qb := true) rfl B.int (sb_cons (qa := true) (qb := true) (dMul (qa := true) (qb := true) (dAdd (qa := true) (qb := true) (dIx (qa := true) (qb := true) (dv 0) se_int) (dMul (qa := true) (qb := true) se_int (dIx (qa := true) (qb := true) (dv 0) se_int))) (dAdd (qa := true) (qb := true) se_int (dIx (qa := true) (qb := true) (dv 0) se_int))) sb_nil)) se_int) (sg_name (i := 2) sc_law_take.nd rfl (by first | exact .inl rfl | exact .inr rfl) rfl))
  (sss_cons
  (ss_asg (q := true) (dAdd (qa := true) (qb := true) (dMod (qa := true) (qb := true) (dInt (qb := true) rfl B.int (sb_cons (qa := true) (qb := true) (dv 2) sb_nil)) se_int) se_int) (sg_name (i := 3) sc_law_take.nd rfl (by first | exact .inl rfl | exact .inr rfl) rfl))
  (sss_cons
  (ss_asg (q := true) (dMod (qa := true) (qb := true) (dInt (qb := true) rfl B.int (sb_cons (qa := true) (qb := true) (dMul (qa := true) (qb := true) (dAdd (qa := true) (qb := true) (dAdd (qa := true) (qb := true) (dv 2) (dIx (qa := true) (qb := true) (dv 0) se_int)) (dDiv (qa := true) (qb := true) (dIx (qa := true) (qb := true) (dv 0) se_int) se_int)) (dv 3)) sb_nil)) se_int) (sg_name (i := 4) sc_law_take.nd rfl (by first | exact .inl rfl | exact .inr rfl) rfl))
  (sss_one (ss_ret (q := true) (dMod (qa := true) (qb := true) (dInt (qb := true) rfl B.int (sb_cons (qa := true) (qb := true) (dDiv (qa := true) (qb := true) (dMod (qa := true) (qb := true) (dInt (qb := true) rfl B.int (sb_cons (qa := true) (qb := true) (dAdd (qa := true) (qb := true) (dMul (qa := true) (qb := true) (dv 4) se_int) (dv 2)) sb_nil)) se_int) se_int) sb_nil)) (dv 1)))))))))
theorem o_law_take {P : Program} {w : World} {K : PySem.W.Frag} {mg : Str → Option Value} {base : Heap} {cl : Nat → Addr} (B : Blt mg) (S : Gs mg) {f : Addr} {fd : FuncData} (FD : FnP K "_law_take" "_law_take" (top 8) [] f fd)  : FnOk P w K mg base CX0 1 f fd ["_law_box_here", "_law_size_so"] (spM ⟨K, cl⟩ F_law_take) :=
  fn_defD (k := 0) (N := N_law_take) FD sc_law_take (ioOf_out (by decide)) (fun cdv A outer s H E hr => b_law_take B S hr )
theorem d_law_take {P : Program} {w : World} {K : PySem.W.Frag} {mg : Str → Option Value} {base : Heap} {cl : Nat → Addr} (B : Blt mg) (S : Gs mg) {f : Addr} {fd : FuncData} (FD : FnP K "_law_take" "_law_take" (top 8) [] f fd) (hm : mg "_law_take" = some (.ref f))  : Dn P w K mg base cl "_law_take" 1 F_law_take :=
  ⟨f, fd, ["_law_box_here", "_law_size_so"], o_law_take B S FD , hm, FD.kp, FD.bindsN fun _ _ _ _ _ _ us hl => match us, hl with | [_, _], _ => rfl⟩
abbrev N_law_of : List Str := ["_law_box_here", "_law_goods_so"]
theorem sc_law_of : FnScope N_law_of ["_law_box_here", "_law_goods_so"] (defScope (top 10)) := ⟨rfl, rfl, rfl, by decide +kernel, rfl, by decide +kernel, by decide +kernel⟩
def m_law_of : CS := (cRet (cBin fIdx false (cVar 1) (cCallIO F_law_take (ioOf [0]) (cCons true (cVar 0) (cCons true (cCallB fLen (cCons true (cVar 1) cNil)) cNil)))))
def F_law_of : Fn := runDef 2 2 (ioOf [0]) m_law_of
theorem b_law_of {P : Program} {w : World} {K : PySem.W.Frag} {mg : Str → Option Value} {base : Heap} {cl : Nat → Addr} (B : Blt mg) (S : Gs mg) {f : Addr} {cdv : Value} {A : Around} {outer : List Env} {s : Shared} {H : Hp} {E : XK} (hr : Room 1 (A.deeper (envOfC "_law_of" (defScope (top 10)) s.heap.objs.size f cdv))) (d_law_take : Dn P w K mg base cl "_law_take" 1 F_law_take) : SSs (BX P w K mg base N_law_of "_law_of" (defScope (top 10)) f cdv A outer s H E) cl (ioOf [0]) (defBody (top 10)) m_law_of :=
  (sss_one (ss_ret (q := false) (dIx (qa := true) (qb := false) (dv 1) (se_callIO (qb := true) (io := (ioOf [0])) (d_law_take.fm hr (by decide)) rfl (sb_cons (qa := true) (qb := true) (dv 0) (sb_cons (qa := true) (qb := true) (dLen (qb := true) rfl B.len (sb_cons (qa := true) (qb := true) (dv 1) sb_nil)) sb_nil))))))
theorem o_law_of {P : Program} {w : World} {K : PySem.W.Frag} {mg : Str → Option Value} {base : Heap} {cl : Nat → Addr} (B : Blt mg) (S : Gs mg) {f : Addr} {fd : FuncData} (FD : FnP K "_law_of" "_law_of" (top 10) [] f fd) (d_law_take : Dn P w K mg base cl "_law_take" 1 F_law_take) : FnOk P w K mg base CX0 2 f fd ["_law_box_here", "_law_goods_so"] (spM ⟨K, cl⟩ F_law_of) :=
  fn_defD (k := 1) (N := N_law_of) FD sc_law_of (ioOf_out (by decide)) (fun cdv A outer s H E hr => b_law_of B S hr d_law_take)
theorem d_law_of {P : Program} {w : World} {K : PySem.W.Frag} {mg : Str → Option Value} {base : Heap} {cl : Nat → Addr} (B : Blt mg) (S : Gs mg) {f : Addr} {fd : FuncData} (FD : FnP K "_law_of" "_law_of" (top 10) [] f fd) (hm : mg "_law_of" = some (.ref f)) (d_law_take : Dn P w K mg base cl "_law_take" 1 F_law_take) : Dn P w K mg base cl "_law_of" 2 F_law_of :=
  ⟨f, fd, ["_law_box_here", "_law_goods_so"], o_law_of B S FD d_law_take, hm, FD.kp, FD.bindsN fun _ _ _ _ _ _ us hl => match us, hl with | [_, _], _ => rfl⟩
abbrev N_law_bent : List Str := ["_law_box_here", "_law_own_so", "_law_spot_so", "_law_way_so", "_law_bits", "_law_own"]
theorem sc_law_bent : FnScope N_law_bent ["_law_box_here", "_law_own_so"] (defScope (top 19)) := ⟨rfl, rfl, rfl, by decide +kernel, rfl, by decide +kernel, by decide +kernel⟩
def E_law_bent_1 (ρ : En) : Res (B × En) := (cCallB fStr (cCons true (cVar 5) cNil)) ρ
def m_law_bent : CS := (cSeq
  (cPar2 3 4 (cCons true (cCallIO F_law_take (ioOf [0]) (cCons true (cVar 0) (cCons true (cC (.int 8)) cNil))) (cCons true (cCallB fList (cCons true (cUnk (cVar 1)) cNil)) cNil)))
  (cSeq
  (cAsg (gSet 2) (cCallIO F_law_take (ioOf [0]) (cCons true (cVar 0) (cCons true (cBin fAdd true (cCallB fLen (cCons true (cVar 4) cNil)) (cC (.int 1))) cNil))))
  (cSeq
  (cIfS (cTest (cBin fEq true (cVar 3) (cC (.int 0)))) (cAsg (gSet 4) (cBin fAdd true (cBin fAdd false (cSl fSl true (cVar 4) oNone (oSome (cVar 2))) (cLst true (cCons true (cCallIO F_law_of (ioOf [0]) (cCons true (cVar 0) (cCons true (cLst true (cCons true (cC (.int 0)) (cCons true (cC (.int 1)) (cCons true (cC (.int 2)) (cCons true (cC (.int 3)) (cCons true (cUn fNeg (cC (.int 1))) (cCons true (cC (.bl true)) (cCons true (cC .non) (cCons true (cC (.str "0")) cNil))))))))) cNil))) cNil))) (cSl fSl true (cVar 4) (oSome (cVar 2)) oNone))) (cIfS (cTest (cBin fEq true (cVar 3) (cC (.int 1)))) (cAsg (gSet 4) (cBin fAdd true (cSl fSl true (cVar 4) oNone (oSome (cVar 2))) (cSl fSl true (cVar 4) (oSome (cBin fAdd true (cVar 2) (cC (.int 1)))) oNone))) (cIfS (cTest (cBin fEq true (cVar 3) (cC (.int 2)))) (cAsg (gSet 4) (cBin fAdd true (cBin fAdd false (cSl fSl true (cVar 4) oNone (oSome (cVar 2))) (cLst true (cCons true (cCallIO F_law_of (ioOf [0]) (cCons true (cVar 0) (cCons true (cLst true (cCons true (cC (.int 0)) (cCons true (cC (.int 1)) (cCons true (cC (.int 2)) (cCons true (cC (.bl false)) cNil))))) cNil))) cNil))) (cSl fSl true (cVar 4) (oSome (cBin fAdd true (cVar 2) (cC (.int 1)))) oNone))) (cIfS (cTest (cBin fEq true (cVar 3) (cC (.int 3)))) (cAsg (gSet 4) (cUn fRev (cVar 4))) (cIfS (cTest (cBin fEq true (cVar 3) (cC (.int 4)))) (cRet (cCallIO F_law_of (ioOf [0]) (cCons false (cVar 0) (cCons true (cLst false (cCons false (cVar 4) (cCons false (cC .non) (cCons false (cC (.int 0)) (cCons false (cC (.str "")) (cCons false (cTup false (cCons true (cUnk (cVar 1)) cNil)) (cCons true (cJoin (cC (.str "")) (cLc [5] (iSeq (cVar 4)) (gSet 5) cYes E_law_bent_1)) cNil))))))) cNil)))) cNext)))))
  (cRet (cCallB fTupleN (cCons true (cVar 4) cNil))))))
def F_law_bent : Fn := runDef 2 6 (ioOf [0]) m_law_bent
theorem b_law_bent {P : Program} {w : World} {K : PySem.W.Frag} {mg : Str → Option Value} {base : Heap} {cl : Nat → Addr} (B : Blt mg) (S : Gs mg) {f : Addr} {cdv : Value} {A : Around} {outer : List Env} {s : Shared} {H : Hp} {E : XK} (hr : Room 2 (A.deeper (envOfC "_law_bent" (defScope (top 19)) s.heap.objs.size f cdv))) (d_law_of : Dn P w K mg base cl "_law_of" 2 F_law_of) (d_law_take : Dn P w K mg base cl "_law_take" 1 F_law_take) : SSs (BX P w K mg base N_law_bent "_law_bent" (defScope (top 19)) f cdv A outer s H E) cl (ioOf [0]) (defBody (top 19)) m_law_bent :=
  (sss_cons
  (ss_par2 (i := 3) (j := 4) (qb := false) rfl sc_law_bent.nd rfl rfl (by decide) rfl rfl rfl rfl (sb_cons (qa := false) (qb := true) (se_callIO (qb := true) (io := (ioOf [0])) (d_law_take.fm hr (by decide)) rfl (sb_cons (qa := true) (qb := true) (dv 0) (sb_cons (qa := true) (qb := true) se_int sb_nil))) (sb_cons (qa := true) (qb := true) (dList (qb := true) rfl B.list (sb_cons (qa := true) (qb := true) (se_unk (dv 1)) sb_nil)) sb_nil)) rfl)
  (sss_cons
  (ss_asg (q := false) (se_callIO (qb := true) (io := (ioOf [0])) (d_law_take.fm hr (by decide)) rfl (sb_cons (qa := true) (qb := true) (dv 0) (sb_cons (qa := true) (qb := true) (dAdd (qa := true) (qb := true) (dLen (qb := true) rfl B.len (sb_cons (qa := true) (qb := true) (dv 4) sb_nil)) se_int) sb_nil))) (sg_name (i := 2) sc_law_bent.nd rfl (by first | exact .inl rfl | exact .inr rfl) rfl))
  (sss_cons
  (ss_if (q := true) (tEq' (qa := true) (qb := true) hr.units (dv 3) se_int) (sss_one (ss_asg (q := false) (dAdd (qa := false) (qb := true) (dAdd (qa := true) (qb := false) (dSl (qa := true) (ql := true) (qh := true) (dv 4) so_none (so_some (qa := true) (dv 2))) (se_lst (qb := false) (qd := true) (sb_cons (qa := false) (qb := true) (se_callIO (qb := true) (io := (ioOf [0])) (d_law_of.fm hr (by decide)) rfl (sb_cons (qa := true) (qb := true) (dv 0) (sb_cons (qa := true) (qb := true) (se_lst (qb := true) (qd := true) (sb_cons (qa := true) (qb := true) se_int (sb_cons (qa := true) (qb := true) se_int (sb_cons (qa := true) (qb := true) se_int (sb_cons (qa := true) (qb := true) se_int (sb_cons (qa := true) (qb := true) (dNeg (qa := true) se_int) (sb_cons (qa := true) (qb := true) se_bl (sb_cons (qa := true) (qb := true) se_non (sb_cons (qa := true) (qb := true) se_str sb_nil))))))))) sb_nil))) sb_nil))) (dSl (qa := true) (ql := true) (qh := true) (dv 4) (so_some (qa := true) (dv 2)) so_none)) (sg_name (i := 4) sc_law_bent.nd rfl (by first | exact .inl rfl | exact .inr rfl) rfl))) (sss_one (ss_if (q := true) (tEq' (qa := true) (qb := true) hr.units (dv 3) se_int) (sss_one (ss_asg (q := true) (dAdd (qa := true) (qb := true) (dSl (qa := true) (ql := true) (qh := true) (dv 4) so_none (so_some (qa := true) (dv 2))) (dSl (qa := true) (ql := true) (qh := true) (dv 4) (so_some (qa := true) (dAdd (qa := true) (qb := true) (dv 2) se_int)) so_none)) (sg_name (i := 4) sc_law_bent.nd rfl (by first | exact .inl rfl | exact .inr rfl) rfl))) (sss_one (ss_if (q := true) (tEq' (qa := true) (qb := true) hr.units (dv 3) se_int) (sss_one (ss_asg (q := false) (dAdd (qa := false) (qb := true) (dAdd (qa := true) (qb := false) (dSl (qa := true) (ql := true) (qh := true) (dv 4) so_none (so_some (qa := true) (dv 2))) (se_lst (qb := false) (qd := true) (sb_cons (qa := false) (qb := true) (se_callIO (qb := true) (io := (ioOf [0])) (d_law_of.fm hr (by decide)) rfl (sb_cons (qa := true) (qb := true) (dv 0) (sb_cons (qa := true) (qb := true) (se_lst (qb := true) (qd := true) (sb_cons (qa := true) (qb := true) se_int (sb_cons (qa := true) (qb := true) se_int (sb_cons (qa := true) (qb := true) se_int (sb_cons (qa := true) (qb := true) se_bl sb_nil))))) sb_nil))) sb_nil))) (dSl (qa := true) (ql := true) (qh := true) (dv 4) (so_some (qa := true) (dAdd (qa := true) (qb := true) (dv 2) se_int)) so_none)) (sg_name (i := 4) sc_law_bent.nd rfl (by first | exact .inl rfl | exact .inr rfl) rfl))) (sss_one (ss_if (q := true) (tEq' (qa := true) (qb := true) hr.units (dv 3) se_int) (sss_one (ss_asg (q := true) (dRev (qa := true) (dv 4)) (sg_name (i := 4) sc_law_bent.nd rfl (by first | exact .inl rfl | exact .inr rfl) rfl))) (sss_one (ss_if (q := true) (tEq' (qa := true) (qb := true) hr.units (dv 3) se_int) (sss_one (ss_ret (q := false) (se_callIO (qb := false) (io := (ioOf [0])) (d_law_of.fm hr (by decide)) rfl (sb_cons (qa := true) (qb := false) (dv 0) (sb_cons (qa := false) (qb := true) (se_lst (qb := false) (qd := false) (sb_cons (qa := true) (qb := false) (dv 4) (sb_cons (qa := true) (qb := false) se_non (sb_cons (qa := true) (qb := false) se_int (sb_cons (qa := true) (qb := false) se_str (sb_cons (qa := false) (qb := false) (se_tup (qb := true) (qd := false) (sb_cons (qa := true) (qb := true) (se_unk (dv 1)) sb_nil)) (sb_cons (qa := false) (qb := true) (dJoin (qa := true) (qb := false) se_str (se_lc (own := [("_law_own", 5)]) (qt := true) (qe := true) rfl sc_law_bent.nd (si_seq (qa := true) (dv 4)) (blkOk_by (by kernel_rfl)) (fun s H A l fp => (sg_name (i := 5) sc_law_bent.nd rfl (by first | exact .inl rfl | exact .inr rfl) rfl)) (fun s H A l fp => sts_nil) (fun s H A l fp => (dStr (qb := true) rfl B.str (sb_cons (qa := true) (qb := true) (dv 5) sb_nil))))) sb_nil))))))) sb_nil))))) sss_nil)))))))))
  (sss_one (ss_ret (q := true) (dTupleN (qb := true) rfl B.tuple (sb_cons (qa := true) (qb := true) (dv 4) sb_nil)))))))
theorem o_law_bent {P : Program} {w : World} {K : PySem.W.Frag} {mg : Str → Option Value} {base : Heap} {cl : Nat → Addr} (B : Blt mg) (S : Gs mg) {f : Addr} {fd : FuncData} (FD : FnP K "_law_bent" "_law_bent" (top 19) [] f fd) (d_law_of : Dn P w K mg base cl "_law_of" 2 F_law_of) (d_law_take : Dn P w K mg base cl "_law_take" 1 F_law_take) : FnOk P w K mg base CX0 3 f fd ["_law_box_here", "_law_own_so"] (spM ⟨K, cl⟩ F_law_bent) :=
  fn_defD (k := 2) (N := N_law_bent) FD sc_law_bent (ioOf_out (by decide)) (fun cdv A outer s H E hr => b_law_bent B S hr d_law_of d_law_take)
theorem d_law_bent {P : Program} {w : World} {K : PySem.W.Frag} {mg : Str → Option Value} {base : Heap} {cl : Nat → Addr} (B : Blt mg) (S : Gs mg) {f : Addr} {fd : FuncData} (FD : FnP K "_law_bent" "_law_bent" (top 19) [] f fd) (hm : mg "_law_bent" = some (.ref f)) (d_law_of : Dn P w K mg base cl "_law_of" 2 F_law_of) (d_law_take : Dn P w K mg base cl "_law_take" 1 F_law_take) : Dn P w K mg base cl "_law_bent" 3 F_law_bent :=
  ⟨f, fd, ["_law_box_here", "_law_own_so"], o_law_bent B S FD d_law_of d_law_take, hm, FD.kp, FD.bindsN fun _ _ _ _ _ _ us hl => match us, hl with | [_, _], _ => rfl⟩
abbrev N_law_is_meant : List Str := ["_law_rows_so", "_law_mat_so", "_law_sizes_so", "_law_row", "_law_own", "_law_k"]
theorem sc_law_is_meant : FnScope N_law_is_meant ["_law_rows_so", "_law_mat_so"] (defScope (top 18)) := ⟨rfl, rfl, rfl, by decide +kernel, rfl, by decide +kernel, by decide +kernel⟩
def E_law_is_meant_1 (ρ : En) : Res (B × En) := (cVar 4) ρ
def T_law_is_meant_1 (ρ : En) : Res (Bool × En) := (cOrT (cNotT (cTest (cUn (fIsi ["int"]) (cVar 4)))) (cTest (cUn (fIsi ["bool"]) (cVar 4)))) ρ
def E_law_is_meant_2 (ρ : En) : Res (B × En) := (cCallB fLen (cCons true (cVar 3) cNil)) ρ
def E_law_is_meant_3 (ρ : En) : Res (B × En) := (cTCnt true (cVar 1) (cVar 5)) ρ
def m_law_is_meant : CS := (cSeq
  (cIfS (cNotT (cTest (cUn (fIsi ["tuple"]) (cUnk (cVar 1))))) (cRet (cC (.bl false))) cNext)
  (cSeq
  (cIfS (cTest (cBin fNe true (cLc [4] (iSeq (cUnk (cVar 1))) (gSet 4) T_law_is_meant_1 E_law_is_meant_1) (cLst true cNil))) (cRet (cC (.bl false))) cNext)
  (cSeq
  (cAsg (gSet 2) (cLc [3] (iSeq (cVar 0)) (gSet 3) cYes E_law_is_meant_2))
  (cRet (cAnd (cBin fEq true (cCallB fLen (cCons true (cUnk (cVar 1)) cNil)) (cCallB fSum (cCons true (cVar 2) cNil))) (cBin fEq true (cLc [5] (iRange1 (cCallB fLen (cCons true (cVar 2) cNil))) (gSet 5) cYes E_law_is_meant_3) (cVar 2)))))))
def F_law_is_meant : Fn := runDef 2 6 (ioOf []) m_law_is_meant
theorem b_law_is_meant {P : Program} {w : World} {K : PySem.W.Frag} {mg : Str → Option Value} {base : Heap} {cl : Nat → Addr} (B : Blt mg) (S : Gs mg) {f : Addr} {cdv : Value} {A : Around} {outer : List Env} {s : Shared} {H : Hp} {E : XK} (hr : Room 0 (A.deeper (envOfC "_law_is_meant" (defScope (top 18)) s.heap.objs.size f cdv)))  : SSs (BX P w K mg base N_law_is_meant "_law_is_meant" (defScope (top 18)) f cdv A outer s H E) cl (ioOf []) (defBody (top 18)) m_law_is_meant :=
  (sss_cons
  (ss_if (q := true) (st_not (qa := true) (st_val (qa := true) (se_isi1 (qa := true) rfl B.isinstance (tyTuple rfl B.tuple) (by decide) (se_unk (dv 1))))) (sss_one (ss_ret (q := true) se_bl)) sss_nil)
  (sss_cons
  (ss_if (q := false) (tNe' (qa := false) (qb := true) hr.units (se_lc (own := [("_law_own", 4)]) (qt := true) (qe := true) rfl sc_law_is_meant.nd (si_seq (qa := true) (se_unk (dv 1))) (blkOk_by (by kernel_rfl)) (fun s H A l fp => (sg_name (i := 4) sc_law_is_meant.nd rfl (by first | exact .inl rfl | exact .inr rfl) rfl)) (fun s H A l fp => (sts_one (qt := true) (SW.st (qa := true) (sw_or (qa := true) (qb := true) (st_not (qa := true) (st_val (qa := true) (se_isi1 (qa := true) rfl B.isinstance (tyInt rfl B.int) (by decide) (dv 4)))) (sw_or1 (qa := true) (st_val (qa := true) (se_isi1 (qa := true) rfl B.isinstance (tyBool rfl B.bool) (by decide) (dv 4)))))))) (fun s H A l fp => (dv 4))) (se_lst (qb := true) (qd := true) sb_nil)) (sss_one (ss_ret (q := true) se_bl)) sss_nil)
  (sss_cons
  (ss_setLc (i := 2) (own := [("_law_row", 3)]) (qt := true) (qe := true) rfl sc_law_is_meant.nd rfl rfl rfl (sw_true rfl rfl rfl (by decide +kernel)) (si_seq (qa := true) (dv 0)) (blkOk_by (by kernel_rfl)) (fun s H A l fp => (sg_name (i := 3) sc_law_is_meant.nd rfl (by first | exact .inl rfl | exact .inr rfl) rfl)) (fun s H A l fp => sts_nil) (fun s H A l fp => (dLen (qb := true) rfl B.len (sb_cons (qa := true) (qb := true) (dv 3) sb_nil))))
  (sss_one (ss_ret (q := false) (se_and (qa := true) (qb := false) (dEq (qa := true) (qb := true) hr.units (dLen (qb := true) rfl B.len (sb_cons (qa := true) (qb := true) (se_unk (dv 1)) sb_nil)) (dSum (qb := true) rfl rfl B.sum (sb_cons (qa := true) (qb := true) (dv 2) sb_nil))) (se_one (qa := false) (dEq (qa := false) (qb := true) hr.units (se_lc (own := [("_law_k", 5)]) (qt := true) (qe := true) rfl sc_law_is_meant.nd (si_range1 (qa := true) rfl B.range (dLen (qb := true) rfl B.len (sb_cons (qa := true) (qb := true) (dv 2) sb_nil))) (blkOk_by (by kernel_rfl)) (fun s H A l fp => (sg_name (i := 5) sc_law_is_meant.nd rfl (by first | exact .inl rfl | exact .inr rfl) rfl)) (fun s H A l fp => sts_nil) (fun s H A l fp => (se_cnt (qa := true) (qb := true) (dv 1) (dv 5)))) (dv 2)))))))))
theorem o_law_is_meant {P : Program} {w : World} {K : PySem.W.Frag} {mg : Str → Option Value} {base : Heap} {cl : Nat → Addr} (B : Blt mg) (S : Gs mg) {f : Addr} {fd : FuncData} (FD : FnP K "_law_is_meant" "_law_is_meant" (top 18) [] f fd)  : FnOk P w K mg base CX0 1 f fd ["_law_rows_so", "_law_mat_so"] (spM ⟨K, cl⟩ F_law_is_meant) :=
  fn_defD (k := 0) (N := N_law_is_meant) FD sc_law_is_meant (ioOf_out (by decide)) (fun cdv A outer s H E hr => b_law_is_meant B S hr )
theorem d_law_is_meant {P : Program} {w : World} {K : PySem.W.Frag} {mg : Str → Option Value} {base : Heap} {cl : Nat → Addr} (B : Blt mg) (S : Gs mg) {f : Addr} {fd : FuncData} (FD : FnP K "_law_is_meant" "_law_is_meant" (top 18) [] f fd) (hm : mg "_law_is_meant" = some (.ref f))  : Dn P w K mg base cl "_law_is_meant" 1 F_law_is_meant :=
  ⟨f, fd, ["_law_rows_so", "_law_mat_so"], o_law_is_meant B S FD , hm, FD.kp, FD.bindsN fun _ _ _ _ _ _ us hl => match us, hl with | [_, _], _ => rfl⟩
abbrev N_law_made : List Str := ["_law_rows_so", "_law_way_so", "_law_number", "_law_found", "_law_at_so"]
theorem sc_law_made : FnScope N_law_made ["_law_rows_so", "_law_way_so"] (defScope (top 17)) := ⟨rfl, rfl, rfl, by decide +kernel, rfl, by decide +kernel, by decide +kernel⟩
def L_law_made_1 (ρ : En) : Res (Fl × En) := (cSeq
  (cDrop (cApp true (cVar 3) (cBin fIdx true (cBin fIdx true (cVar 0) (cVar 2)) (cBin fIdx true (cVar 4) (cVar 2)))))
  (cAsg (gSub true (cVar 4) (cVar 2)) (cBin fAdd true (cBin fIdx true (cVar 4) (cVar 2)) (cC (.int 1))))) ρ
def m_law_made : CS := (cSeq
  (cPar2 3 4 (cCons true (cLst true cNil) (cCons true (cBin fMul true (cLst true (cCons true (cC (.int 0)) cNil)) (cCallB fLen (cCons true (cVar 0) cNil))) cNil)))
  (cSeq
  (cFor (iSeq (cVar 1)) (gSet 2) L_law_made_1)
  (cRet (cCallB fTuple (cCons true (cVar 3) cNil)))))
def F_law_made : Fn := runDef 2 5 (ioOf []) m_law_made
theorem b_law_made {P : Program} {w : World} {K : PySem.W.Frag} {mg : Str → Option Value} {base : Heap} {cl : Nat → Addr} (B : Blt mg) (S : Gs mg) {f : Addr} {cdv : Value} {A : Around} {outer : List Env} {s : Shared} {H : Hp} {E : XK} (hr : Room 0 (A.deeper (envOfC "_law_made" (defScope (top 17)) s.heap.objs.size f cdv)))  : SSs (BX P w K mg base N_law_made "_law_made" (defScope (top 17)) f cdv A outer s H E) cl (ioOf []) (defBody (top 17)) m_law_made :=
  (sss_cons
  (ss_par2 (i := 3) (j := 4) (qb := true) rfl sc_law_made.nd rfl rfl (by decide) rfl rfl rfl rfl (sb_cons (qa := true) (qb := true) (se_lst (qb := true) (qd := true) sb_nil) (sb_cons (qa := true) (qb := true) (dMul (qa := true) (qb := true) (se_lst (qb := true) (qd := true) (sb_cons (qa := true) (qb := true) se_int sb_nil)) (dLen (qb := true) rfl B.len (sb_cons (qa := true) (qb := true) (dv 0) sb_nil))) sb_nil)) rfl)
  (sss_cons
  (ss_for PassesOwn.never rfl (si_seq (qa := true) (dv 1)) (sg_name (i := 2) sc_law_made.nd rfl (by first | exact .inl rfl | exact .inr rfl) rfl) (sss_cons
  (ss_expr (q := false) (se_append (qo := true) (qa := true) (dv 3) (dIx (qa := true) (qb := true) (dIx (qa := true) (qb := true) (dv 0) (dv 2)) (dIx (qa := true) (qb := true) (dv 4) (dv 2)))))
  (sss_one (ss_asg (q := true) (dAdd (qa := true) (qb := true) (dIx (qa := true) (qb := true) (dv 4) (dv 2)) se_int) (sg_sub (qo := true) (qi := true) (dv 4) (dv 2))))))
  (sss_one (ss_ret (q := true) (dTuple (qb := true) rfl B.tuple (sb_cons (qa := true) (qb := true) (dv 3) sb_nil))))))
theorem o_law_made {P : Program} {w : World} {K : PySem.W.Frag} {mg : Str → Option Value} {base : Heap} {cl : Nat → Addr} (B : Blt mg) (S : Gs mg) {f : Addr} {fd : FuncData} (FD : FnP K "_law_made" "_law_made" (top 17) [] f fd)  : FnOk P w K mg base CX0 1 f fd ["_law_rows_so", "_law_way_so"] (spM ⟨K, cl⟩ F_law_made) :=
  fn_defD (k := 0) (N := N_law_made) FD sc_law_made (ioOf_out (by decide)) (fun cdv A outer s H E hr => b_law_made B S hr )
theorem d_law_made {P : Program} {w : World} {K : PySem.W.Frag} {mg : Str → Option Value} {base : Heap} {cl : Nat → Addr} (B : Blt mg) (S : Gs mg) {f : Addr} {fd : FuncData} (FD : FnP K "_law_made" "_law_made" (top 17) [] f fd) (hm : mg "_law_made" = some (.ref f))  : Dn P w K mg base cl "_law_made" 1 F_law_made :=
  ⟨f, fd, ["_law_rows_so", "_law_way_so"], o_law_made B S FD , hm, FD.kp, FD.bindsN fun _ _ _ _ _ _ us hl => match us, hl with | [_, _], _ => rfl⟩
abbrev N_law_pick : List Str := ["_law_box_here", "_law_goods_so", "_law_count_so", "_law_turn", "_law_pool_so", "_law_found"]
theorem sc_law_pick : FnScope N_law_pick ["_law_box_here", "_law_goods_so", "_law_count_so"] (defScope (top 11)) := ⟨rfl, rfl, rfl, by decide +kernel, rfl, by decide +kernel, by decide +kernel⟩
def L_law_pick_1 (ρ : En) : Res (Fl × En) := (cDrop (cApp false (cVar 5) (cPop 4 (cCallIO F_law_take (ioOf [0]) (cCons true (cVar 0) (cCons true (cCallB fLen (cCons true (cVar 4) cNil)) cNil)))))) ρ
def m_law_pick : CS := (cSeq
  (cPar2 4 5 (cCons true (cCallB fList (cCons true (cVar 1) cNil)) (cCons true (cLst true cNil) cNil)))
  (cSeq
  (cFor (iRange1 (cCallB fMin2 (cCons true (cCallB fInt (cCons true (cVar 2) cNil)) (cCons true (cCallB fLen (cCons true (cVar 4) cNil)) cNil)))) (gSet 3) L_law_pick_1)
  (cRet (cVar 5))))
def F_law_pick : Fn := runDef 3 6 (ioOf [0]) m_law_pick
theorem b_law_pick {P : Program} {w : World} {K : PySem.W.Frag} {mg : Str → Option Value} {base : Heap} {cl : Nat → Addr} (B : Blt mg) (S : Gs mg) {f : Addr} {cdv : Value} {A : Around} {outer : List Env} {s : Shared} {H : Hp} {E : XK} (hr : Room 1 (A.deeper (envOfC "_law_pick" (defScope (top 11)) s.heap.objs.size f cdv))) (d_law_take : Dn P w K mg base cl "_law_take" 1 F_law_take) : SSs (BX P w K mg base N_law_pick "_law_pick" (defScope (top 11)) f cdv A outer s H E) cl (ioOf [0]) (defBody (top 11)) m_law_pick :=
  (sss_cons
  (ss_par2 (i := 4) (j := 5) (qb := true) rfl sc_law_pick.nd rfl rfl (by decide) rfl rfl rfl rfl (sb_cons (qa := true) (qb := true) (dList (qb := true) rfl B.list (sb_cons (qa := true) (qb := true) (dv 1) sb_nil)) (sb_cons (qa := true) (qb := true) (se_lst (qb := true) (qd := true) sb_nil) sb_nil)) rfl)
  (sss_cons
  (ss_for PassesOwn.never rfl (si_range1 (qa := true) rfl B.range (dMin2 (qb := true) rfl rfl B.min (sb_cons (qa := true) (qb := true) (dInt (qb := true) rfl B.int (sb_cons (qa := true) (qb := true) (dv 2) sb_nil)) (sb_cons (qa := true) (qb := true) (dLen (qb := true) rfl B.len (sb_cons (qa := true) (qb := true) (dv 4) sb_nil)) sb_nil)))) (sg_name (i := 3) sc_law_pick.nd rfl (by first | exact .inl rfl | exact .inr rfl) rfl) (sss_one (ss_expr (q := false) (se_append (qo := true) (qa := false) (dv 5) (se_pop (i := 4) (q := false) (dv 4) (se_callIO (qb := true) (io := (ioOf [0])) (d_law_take.fm hr (by decide)) rfl (sb_cons (qa := true) (qb := true) (dv 0) (sb_cons (qa := true) (qb := true) (dLen (qb := true) rfl B.len (sb_cons (qa := true) (qb := true) (dv 4) sb_nil)) sb_nil))))))))
  (sss_one (ss_ret (q := true) (dv 5)))))
theorem o_law_pick {P : Program} {w : World} {K : PySem.W.Frag} {mg : Str → Option Value} {base : Heap} {cl : Nat → Addr} (B : Blt mg) (S : Gs mg) {f : Addr} {fd : FuncData} (FD : FnP K "_law_pick" "_law_pick" (top 11) [] f fd) (d_law_take : Dn P w K mg base cl "_law_take" 1 F_law_take) : FnOk P w K mg base CX0 2 f fd ["_law_box_here", "_law_goods_so", "_law_count_so"] (spM ⟨K, cl⟩ F_law_pick) :=
  fn_defD (k := 1) (N := N_law_pick) FD sc_law_pick (ioOf_out (by decide)) (fun cdv A outer s H E hr => b_law_pick B S hr d_law_take)
theorem d_law_pick {P : Program} {w : World} {K : PySem.W.Frag} {mg : Str → Option Value} {base : Heap} {cl : Nat → Addr} (B : Blt mg) (S : Gs mg) {f : Addr} {fd : FuncData} (FD : FnP K "_law_pick" "_law_pick" (top 11) [] f fd) (hm : mg "_law_pick" = some (.ref f)) (d_law_take : Dn P w K mg base cl "_law_take" 1 F_law_take) : Dn P w K mg base cl "_law_pick" 2 F_law_pick :=
  ⟨f, fd, ["_law_box_here", "_law_goods_so", "_law_count_so"], o_law_pick B S FD d_law_take, hm, FD.kp, FD.bindsN fun _ _ _ _ _ _ us hl => match us, hl with | [_, _, _], _ => rfl⟩
abbrev N_law_event : List Str := ["_law_box_here", "_law_wide", "_law_word_so"]
theorem sc_law_event : FnScope N_law_event ["_law_box_here", "_law_wide"] (defScope (top 14)) := ⟨rfl, rfl, rfl, by decide +kernel, rfl, by decide +kernel, by decide +kernel⟩
def m_law_event : CS := (cSeq
  (cAsg (gSet 2) (cCallIO F_law_of (ioOf [0]) (cCons true (cVar 0) (cCons true (cLst true (cCons true (cC (.str "add")) (cCons true (cC (.str "add")) (cCons true (cC (.str "floor")) (cCons true (cC (.str "cap")) cNil))))) cNil))))
  (cRet (cTup false (cCons false (cVar 2) (cCons true (cBin fSub true (cCallIO F_law_take (ioOf [0]) (cCons true (cVar 0) (cCons true (cBin fAdd true (cBin fMul true (cC (.int 2)) (cVar 1)) (cC (.int 1))) cNil))) (cVar 1)) cNil)))))
def F_law_event : Fn := runDef 2 3 (ioOf [0]) m_law_event
theorem b_law_event {P : Program} {w : World} {K : PySem.W.Frag} {mg : Str → Option Value} {base : Heap} {cl : Nat → Addr} (B : Blt mg) (S : Gs mg) {f : Addr} {cdv : Value} {A : Around} {outer : List Env} {s : Shared} {H : Hp} {E : XK} (hr : Room 2 (A.deeper (envOfC "_law_event" (defScope (top 14)) s.heap.objs.size f cdv))) (d_law_of : Dn P w K mg base cl "_law_of" 2 F_law_of) (d_law_take : Dn P w K mg base cl "_law_take" 1 F_law_take) : SSs (BX P w K mg base N_law_event "_law_event" (defScope (top 14)) f cdv A outer s H E) cl (ioOf [0]) (defBody (top 14)) m_law_event :=
  (sss_cons
  (ss_asg (q := false) (se_callIO (qb := true) (io := (ioOf [0])) (d_law_of.fm hr (by decide)) rfl (sb_cons (qa := true) (qb := true) (dv 0) (sb_cons (qa := true) (qb := true) (se_lst (qb := true) (qd := true) (sb_cons (qa := true) (qb := true) se_str (sb_cons (qa := true) (qb := true) se_str (sb_cons (qa := true) (qb := true) se_str (sb_cons (qa := true) (qb := true) se_str sb_nil))))) sb_nil))) (sg_name (i := 2) sc_law_event.nd rfl (by first | exact .inl rfl | exact .inr rfl) rfl))
  (sss_one (ss_ret (q := false) (se_tup (qb := false) (qd := false) (sb_cons (qa := true) (qb := false) (dv 2) (sb_cons (qa := false) (qb := true) (dSub (qa := false) (qb := true) (se_callIO (qb := true) (io := (ioOf [0])) (d_law_take.fm hr (by decide)) rfl (sb_cons (qa := true) (qb := true) (dv 0) (sb_cons (qa := true) (qb := true) (dAdd (qa := true) (qb := true) (dMul (qa := true) (qb := true) se_int (dv 1)) se_int) sb_nil))) (dv 1)) sb_nil))))))
theorem o_law_event {P : Program} {w : World} {K : PySem.W.Frag} {mg : Str → Option Value} {base : Heap} {cl : Nat → Addr} (B : Blt mg) (S : Gs mg) {f : Addr} {fd : FuncData} (FD : FnP K "_law_event" "_law_event" (top 14) [] f fd) (d_law_of : Dn P w K mg base cl "_law_of" 2 F_law_of) (d_law_take : Dn P w K mg base cl "_law_take" 1 F_law_take) : FnOk P w K mg base CX0 3 f fd ["_law_box_here", "_law_wide"] (spM ⟨K, cl⟩ F_law_event) :=
  fn_defD (k := 2) (N := N_law_event) FD sc_law_event (ioOf_out (by decide)) (fun cdv A outer s H E hr => b_law_event B S hr d_law_of d_law_take)
theorem d_law_event {P : Program} {w : World} {K : PySem.W.Frag} {mg : Str → Option Value} {base : Heap} {cl : Nat → Addr} (B : Blt mg) (S : Gs mg) {f : Addr} {fd : FuncData} (FD : FnP K "_law_event" "_law_event" (top 14) [] f fd) (hm : mg "_law_event" = some (.ref f)) (d_law_of : Dn P w K mg base cl "_law_of" 2 F_law_of) (d_law_take : Dn P w K mg base cl "_law_take" 1 F_law_take) : Dn P w K mg base cl "_law_event" 3 F_law_event :=
  ⟨f, fd, ["_law_box_here", "_law_wide"], o_law_event B S FD d_law_of d_law_take, hm, FD.kp, FD.bindsN fun _ _ _ _ _ _ us hl => match us, hl with | [_, _], _ => rfl⟩
abbrev N_law_grown : List Str := ["_law_row_so", "_law_times_so", "_law_word_so", "_law_far"]
theorem sc_law_grown : FnScope N_law_grown ["_law_row_so", "_law_times_so"] (defScope (top 15)) := ⟨rfl, rfl, rfl, by decide +kernel, rfl, by decide +kernel, by decide +kernel⟩
def E_law_grown_1 (ρ : En) : Res (B × En) := (cTup false (cCons true (cVar 2) (cCons true (cBin fMul true (cVar 3) (cVar 1)) cNil))) ρ
def m_law_grown : CS := (cRet (cCallB fTuple (cCons true (cLc [2, 3] (iSeq (cVar 0)) (gUnp (gsCons (gSet 2) (gsCons (gSet 3) gsNil))) cYes E_law_grown_1) cNil)))
def F_law_grown : Fn := runDef 2 4 (ioOf []) m_law_grown
theorem b_law_grown {P : Program} {w : World} {K : PySem.W.Frag} {mg : Str → Option Value} {base : Heap} {cl : Nat → Addr} (B : Blt mg) (S : Gs mg) {f : Addr} {cdv : Value} {A : Around} {outer : List Env} {s : Shared} {H : Hp} {E : XK} (hr : Room 0 (A.deeper (envOfC "_law_grown" (defScope (top 15)) s.heap.objs.size f cdv)))  : SSs (BX P w K mg base N_law_grown "_law_grown" (defScope (top 15)) f cdv A outer s H E) cl (ioOf []) (defBody (top 15)) m_law_grown :=
  (sss_one (ss_ret (q := false) (dTuple (qb := false) rfl B.tuple (sb_cons (qa := false) (qb := true) (se_lc (own := [("_law_word_so", 2), ("_law_far", 3)]) (qt := true) (qe := false) rfl sc_law_grown.nd (si_seq (qa := true) (dv 0)) (blkOk_by (by kernel_rfl)) (fun s H A l fp => (sg_unp rfl (sgs_cons (sg_name (i := 2) sc_law_grown.nd rfl (by first | exact .inl rfl | exact .inr rfl) rfl) (sgs_cons (sg_name (i := 3) sc_law_grown.nd rfl (by first | exact .inl rfl | exact .inr rfl) rfl) sgs_nil)) (gsCons_len (gsCons_len gsNil_len)))) (fun s H A l fp => sts_nil) (fun s H A l fp => (se_tup (qb := true) (qd := false) (sb_cons (qa := true) (qb := true) (dv 2) (sb_cons (qa := true) (qb := true) (dMul (qa := true) (qb := true) (dv 3) (dv 1)) sb_nil))))) sb_nil))))
theorem o_law_grown {P : Program} {w : World} {K : PySem.W.Frag} {mg : Str → Option Value} {base : Heap} {cl : Nat → Addr} (B : Blt mg) (S : Gs mg) {f : Addr} {fd : FuncData} (FD : FnP K "_law_grown" "_law_grown" (top 15) [] f fd)  : FnOk P w K mg base CX0 1 f fd ["_law_row_so", "_law_times_so"] (spM ⟨K, cl⟩ F_law_grown) :=
  fn_defD (k := 0) (N := N_law_grown) FD sc_law_grown (ioOf_out (by decide)) (fun cdv A outer s H E hr => b_law_grown B S hr )
theorem d_law_grown {P : Program} {w : World} {K : PySem.W.Frag} {mg : Str → Option Value} {base : Heap} {cl : Nat → Addr} (B : Blt mg) (S : Gs mg) {f : Addr} {fd : FuncData} (FD : FnP K "_law_grown" "_law_grown" (top 15) [] f fd) (hm : mg "_law_grown" = some (.ref f))  : Dn P w K mg base cl "_law_grown" 1 F_law_grown :=
  ⟨f, fd, ["_law_row_so", "_law_times_so"], o_law_grown B S FD , hm, FD.kp, FD.bindsN fun _ _ _ _ _ _ us hl => match us, hl with | [_, _], _ => rfl⟩
abbrev N_law_streams : List Str := ["_law_box_here", "_law_most_so", "_law_times_so", "_law_turn", "_law_found", "_law_rest_so", "_law_row_so", "_law_lap"]
theorem sc_law_streams : FnScope N_law_streams ["_law_box_here", "_law_most_so", "_law_times_so"] (defScope (top 16)) := ⟨rfl, rfl, rfl, by decide +kernel, rfl, by decide +kernel, by decide +kernel⟩
def E_law_streams_1 (ρ : En) : Res (B × En) := (cCallIO F_law_event (ioOf [0]) (cCons true (cVar 0) (cCons true (cC (.int 6)) cNil))) ρ
def L_law_streams_1 (ρ : En) : Res (Fl × En) := (cSeq
  (cAsg (gSet 6) (cCallB fTuple (cCons true (cLc [7] (iRange1 (cCallIO F_law_take (ioOf [0]) (cCons true (cVar 0) (cCons true (cBin fAdd true (cCallB fMin2 (cCons true (cVar 5) (cCons true (cC (.int 4)) cNil))) (cC (.int 1))) cNil)))) (gSet 7) cYes E_law_streams_1) cNil)))
  (cSeq
  (cDrop (cApp false (cVar 4) (cCallP false F_law_grown (cCons true (cVar 6) (cCons true (cVar 2) cNil)))))
  (cAsg (gSet 5) (cBin fSub true (cVar 5) (cCallB fLen (cCons true (cVar 6) cNil)))))) ρ
def m_law_streams : CS := (cSeq
  (cPar2 4 5 (cCons true (cLst true cNil) (cCons true (cVar 1) cNil)))
  (cSeq
  (cFor (iRange1 (cCallIO F_law_of (ioOf [0]) (cCons true (cVar 0) (cCons true (cLst true (cCons true (cC (.int 1)) (cCons true (cC (.int 2)) (cCons true (cC (.int 2)) (cCons true (cC (.int 3)) cNil))))) cNil)))) (gSet 3) L_law_streams_1)
  (cRet (cCallB fTuple (cCons true (cVar 4) cNil)))))
def F_law_streams : Fn := runDef 3 8 (ioOf [0]) m_law_streams
theorem b_law_streams {P : Program} {w : World} {K : PySem.W.Frag} {mg : Str → Option Value} {base : Heap} {cl : Nat → Addr} (B : Blt mg) (S : Gs mg) {f : Addr} {cdv : Value} {A : Around} {outer : List Env} {s : Shared} {H : Hp} {E : XK} (hr : Room 3 (A.deeper (envOfC "_law_streams" (defScope (top 16)) s.heap.objs.size f cdv))) (d_law_event : Dn P w K mg base cl "_law_event" 3 F_law_event) (d_law_grown : Dn P w K mg base cl "_law_grown" 1 F_law_grown) (d_law_of : Dn P w K mg base cl "_law_of" 2 F_law_of) (d_law_take : Dn P w K mg base cl "_law_take" 1 F_law_take) : SSs (BX P w K mg base N_law_streams "_law_streams" (defScope (top 16)) f cdv A outer s H E) cl (ioOf [0]) (defBody (top 16)) m_law_streams :=
  (sss_cons
  (ss_par2 (i := 4) (j := 5) (qb := true) rfl sc_law_streams.nd rfl rfl (by decide) rfl rfl rfl rfl (sb_cons (qa := true) (qb := true) (se_lst (qb := true) (qd := true) sb_nil) (sb_cons (qa := true) (qb := true) (dv 1) sb_nil)) rfl)
  (sss_cons
  (ss_for PassesOwn.never rfl (si_range1 (qa := false) rfl B.range (se_callIO (qb := true) (io := (ioOf [0])) (d_law_of.fm hr (by decide)) rfl (sb_cons (qa := true) (qb := true) (dv 0) (sb_cons (qa := true) (qb := true) (se_lst (qb := true) (qd := true) (sb_cons (qa := true) (qb := true) se_int (sb_cons (qa := true) (qb := true) se_int (sb_cons (qa := true) (qb := true) se_int (sb_cons (qa := true) (qb := true) se_int sb_nil))))) sb_nil)))) (sg_name (i := 3) sc_law_streams.nd rfl (by first | exact .inl rfl | exact .inr rfl) rfl) (sss_cons
  (ss_asg (q := false) (dTuple (qb := false) rfl B.tuple (sb_cons (qa := false) (qb := true) (se_lc (own := [("_law_lap", 7)]) (qt := true) (qe := false) rfl sc_law_streams.nd (si_range1 (qa := false) rfl B.range (se_callIO (qb := true) (io := (ioOf [0])) (d_law_take.fm hr (by decide)) rfl (sb_cons (qa := true) (qb := true) (dv 0) (sb_cons (qa := true) (qb := true) (dAdd (qa := true) (qb := true) (dMin2 (qb := true) rfl rfl B.min (sb_cons (qa := true) (qb := true) (dv 5) (sb_cons (qa := true) (qb := true) se_int sb_nil))) se_int) sb_nil)))) (blkOk_by (by kernel_rfl)) (fun s H A l fp => (sg_name (i := 7) sc_law_streams.nd rfl (by first | exact .inl rfl | exact .inr rfl) rfl)) (fun s H A l fp => sts_nil) (fun s H A l fp => (se_callIO (qb := true) (io := (ioOf [0])) (d_law_event.fm hr (by decide)).blk rfl (sb_cons (qa := true) (qb := true) (dv 0) (sb_cons (qa := true) (qb := true) se_int sb_nil))))) sb_nil)) (sg_name (i := 6) sc_law_streams.nd rfl (by first | exact .inl rfl | exact .inr rfl) rfl))
  (sss_cons
  (ss_expr (q := false) (se_append (qo := true) (qa := false) (dv 4) (se_callP (qb := true) (qd := false) (d_law_grown.fm hr (by decide)) rfl (sb_cons (qa := true) (qb := true) (dv 6) (sb_cons (qa := true) (qb := true) (dv 2) sb_nil)))))
  (sss_one (ss_asg (q := true) (dSub (qa := true) (qb := true) (dv 5) (dLen (qb := true) rfl B.len (sb_cons (qa := true) (qb := true) (dv 6) sb_nil))) (sg_name (i := 5) sc_law_streams.nd rfl (by first | exact .inl rfl | exact .inr rfl) rfl))))))
  (sss_one (ss_ret (q := true) (dTuple (qb := true) rfl B.tuple (sb_cons (qa := true) (qb := true) (dv 4) sb_nil))))))
theorem o_law_streams {P : Program} {w : World} {K : PySem.W.Frag} {mg : Str → Option Value} {base : Heap} {cl : Nat → Addr} (B : Blt mg) (S : Gs mg) {f : Addr} {fd : FuncData} (FD : FnP K "_law_streams" "_law_streams" (top 16) [] f fd) (d_law_event : Dn P w K mg base cl "_law_event" 3 F_law_event) (d_law_grown : Dn P w K mg base cl "_law_grown" 1 F_law_grown) (d_law_of : Dn P w K mg base cl "_law_of" 2 F_law_of) (d_law_take : Dn P w K mg base cl "_law_take" 1 F_law_take) : FnOk P w K mg base CX0 4 f fd ["_law_box_here", "_law_most_so", "_law_times_so"] (spM ⟨K, cl⟩ F_law_streams) :=
  fn_defD (k := 3) (N := N_law_streams) FD sc_law_streams (ioOf_out (by decide)) (fun cdv A outer s H E hr => b_law_streams B S hr d_law_event d_law_grown d_law_of d_law_take)
theorem d_law_streams {P : Program} {w : World} {K : PySem.W.Frag} {mg : Str → Option Value} {base : Heap} {cl : Nat → Addr} (B : Blt mg) (S : Gs mg) {f : Addr} {fd : FuncData} (FD : FnP K "_law_streams" "_law_streams" (top 16) [] f fd) (hm : mg "_law_streams" = some (.ref f)) (d_law_event : Dn P w K mg base cl "_law_event" 3 F_law_event) (d_law_grown : Dn P w K mg base cl "_law_grown" 1 F_law_grown) (d_law_of : Dn P w K mg base cl "_law_of" 2 F_law_of) (d_law_take : Dn P w K mg base cl "_law_take" 1 F_law_take) : Dn P w K mg base cl "_law_streams" 4 F_law_streams :=
  ⟨f, fd, ["_law_box_here", "_law_most_so", "_law_times_so"], o_law_streams B S FD d_law_event d_law_grown d_law_of d_law_take, hm, FD.kp, FD.bindsN fun _ _ _ _ _ _ us hl => match us, hl with | [_, _, _], _ => rfl⟩
abbrev N_law_right : List Str := ["_law_box_here", "_law_turn", "_law_rows_so", "_law_numbers", "_law_own_so", "_law_got", "_law_mat_so", "_law_k", "_law_row", "_law_soft", "_law_due"]
theorem sc_law_right : FnScope N_law_right ["_law_box_here"] (defScope (top 21)) := ⟨rfl, rfl, rfl, by decide +kernel, rfl, by decide +kernel, by decide +kernel⟩
def L_law_right_1 (ρ : En) : Res (Fl × En) := (cAsg (gSet 3) (cBin fAdd false (cVar 3) (cBin fMul true (cLst false (cCons true (cVar 7) cNil)) (cCallB fLen (cCons true (cVar 8) cNil))))) ρ
def L_law_right_2 (ρ : En) : Res (Fl × En) := (cSeq
  (cAsg (gSet 10) (cCallV F_law_is_meant (cCons true (cVar 2) (cCons true (cVar 6) cNil))))
  (cIfS (cNotT (cTest (cCallV (F_law_same 40) (cCons false (cLst true (cCons true (cCallV Fis_weaving (cCons true (cVar 2) (cCons true (cUnk (cVar 6)) cNil))) (cCons true (cCallKV Fis_weaving [1, 0] 2 (cCons true (cUnk (cVar 6)) (cCons true (cVar 9) cNil))) cNil))) (cCons true (cLst false (cCons true (cVar 10) (cCons true (cVar 10) cNil))) cNil))))) (cRet (cC (.bl false))) cNext)) ρ
def L_law_right_3 (ρ : En) : Res (Fl × En) := (cSeq
  (cAsg (gSet 2) (cCallIO F_law_streams (ioOf [0]) (cCons true (cVar 0) (cCons true (cC (.int 8)) (cCons true (cC (.int 1)) cNil)))))
  (cSeq
  (cAsg (gSet 3) (cLst true cNil))
  (cSeq
  (cFor (iEnumM (cVar 2)) (gUnp (gsCons (gSet 7) (gsCons (gSet 8) gsNil))) L_law_right_1)
  (cSeq
  (cAsg (gSet 4) (cCallB fTupleN (cCons true (cCallIO F_law_pick (ioOf [0]) (cCons true (cVar 0) (cCons true (cVar 3) (cCons true (cCallB fLen (cCons true (cVar 3) cNil)) cNil)))) cNil)))
  (cSeq
  (cPar2 9 10 (cCons false (cCallP false (F_law_lists 40) (cCons true (cVar 2) cNil)) (cCons true (cCallP false F_law_made (cCons true (cVar 2) (cCons true (cUnk (cVar 4)) cNil))) cNil)))
  (cSeq
  (cAsg (gSet 5) (cLst true (cCons false (cCallP false Fwoven_row (cCons true (cVar 2) (cCons true (cUnk (cVar 4)) cNil))) (cCons true (cCallKP false Fwoven_row [1, 0] 2 (cCons true (cCallB fList (cCons true (cUnk (cVar 4)) cNil)) (cCons true (cVar 9) cNil))) cNil))))
  (cSeq
  (cIfS (cNotT (cTest (cCallV (F_law_same 40) (cCons false (cVar 5) (cCons true (cLst false (cCons true (cVar 10) (cCons true (cVar 10) cNil))) cNil))))) (cRet (cC (.bl false))) cNext)
  (cFor (iSeq (cTup false (cCons false (cVar 4) (cCons false (cCallIO F_law_bent (ioOf [0]) (cCons true (cVar 0) (cCons true (cUnk (cVar 4)) cNil))) (cCons true (cCallIO F_law_bent (ioOf [0]) (cCons true (cVar 0) (cCons true (cUnk (cVar 4)) cNil))) cNil))))) (gSet 6) L_law_right_2)))))))) ρ
def m_law_right : CS := (cSeq
  (cFor (iRange1 (cC (.int 6))) (gSet 1) L_law_right_3)
  (cRet (cC (.bl true))))
def F_law_right : Fn := runDef 1 11 (ioOf [0]) m_law_right
theorem b_law_right {P : Program} {w : World} {K : PySem.W.Frag} {mg : Str → Option Value} {base : Heap} {cl : Nat → Addr} (B : Blt mg) (S : Gs mg) {f : Addr} {cdv : Value} {A : Around} {outer : List Env} {s : Shared} {H : Hp} {E : XK} (hr : Room 42 (A.deeper (envOfC "_law_right" (defScope (top 21)) s.heap.objs.size f cdv))) (d_law_bent : Dn P w K mg base cl "_law_bent" 3 F_law_bent) (d_law_is_meant : Dn P w K mg base cl "_law_is_meant" 1 F_law_is_meant) (d_law_lists : Dn P w K mg base cl "_law_lists" 41 (F_law_lists 40)) (d_law_made : Dn P w K mg base cl "_law_made" 1 F_law_made) (d_law_pick : Dn P w K mg base cl "_law_pick" 2 F_law_pick) (d_law_same : Dn P w K mg base cl "_law_same" 41 (F_law_same 40)) (d_law_streams : Dn P w K mg base cl "_law_streams" 4 F_law_streams) (dis_weaving : Dn P w K mg base cl "is_weaving" 2 Fis_weaving) (dwoven_row : Dn P w K mg base cl "woven_row" 42 Fwoven_row) (kis_weaving_thing_streams : Dk P w K mg base cl "is_weaving" ["thing", "streams"] [1, 0] 2 Fis_weaving) (kwoven_row_weaving_streams : Dk P w K mg base cl "woven_row" ["weaving", "streams"] [1, 0] 42 Fwoven_row) : SSs (BX P w K mg base N_law_right "_law_right" (defScope (top 21)) f cdv A outer s H E) cl (ioOf [0]) (defBody (top 21)) m_law_right :=
  (sss_cons
  (ss_for PassesOwn.never rfl (si_range1 (qa := true) rfl B.range se_int) (sg_name (i := 1) sc_law_right.nd rfl (by first | exact .inl rfl | exact .inr rfl) rfl) (sss_cons
  (ss_asg (q := false) (se_callIO (qb := true) (io := (ioOf [0])) (d_law_streams.fm hr (by decide)) rfl (sb_cons (qa := true) (qb := true) (dv 0) (sb_cons (qa := true) (qb := true) se_int (sb_cons (qa := true) (qb := true) se_int sb_nil)))) (sg_name (i := 2) sc_law_right.nd rfl (by first | exact .inl rfl | exact .inr rfl) rfl))
  (sss_cons
  (ss_asg (q := true) (se_lst (qb := true) (qd := true) sb_nil) (sg_name (i := 3) sc_law_right.nd rfl (by first | exact .inl rfl | exact .inr rfl) rfl))
  (sss_cons
  (ss_for PassesOwn.never rfl (si_enum (qa := true) rfl B.enumerate (dv 2)) (sg_unp rfl (sgs_cons (sg_name (i := 7) sc_law_right.nd rfl (by first | exact .inl rfl | exact .inr rfl) rfl) (sgs_cons (sg_name (i := 8) sc_law_right.nd rfl (by first | exact .inl rfl | exact .inr rfl) rfl) sgs_nil)) (gsCons_len (gsCons_len gsNil_len))) (sss_one (ss_asg (q := false) (dAdd (qa := true) (qb := false) (dv 3) (dMul (qa := false) (qb := true) (se_lst (qb := true) (qd := false) (sb_cons (qa := true) (qb := true) (dv 7) sb_nil)) (dLen (qb := true) rfl B.len (sb_cons (qa := true) (qb := true) (dv 8) sb_nil)))) (sg_name (i := 3) sc_law_right.nd rfl (by first | exact .inl rfl | exact .inr rfl) rfl))))
  (sss_cons
  (ss_asg (q := false) (dTupleN (qb := false) rfl B.tuple (sb_cons (qa := false) (qb := true) (se_callIO (qb := true) (io := (ioOf [0])) (d_law_pick.fm hr (by decide)) rfl (sb_cons (qa := true) (qb := true) (dv 0) (sb_cons (qa := true) (qb := true) (dv 3) (sb_cons (qa := true) (qb := true) (dLen (qb := true) rfl B.len (sb_cons (qa := true) (qb := true) (dv 3) sb_nil)) sb_nil)))) sb_nil)) (sg_name (i := 4) sc_law_right.nd rfl (by first | exact .inl rfl | exact .inr rfl) rfl))
  (sss_cons
  (ss_par2 (i := 9) (j := 10) (qb := false) rfl sc_law_right.nd rfl rfl (by decide) rfl rfl rfl rfl (sb_cons (qa := false) (qb := false) (se_callP (qb := true) (qd := false) (d_law_lists.fm hr (by decide)) rfl (sb_cons (qa := true) (qb := true) (dv 2) sb_nil)) (sb_cons (qa := false) (qb := true) (se_callP (qb := true) (qd := false) (d_law_made.fm hr (by decide)) rfl (sb_cons (qa := true) (qb := true) (dv 2) (sb_cons (qa := true) (qb := true) (se_unk (dv 4)) sb_nil))) sb_nil)) rfl)
  (sss_cons
  (ss_asg (q := false) (se_lst (qb := false) (qd := true) (sb_cons (qa := false) (qb := false) (se_callP (qb := true) (qd := false) (dwoven_row.fm hr (by decide)) rfl (sb_cons (qa := true) (qb := true) (dv 2) (sb_cons (qa := true) (qb := true) (se_unk (dv 4)) sb_nil))) (sb_cons (qa := false) (qb := true) (se_callKP (qb := true) (qd := false) (kwoven_row_weaving_streams.fm hr (by decide)) rfl (sk_cons (qa := true) (qb := true) (dList (qb := true) rfl B.list (sb_cons (qa := true) (qb := true) (se_unk (dv 4)) sb_nil)) (sk_cons (qa := true) (qb := true) (dv 9) sk_nil))) sb_nil))) (sg_name (i := 5) sc_law_right.nd rfl (by first | exact .inl rfl | exact .inr rfl) rfl))
  (sss_cons
  (ss_if (q := false) (st_not (qa := false) (st_val (qa := false) (se_callV (qb := false) (d_law_same.fm hr (by decide)) rfl (sb_cons (qa := true) (qb := false) (dv 5) (sb_cons (qa := false) (qb := true) (se_lst (qb := true) (qd := false) (sb_cons (qa := true) (qb := true) (dv 10) (sb_cons (qa := true) (qb := true) (dv 10) sb_nil))) sb_nil))))) (sss_one (ss_ret (q := true) se_bl)) sss_nil)
  (sss_one (ss_for PassesOwn.never rfl (si_seq (qa := false) (se_tup (qb := false) (qd := false) (sb_cons (qa := true) (qb := false) (dv 4) (sb_cons (qa := false) (qb := false) (se_callIO (qb := true) (io := (ioOf [0])) (d_law_bent.fm hr (by decide)) rfl (sb_cons (qa := true) (qb := true) (dv 0) (sb_cons (qa := true) (qb := true) (se_unk (dv 4)) sb_nil))) (sb_cons (qa := false) (qb := true) (se_callIO (qb := true) (io := (ioOf [0])) (d_law_bent.fm hr (by decide)) rfl (sb_cons (qa := true) (qb := true) (dv 0) (sb_cons (qa := true) (qb := true) (se_unk (dv 4)) sb_nil))) sb_nil))))) (sg_name (i := 6) sc_law_right.nd rfl (by first | exact .inl rfl | exact .inr rfl) rfl) (sss_cons
  (ss_asg (q := true) (se_callV (qb := true) (d_law_is_meant.fm hr (by decide)) rfl (sb_cons (qa := true) (qb := true) (dv 2) (sb_cons (qa := true) (qb := true) (dv 6) sb_nil))) (sg_name (i := 10) sc_law_right.nd rfl (by first | exact .inl rfl | exact .inr rfl) rfl))
  (sss_one (ss_if (q := false) (st_not (qa := false) (st_val (qa := false) (se_callV (qb := false) (d_law_same.fm hr (by decide)) rfl (sb_cons (qa := true) (qb := false) (se_lst (qb := true) (qd := true) (sb_cons (qa := true) (qb := true) (se_callV (qb := true) (dis_weaving.fm hr (by decide)) rfl (sb_cons (qa := true) (qb := true) (dv 2) (sb_cons (qa := true) (qb := true) (se_unk (dv 6)) sb_nil))) (sb_cons (qa := true) (qb := true) (se_callKV (qb := true) (kis_weaving_thing_streams.fm hr (by decide)) rfl (sk_cons (qa := true) (qb := true) (se_unk (dv 6)) (sk_cons (qa := true) (qb := true) (dv 9) sk_nil))) sb_nil))) (sb_cons (qa := false) (qb := true) (se_lst (qb := true) (qd := false) (sb_cons (qa := true) (qb := true) (dv 10) (sb_cons (qa := true) (qb := true) (dv 10) sb_nil))) sb_nil))))) (sss_one (ss_ret (q := true) se_bl)) sss_nil)))))))))))))
  (sss_one (ss_ret (q := true) se_bl)))
theorem o_law_right {P : Program} {w : World} {K : PySem.W.Frag} {mg : Str → Option Value} {base : Heap} {cl : Nat → Addr} (B : Blt mg) (S : Gs mg) {f : Addr} {fd : FuncData} (FD : FnP K "_law_right" "_law_right" (top 21) [] f fd) (d_law_bent : Dn P w K mg base cl "_law_bent" 3 F_law_bent) (d_law_is_meant : Dn P w K mg base cl "_law_is_meant" 1 F_law_is_meant) (d_law_lists : Dn P w K mg base cl "_law_lists" 41 (F_law_lists 40)) (d_law_made : Dn P w K mg base cl "_law_made" 1 F_law_made) (d_law_pick : Dn P w K mg base cl "_law_pick" 2 F_law_pick) (d_law_same : Dn P w K mg base cl "_law_same" 41 (F_law_same 40)) (d_law_streams : Dn P w K mg base cl "_law_streams" 4 F_law_streams) (dis_weaving : Dn P w K mg base cl "is_weaving" 2 Fis_weaving) (dwoven_row : Dn P w K mg base cl "woven_row" 42 Fwoven_row) (kis_weaving_thing_streams : Dk P w K mg base cl "is_weaving" ["thing", "streams"] [1, 0] 2 Fis_weaving) (kwoven_row_weaving_streams : Dk P w K mg base cl "woven_row" ["weaving", "streams"] [1, 0] 42 Fwoven_row) : FnOk P w K mg base CX0 43 f fd ["_law_box_here"] (spM ⟨K, cl⟩ F_law_right) :=
  fn_defD (k := 42) (N := N_law_right) FD sc_law_right (ioOf_out (by decide)) (fun cdv A outer s H E hr => b_law_right B S hr d_law_bent d_law_is_meant d_law_lists d_law_made d_law_pick d_law_same d_law_streams dis_weaving dwoven_row kis_weaving_thing_streams kwoven_row_weaving_streams)
theorem d_law_right {P : Program} {w : World} {K : PySem.W.Frag} {mg : Str → Option Value} {base : Heap} {cl : Nat → Addr} (B : Blt mg) (S : Gs mg) {f : Addr} {fd : FuncData} (FD : FnP K "_law_right" "_law_right" (top 21) [] f fd) (hm : mg "_law_right" = some (.ref f)) (d_law_bent : Dn P w K mg base cl "_law_bent" 3 F_law_bent) (d_law_is_meant : Dn P w K mg base cl "_law_is_meant" 1 F_law_is_meant) (d_law_lists : Dn P w K mg base cl "_law_lists" 41 (F_law_lists 40)) (d_law_made : Dn P w K mg base cl "_law_made" 1 F_law_made) (d_law_pick : Dn P w K mg base cl "_law_pick" 2 F_law_pick) (d_law_same : Dn P w K mg base cl "_law_same" 41 (F_law_same 40)) (d_law_streams : Dn P w K mg base cl "_law_streams" 4 F_law_streams) (dis_weaving : Dn P w K mg base cl "is_weaving" 2 Fis_weaving) (dwoven_row : Dn P w K mg base cl "woven_row" 42 Fwoven_row) (kis_weaving_thing_streams : Dk P w K mg base cl "is_weaving" ["thing", "streams"] [1, 0] 2 Fis_weaving) (kwoven_row_weaving_streams : Dk P w K mg base cl "woven_row" ["weaving", "streams"] [1, 0] 42 Fwoven_row) : Dn P w K mg base cl "_law_right" 43 F_law_right :=
  ⟨f, fd, ["_law_box_here"], o_law_right B S FD d_law_bent d_law_is_meant d_law_lists d_law_made d_law_pick d_law_same d_law_streams dis_weaving dwoven_row kis_weaving_thing_streams kwoven_row_weaving_streams, hm, FD.kp, FD.bindsN fun _ _ _ _ _ _ us hl => match us, hl with | [_], _ => rfl⟩
abbrev Nlaw : List Str := ["_law_script", "_law_cells_so", "_law_k"]
theorem sclaw : FnScope Nlaw ["_law_script"] (defScope (top 22)) := ⟨rfl, rfl, rfl, by decide +kernel, rfl, by decide +kernel, by decide +kernel⟩
def Elaw_1 (ρ : En) : Res (B × En) := (cCallIO F_law_right (ioOf [0]) (cCons true (cCallP false F_law_box (cCons true (cVar 1) (cCons true (cVar 2) cNil))) cNil)) ρ
def mlaw : CS := (cSeq
  (cIfS (cNotT (cTest (cCallP true F_law_by_hand_right cNil))) (cRet (cC (.bl false))) cNext)
  (cSeq
  (cAsg (gSet 1) (cCallP false F_law_cells (cCons true (cVar 0) (cCons true (cC (.int 3)) cNil))))
  (cRet (cCallB fAll (cCons true (cLc [2] (iRange1 (cCallB fLen (cCons true (cVar 1) cNil))) (gSet 2) cYes Elaw_1) cNil)))))
def Flaw : Fn := runDef 1 3 (ioOf []) mlaw
theorem blaw {P : Program} {w : World} {K : PySem.W.Frag} {mg : Str → Option Value} {base : Heap} {cl : Nat → Addr} (B : Blt mg) (S : Gs mg) {f : Addr} {cdv : Value} {A : Around} {outer : List Env} {s : Shared} {H : Hp} {E : XK} (hr : Room 43 (A.deeper (envOfC "law" (defScope (top 22)) s.heap.objs.size f cdv))) (d_law_box : Dn P w K mg base cl "_law_box" 1 F_law_box) (d_law_by_hand_right : Dn P w K mg base cl "_law_by_hand_right" 43 F_law_by_hand_right) (d_law_cells : Dn P w K mg base cl "_law_cells" 1 F_law_cells) (d_law_right : Dn P w K mg base cl "_law_right" 43 F_law_right) : SSs (BX P w K mg base Nlaw "law" (defScope (top 22)) f cdv A outer s H E) cl (ioOf []) (defBody (top 22)) mlaw :=
  (sss_cons
  (ss_if (q := true) (st_not (qa := true) (st_val (qa := true) (se_call0 (d_law_by_hand_right.fm hr (by decide)) rfl))) (sss_one (ss_ret (q := true) se_bl)) sss_nil)
  (sss_cons
  (ss_asg (q := false) (se_callP (qb := true) (qd := false) (d_law_cells.fm hr (by decide)) rfl (sb_cons (qa := true) (qb := true) (dv 0) (sb_cons (qa := true) (qb := true) se_int sb_nil))) (sg_name (i := 1) sclaw.nd rfl (by first | exact .inl rfl | exact .inr rfl) rfl))
  (sss_one (ss_ret (q := false) (dAll (qb := false) rfl rfl B.all (sb_cons (qa := false) (qb := true) (se_lc (own := [("_law_k", 2)]) (qt := true) (qe := false) rfl sclaw.nd (si_range1 (qa := true) rfl B.range (dLen (qb := true) rfl B.len (sb_cons (qa := true) (qb := true) (dv 1) sb_nil))) (blkOk_by (by kernel_rfl)) (fun s H A l fp => (sg_name (i := 2) sclaw.nd rfl (by first | exact .inl rfl | exact .inr rfl) rfl)) (fun s H A l fp => sts_nil) (fun s H A l fp => (se_callIO (qb := false) (io := (ioOf [0])) (d_law_right.fm hr (by decide)).blk rfl (sb_cons (qa := false) (qb := true) (se_callP (qb := true) (qd := false) (d_law_box.fm hr (by decide)).blk rfl (sb_cons (qa := true) (qb := true) (dv 1) (sb_cons (qa := true) (qb := true) (dv 2) sb_nil))) sb_nil)))) sb_nil))))))
theorem olaw {P : Program} {w : World} {K : PySem.W.Frag} {mg : Str → Option Value} {base : Heap} {cl : Nat → Addr} (B : Blt mg) (S : Gs mg) {f : Addr} {fd : FuncData} (FD : FnP K "law" "law" (top 22) [] f fd) (d_law_box : Dn P w K mg base cl "_law_box" 1 F_law_box) (d_law_by_hand_right : Dn P w K mg base cl "_law_by_hand_right" 43 F_law_by_hand_right) (d_law_cells : Dn P w K mg base cl "_law_cells" 1 F_law_cells) (d_law_right : Dn P w K mg base cl "_law_right" 43 F_law_right) : FnOk P w K mg base CX0 44 f fd ["_law_script"] (spM ⟨K, cl⟩ Flaw) :=
  fn_defD (k := 43) (N := Nlaw) FD sclaw (ioOf_out (by decide)) (fun cdv A outer s H E hr => blaw B S hr d_law_box d_law_by_hand_right d_law_cells d_law_right)
end Gn
namespace Gn
open Mi PySem PySem.Spec PyProof.Rows L2
theorem ob_eq (s : PySem.W.SharedT) : ob s = hk.obs s.abs := obsXG_eq (HandSHeadRun.getT_eq s)
theorem facts {P : Program} {w : World} {K : PySem.W.Frag} {h : Heap} {mg : Str → Option Value} {f : Addr} (X : K.In h) (G : h.Ns mainGlobals mg) (hfa : mg ("law" : Str) = some (.ref f)) (c : SaysX fal fnl xb K) :
    ∃ fd : FuncData, (∀ (s : Shared) (v : Value), BindsTo s fd ⟨[v], []⟩ [("_law_script", v)]) ∧ ∀ base : Heap, K.In base → base.Ns mainGlobals mg → FnOk P w K mg base CX0 44 f fd ["_law_script"] (spM ⟨K, (fun _ => 0)⟩ Flaw) := by
  obtain ⟨fd__law_box, F_law_box_⟩ := c.fn 0 (d := D_law_box) rfl
  obtain ⟨fd__law_lists, F_law_lists_⟩ := c.fn 1 (d := D_law_lists) rfl
  obtain ⟨fd__law_same, F_law_same_⟩ := c.fn 2 (d := D_law_same) rfl
  obtain ⟨fd_is_number, Fis_number_⟩ := c.fn 3 (d := Dis_number) rfl
  obtain ⟨fd_is_weaving, Fis_weaving_⟩ := c.fn 4 (d := Dis_weaving) rfl
  obtain ⟨fd_tupled, Ftupled_⟩ := c.fn 5 (d := Dtupled) rfl
  obtain ⟨fd_woven_row, Fwoven_row_⟩ := c.fn 6 (d := Dwoven_row) rfl
  obtain ⟨fd__law_by_hand_right, F_law_by_hand_right_⟩ := c.fn 7 (d := D_law_by_hand_right) rfl
  obtain ⟨fd__law_cells, F_law_cells_⟩ := c.fn 8 (d := D_law_cells) rfl
  obtain ⟨fd__law_take, F_law_take_⟩ := c.fn 9 (d := D_law_take) rfl
  obtain ⟨fd__law_of, F_law_of_⟩ := c.fn 10 (d := D_law_of) rfl
  obtain ⟨fd__law_bent, F_law_bent_⟩ := c.fn 11 (d := D_law_bent) rfl
  obtain ⟨fd__law_is_meant, F_law_is_meant_⟩ := c.fn 12 (d := D_law_is_meant) rfl
  obtain ⟨fd__law_made, F_law_made_⟩ := c.fn 13 (d := D_law_made) rfl
  obtain ⟨fd__law_pick, F_law_pick_⟩ := c.fn 14 (d := D_law_pick) rfl
  obtain ⟨fd__law_event, F_law_event_⟩ := c.fn 15 (d := D_law_event) rfl
  obtain ⟨fd__law_grown, F_law_grown_⟩ := c.fn 16 (d := D_law_grown) rfl
  obtain ⟨fd__law_streams, F_law_streams_⟩ := c.fn 17 (d := D_law_streams) rfl
  obtain ⟨fd__law_right, F_law_right_⟩ := c.fn 18 (d := D_law_right) rfl
  obtain ⟨fd_law, Flaw_⟩ := c.fn 19 (d := Dlaw) rfl
  have e := hfa.symm.trans (He.glo_ok X G (c.fact 19 (f := .glo "law") rfl))
  cases e
  have b := FunD.bindsA (ps := ["_law_script"]) Flaw_ fun _ _ _ _ _ _ us hl => match us, hl with | [_], _ => rfl
  have B : Blt mg := ⟨He.free_ok X G (c.fact 27 (f := .free "len") rfl), He.free_ok X G (c.fact 20 (f := .free "abs") rfl), He.free_ok X G (c.fact 29 (f := .free "max") rfl), He.free_ok X G (c.fact 30 (f := .free "min") rfl), He.free_ok X G (c.fact 25 (f := .free "int") rfl), He.free_ok X G (c.fact 35 (f := .free "str") rfl), He.free_ok X G (c.fact 23 (f := .free "bool") rfl), He.free_ok X G (c.fact 36 (f := .free "sum") rfl), He.free_ok X G (c.fact 21 (f := .free "all") rfl), He.free_ok X G (c.fact 22 (f := .free "any") rfl), He.free_ok X G (c.fact 37 (f := .free "tuple") rfl), He.free_ok X G (c.fact 28 (f := .free "list") rfl), He.free_ok X G (c.fact 26 (f := .free "isinstance") rfl), He.free_ok X G (c.fact 31 (f := .free "range") rfl), He.free_ok X G (c.fact 24 (f := .free "enumerate") rfl), He.free_ok X G (c.fact 38 (f := .free "zip") rfl), He.free_ok X G (c.fact 34 (f := .free "sorted") rfl), He.free_ok X G (c.fact 32 (f := .free "reversed") rfl), He.free_ok X G (c.fact 33 (f := .free "set") rfl)⟩
  have S : Gs mg := ⟨trivial⟩
  have g__law_box := He.glo_ok X G (c.fact 0 (f := .glo "_law_box") rfl)
  have g__law_lists := He.glo_ok X G (c.fact 1 (f := .glo "_law_lists") rfl)
  have g__law_same := He.glo_ok X G (c.fact 2 (f := .glo "_law_same") rfl)
  have g_is_number := He.glo_ok X G (c.fact 3 (f := .glo "is_number") rfl)
  have g_is_weaving := He.glo_ok X G (c.fact 4 (f := .glo "is_weaving") rfl)
  have g_tupled := He.glo_ok X G (c.fact 5 (f := .glo "tupled") rfl)
  have g_woven_row := He.glo_ok X G (c.fact 6 (f := .glo "woven_row") rfl)
  have g__law_by_hand_right := He.glo_ok X G (c.fact 7 (f := .glo "_law_by_hand_right") rfl)
  have g__law_cells := He.glo_ok X G (c.fact 8 (f := .glo "_law_cells") rfl)
  have g__law_take := He.glo_ok X G (c.fact 9 (f := .glo "_law_take") rfl)
  have g__law_of := He.glo_ok X G (c.fact 10 (f := .glo "_law_of") rfl)
  have g__law_bent := He.glo_ok X G (c.fact 11 (f := .glo "_law_bent") rfl)
  have g__law_is_meant := He.glo_ok X G (c.fact 12 (f := .glo "_law_is_meant") rfl)
  have g__law_made := He.glo_ok X G (c.fact 13 (f := .glo "_law_made") rfl)
  have g__law_pick := He.glo_ok X G (c.fact 14 (f := .glo "_law_pick") rfl)
  have g__law_event := He.glo_ok X G (c.fact 15 (f := .glo "_law_event") rfl)
  have g__law_grown := He.glo_ok X G (c.fact 16 (f := .glo "_law_grown") rfl)
  have g__law_streams := He.glo_ok X G (c.fact 17 (f := .glo "_law_streams") rfl)
  have g__law_right := He.glo_ok X G (c.fact 18 (f := .glo "_law_right") rfl)
  refine ⟨fd_law, fun s v => b s [v] rfl, fun base _ _ => ?_⟩
  have d_law_box := d_law_box (P := P) (w := w) (base := base) (cl := fun _ => 0) B S F_law_box_ g__law_box
  have d_law_lists := d_law_lists (P := P) (w := w) (base := base) (cl := fun _ => 0) B S F_law_lists_ g__law_lists  40
  have d_law_same := d_law_same (P := P) (w := w) (base := base) (cl := fun _ => 0) B S F_law_same_ g__law_same  40
  have dis_number := dis_number (P := P) (w := w) (base := base) (cl := fun _ => 0) B S Fis_number_ g_is_number
  have dis_weaving := dis_weaving (P := P) (w := w) (base := base) (cl := fun _ => 0) B S Fis_weaving_ g_is_weaving dis_number
  have kis_weaving_thing_streams := kis_weaving_thing_streams (P := P) (w := w) (base := base) (cl := fun _ => 0) B S Fis_weaving_ g_is_weaving dis_number
  have dtupled := dtupled (P := P) (w := w) (base := base) (cl := fun _ => 0) B S Ftupled_ g_tupled  40
  have dwoven_row := dwoven_row (P := P) (w := w) (base := base) (cl := fun _ => 0) B S Fwoven_row_ g_woven_row dtupled
  have kwoven_row_weaving_streams := kwoven_row_weaving_streams (P := P) (w := w) (base := base) (cl := fun _ => 0) B S Fwoven_row_ g_woven_row dtupled
  have d_law_by_hand_right := d_law_by_hand_right (P := P) (w := w) (base := base) (cl := fun _ => 0) B S F_law_by_hand_right_ g__law_by_hand_right d_law_lists d_law_same dis_weaving dwoven_row kis_weaving_thing_streams kwoven_row_weaving_streams
  have d_law_cells := d_law_cells (P := P) (w := w) (base := base) (cl := fun _ => 0) B S F_law_cells_ g__law_cells
  have d_law_take := d_law_take (P := P) (w := w) (base := base) (cl := fun _ => 0) B S F_law_take_ g__law_take
  have d_law_of := d_law_of (P := P) (w := w) (base := base) (cl := fun _ => 0) B S F_law_of_ g__law_of d_law_take
  have d_law_bent := d_law_bent (P := P) (w := w) (base := base) (cl := fun _ => 0) B S F_law_bent_ g__law_bent d_law_of d_law_take
  have d_law_is_meant := d_law_is_meant (P := P) (w := w) (base := base) (cl := fun _ => 0) B S F_law_is_meant_ g__law_is_meant
  have d_law_made := d_law_made (P := P) (w := w) (base := base) (cl := fun _ => 0) B S F_law_made_ g__law_made
  have d_law_pick := d_law_pick (P := P) (w := w) (base := base) (cl := fun _ => 0) B S F_law_pick_ g__law_pick d_law_take
  have d_law_event := d_law_event (P := P) (w := w) (base := base) (cl := fun _ => 0) B S F_law_event_ g__law_event d_law_of d_law_take
  have d_law_grown := d_law_grown (P := P) (w := w) (base := base) (cl := fun _ => 0) B S F_law_grown_ g__law_grown
  have d_law_streams := d_law_streams (P := P) (w := w) (base := base) (cl := fun _ => 0) B S F_law_streams_ g__law_streams d_law_event d_law_grown d_law_of d_law_take
  have d_law_right := d_law_right (P := P) (w := w) (base := base) (cl := fun _ => 0) B S F_law_right_ g__law_right d_law_bent d_law_is_meant d_law_lists d_law_made d_law_pick d_law_same d_law_streams dis_weaving dwoven_row kis_weaving_thing_streams kwoven_row_weaving_streams
  exact olaw B S Flaw_ d_law_box d_law_by_hand_right d_law_cells d_law_right
theorem law_holds (hF : ∀ ns : List Int, ns.length ≤ 63 → ∃ bk, Flaw [.fz (.scr (ns.map D.int))] = .ok (.fz (.bl true), bk)) : PySem.Challenge.rw_boundedlevels_k38_weavings_of_streams.Holds := by
  w_on; o_law
  refine HandSHeadRun.head_any (r := PySem.W.OpenLaw.row PySem.Challenge.rw_boundedlevels_k38_weavings_of_streams) (q := PySem.W.view (PySem.W.OpenLaw.row PySem.Challenge.rw_boundedlevels_k38_weavings_of_streams).prog [22]) (H := Gn.hk) (ob := Gn.ob) (M := 2700) (loose := ["is_number", "tupled", "is_weaving", "woven_row", "_law_box", "_law_take", "_law_cells", "_law_of", "_law_pick", "_law_same", "_law_lists", "_law_event", "_law_grown", "_law_streams", "_law_made", "_law_is_meant", "_law_bent", "_law_by_hand_right", "_law_right"]) (d := HandSHeadRun.topDef (PySem.W.OpenLaw.row PySem.Challenge.rw_boundedlevels_k38_weavings_of_streams).prog 22) (kwd := []) Gn.ob_eq
    (by kernel_rfl) (fun s => by kernel_rfl) Gn.hrun (by kernel_rfl) (by kernel_rfl) (by kernel_rfl) (by rfl) (by first | assumption | decide +kernel) (by decide +kernel) ⟨rfl, rfl, rfl, rfl, rfl, by decide +kernel⟩ ?hw ?hc
  case hw => w_witness2
  case hc =>
    refine L2.walk_ofE (l := PySem.Challenge.rw_boundedlevels_k38_weavings_of_streams) (n := 63) (k := 44) (x := "_law_script") (CX := L2.CX0) rfl (by decide) (by kernel_rfl) ⟨rfl, by decide, by decide⟩ ?F (fun _ _ _ _ z => z)
    intro w mg fa h Y G hmg0
    obtain ⟨K, KX, c⟩ := Y
    have hmg : mg ("law" : PySem.Str) = some (.ref fa) := by
      have e : (HandSHeadRun.topDef (PySem.W.OpenLaw.row PySem.Challenge.rw_boundedlevels_k38_weavings_of_streams).prog 22).name = ("law" : PySem.Str) := by kernel_rfl
      rw [← e]
      exact hmg0
    obtain ⟨fd, hb, hF2⟩ := Gn.facts (P := (PySem.Challenge.rw_boundedlevels_k38_weavings_of_streams).prog) (w := w) KX G hmg c
    exact ⟨K, fd, _, KX, hb, fun H a ns hl _ hS => law_sp hS (hF ns hl), hF2⟩
end Gn
namespace Gn
open Mi PySem
structure Bx where
  a : Int
  b : Int
  c : Int
abbrev bx (β : Bx) : W := .lst [.fz (.int β.a), .fz (.int β.b), .fz (.int β.c)]
def Gd (m : Nat) (β : Bx) : Prop := 0 ≤ β.c ∧ β.c + (m : Int) < 2 ^ 60
theorem Gd.le {m n : Nat} {β : Bx} (h : Gd n β) (hm : m ≤ n) : Gd m β := ⟨h.1, by have := h.2; omega⟩
def _root_.Bq :=
  And.intro (And.intro (And.intro (And.intro (And.intro (And.intro (And.intro (And.intro (@v_bin6) (@v_bin5)) (And.intro (@v_bin4) (@v_bin3))) (And.intro (And.intro (@v_bin2) (@v_bin1)) (And.intro (@v_bin) (And.intro (@v_un3) (@v_un2))))) (And.intro (And.intro (And.intro (@v_un1) (@v_un)) (And.intro (@v_test2) (@v_test1))) (And.intro (And.intro (@v_test) (@v_cons3)) (And.intro (@v_cons2) (And.intro
  (@v_cons1) (@v_cons)))))) (And.intro (And.intro (And.intro (And.intro (@v_star4) (@v_star3)) (And.intro (@v_star2) (@v_star1))) (And.intro (And.intro (@v_star) (@v_tup2)) (And.intro (@v_tup1) (And.intro (@v_tup) (@v_lst2))))) (And.intro (And.intro (And.intro (@v_lst1) (@v_lst)) (And.intro (@v_callB3) (And.intro (@v_callB2) (@v_callB1)))) (And.intro (And.intro (@v_callB) (@v_andT1)) (And.intro
  (@v_andT) (And.intro (@v_orT1) (@v_orT))))))) (And.intro (And.intro (And.intro (And.intro (And.intro (@v_notT1) (@v_notT)) (And.intro (@v_and2) (@v_and1))) (And.intro (And.intro (@v_and) (@v_or2)) (And.intro (@v_or1) (And.intro (@v_or) (@v_not2))))) (And.intro (And.intro (And.intro (@v_not1) (@v_not)) (And.intro (@v_if1) (@v_if))) (And.intro (And.intro (@v_orL1) (@v_orL)) (And.intro (@v_seq1)
  (And.intro (@v_seq) (@v_ifS1)))))) (And.intro (And.intro (And.intro (And.intro (@v_ifS) (@v_ret2)) (And.intro (@v_ret1) (@v_ret))) (And.intro (And.intro (@v_drop1) (@v_drop)) (And.intro (@v_asg3) (And.intro (@v_asg2) (@v_asg1))))) (And.intro (And.intro (And.intro (@v_asg) (@v_gset1)) (And.intro (@v_gset) (And.intro (@v_gsub5) (@v_gsub4)))) (And.intro (And.intro (@v_gsub3) (@v_gsub2)) (And.intro
  (@v_gsub1) (And.intro (@v_gsub) (@v_gsc1)))))))) (And.intro (And.intro (And.intro (And.intro (And.intro (And.intro (@v_gsc) (@v_gsn1)) (And.intro (@v_gsn) (@v_for1))) (And.intro (And.intro (@v_for) (@v_forc2)) (And.intro (@v_forc1) (And.intro (@v_lcc2) (@v_lcc1))))) (And.intro (And.intro (And.intro (@v_lcT3) (@v_lcT2)) (And.intro (@v_lcT1) (@v_lcT))) (And.intro (And.intro (@v_lc4) (@v_lc1))
  (And.intro (@v_lc) (And.intro (@v_def4) (@v_def3)))))) (And.intro (And.intro (And.intro (And.intro (@v_def2) (@v_def1)) (And.intro (@v_def) (@v_callV4))) (And.intro (And.intro (@v_callV3) (@v_callV2)) (And.intro (@v_callV1) (And.intro (@v_callV) (@v_callP4))))) (And.intro (And.intro (And.intro (@v_callP3) (@v_callP2)) (And.intro (@v_callP1) (And.intro (@v_callP) (@v_callKV5)))) (And.intro
  (And.intro (@v_callKV4) (@v_callKV3)) (And.intro (@v_callKV2) (And.intro (@v_callKV1) (@v_callKV))))))) (And.intro (And.intro (And.intro (And.intro (And.intro (@v_callKP5) (@v_callKP4)) (And.intro (@v_callKP3) (@v_callKP2))) (And.intro (And.intro (@v_callKP1) (@v_callKP)) (And.intro (@v_callIO5) (And.intro (@v_callIO4) (@v_callIO3))))) (And.intro (And.intro (And.intro (@v_callIO2) (@v_callIO1))
  (And.intro (@v_callIO) (And.intro (@v_app7) (@v_app6)))) (And.intro (And.intro (@v_app5) (@v_app4)) (And.intro (@v_app3) (And.intro (@v_app2) (@v_app1)))))) (And.intro (And.intro (And.intro (And.intro (@v_app) (@v_sl6)) (And.intro (@v_sl5) (@v_sl4))) (And.intro (And.intro (@v_sl3) (@v_sl2)) (And.intro (@v_sl1) (And.intro (@v_sl) (@v_oS2))))) (And.intro (And.intro (And.intro (@v_oS1) (@v_oS))
  (And.intro (@v_iseq3) (And.intro (@v_iseq2) (@v_iseq1)))) (And.intro (And.intro (@v_iseq) (@v_ienum3)) (And.intro (@v_ienum2) (And.intro (@v_ienum1) (@v_ienum))))))))) (And.intro (And.intro (And.intro (And.intro (And.intro (And.intro (And.intro (@v_irg1) (@v_irg)) (And.intro (@v_rgTup3) (@v_rgTup2))) (And.intro (And.intro (@v_rgTup1) (@v_rgTup)) (And.intro (@v_argsc2) (And.intro (@v_argsc1)
  (@v_argsc))))) (And.intro (And.intro (And.intro (@v_putc1) (@v_putc)) (And.intro (@v_takesc2) (@v_takesc1))) (And.intro (And.intro (@v_takesc) (@v_contsc2)) (And.intro (@v_contsc1) (And.intro (@v_contsc) (@v_backsI2)))))) (And.intro (And.intro (And.intro (And.intro (@v_backsI1) (@v_backsI)) (And.intro (@v_binF7) (@v_binF6))) (And.intro (And.intro (@v_binF5) (@v_binF4)) (And.intro (@v_binF3)
  (And.intro (@v_binF2) (@v_binF1))))) (And.intro (And.intro (And.intro (@v_binF) (@v_par22)) (And.intro (@v_par21) (And.intro (@v_par2) (@v_par32)))) (And.intro (And.intro (@v_par31) (@v_par3)) (And.intro (@v_ext8) (And.intro (@v_ext7) (@v_ext6))))))) (And.intro (And.intro (And.intro (And.intro (And.intro (@v_ext5) (@v_ext4)) (And.intro (@v_ext3) (@v_ext2))) (And.intro (And.intro (@v_ext1) (@v_ext))
  (And.intro (@v_zip2) (And.intro (@v_zip1) (@v_zip))))) (And.intro (And.intro (And.intro (@v_irgB3) (@v_irgB2)) (And.intro (@v_irgB1) (And.intro (@v_irgB) (@v_rgLst3)))) (And.intro (And.intro (@v_rgLst2) (@v_rgLst1)) (And.intro (@v_rgLst) (And.intro (@v_rgTupB5) (@v_rgTupB4)))))) (And.intro (And.intro (And.intro (And.intro (@v_rgTupB3) (@v_rgTupB2)) (And.intro (@v_rgTupB1) (@v_rgTupB))) (And.intro
  (And.intro (@v_rgLstB5) (@v_rgLstB4)) (And.intro (@v_rgLstB3) (And.intro (@v_rgLstB2) (@v_rgLstB1))))) (And.intro (And.intro (And.intro (@v_rgLstB) (@v_ok)) (And.intro (@v_c) (And.intro (@v_nil) (@v_next)))) (And.intro (And.intro (@v_yes) (@v_oN)) (And.intro (@v_gtup) (And.intro (@v_var) (@v_for0)))))))) (And.intro (And.intro (And.intro (And.intro (And.intro (And.intro (@v_lc0) (@v_args0))
  (And.intro (@v_put0) (@v_takes0))) (And.intro (And.intro (@v_conts0) (@v_backs0)) (And.intro (@w_add) (And.intro (@w_sub) (@w_neg))))) (And.intro (And.intro (And.intro (@w_lt) (@w_le)) (And.intro (@w_gt) (@w_ge))) (And.intro (And.intro (@w_intI) (@w_intB)) (And.intro (@w_ix0) (And.intro (@w_ix1) (@w_ix2)))))) (And.intro (And.intro (And.intro (And.intro (@w_i0) (@w_i1)) (And.intro (@w_i2) (@u_irg)))
  (And.intro (And.intro (@u_irgB) (@u_unT)) (And.intro (@u_unL) (And.intro (@u_unW) (@u_max))))) (And.intro (And.intro (And.intro (@u_min) (@u_abs)) (And.intro (@u_tup) (And.intro (@u_lst) (@u_lc)))) (And.intro (And.intro (@u_app0) (@u_app)) (And.intro (@u_ext0) (And.intro (@u_ext) (@u_par2))))))) (And.intro (And.intro (And.intro (And.intro (And.intro (@u_par3) (@u_zip)) (And.intro (@u_aug0)
  (@u_aug))) (And.intro (And.intro (@u_aug2) (@u_ch)) (And.intro (@u_ch1) (And.intro (@u_ch2) (@u_ch3))))) (And.intro (And.intro (And.intro (@e_int) (@ne_int)) (And.intro (@e_bl) (And.intro (@ne_bl) (@q_aa)))) (And.intro (And.intro (@q_af) (@q_ac)) (And.intro (@q_fa) (And.intro (@q_ff) (@q_fc)))))) (And.intro (And.intro (And.intro (And.intro (@q_ca) (@q_cf)) (And.intro (@q_cc) (@is_non))) (And.intro
  (And.intro (@is_int) (@isn_non)) (And.intro (@isn_int) (And.intro (@ix_t0) (@ix_t1))))) (And.intro (And.intro (And.intro (@ix_t2) (@ix_l0)) (And.intro (@ix_l1) (And.intro (@x_asc) (@x_kco)))) (And.intro (And.intro (@x_ite) (@u_srT)) (And.intro (@u_srL) (And.intro (@u_srW) (@u_join)))))))))
theorem take_ok {m : Nat} {β : Bx} {n : Int} (g : Gd (m + 1) β) (h0 : 0 < n) (h1 : n < 2 ^ 64) : ∃ (r : Int) (β' : Bx), 0 ≤ r ∧ r < n ∧ Gd m β' ∧ F_law_take [bx β, .fz (.int n)] = .ok (.fz (.int r), [bx β', .fz (.int n)]) := by
  obtain ⟨a, b, c⟩ := β
  obtain ⟨g1, g2⟩ := g
  simp only at g1 g2
  by_cases ha : 0 < a
  · refine ⟨a % n, ⟨a / n, b, c⟩, Int.emod_nonneg _ (by omega), Int.emod_lt_of_pos _ h0, ⟨g1, by simp only; omega⟩, ?_⟩
    simp only [Bq,F_law_take,m_law_take,v_forc,v_lcc,pend,cont,take,frz,frzs,getP,setP,Res.of,boolOf,isPl,mutS,mutP,intOf,move,retOf,backs1,put1,fzT,ioOf,chk,early,shut,isTmp,flatB,scal,List.map_cons,List.map_nil,List.cons_append,List.nil_append,List.append_nil,List.replicate_succ,List.replicate_zero,List.replicate,List.length_cons,List.length_nil,List.getElem?_cons_zero,List.getElem?_cons_succ,List.set_cons_zero,List.set_cons_succ,List.all_cons,List.all_nil,List.contains_cons,List.contains_nil,List.elem_cons,List.elem_nil,List.isEmpty_nil,List.isEmpty_cons,Nat.reduceAdd,Nat.reduceSub,Nat.reduceBEq,Nat.reduceLT,Nat.reduceLeDiff,Nat.reduceEqDiff,decide_true,decide_false,Bool.and_true,Bool.true_and,Bool.or_true,Bool.true_or,Bool.or_false,Bool.false_or,Bool.and_false,Bool.false_and,Bool.not_true,Bool.not_false,Bool.false_eq_true,reduceIte,ite_true,ite_false,beq_self_eq_true,Nat.zero_add,reduceCtorEq,and_self,true_and,and_true,ge_iff_le,gt_iff_lt,Nat.succ_eq_add_one,Nat.add_one_sub_one,Nat.zero_lt_succ,Nat.lt_add_left_iff_pos,wipeE,restE,pick,List.filterMap_cons,List.filterMap_nil,Int.reduceLE,Int.reduceLT,Int.reduceNeg,decide_eq_true_eq,Bool.not_eq_true',decide_eq_false_iff_not,isT,seqV,tupV,lstV,Option.getD,ha,w_mod h0,w_div h0 h1]
  · have e1 : ∀ x : Int, fMul (.fz (.int 48271)) (.fz (.int x)) = .ok (.fz (.int (48271 * x))) := fun x => w_mulL (by decide)
    have e2 : ∀ x : Int, fMul (.fz (.int x)) (.fz (.int (39373 + (c + 1)))) = .ok (.fz (.int (x * (39373 + (c + 1))))) := fun x => w_mulR (by omega)
    have e3 : ∀ x y : Int, fMul (.fz (.int x)) (.fz (.int (y % 40009 + 7))) = .ok (.fz (.int (x * (y % 40009 + 7)))) := fun x y => w_mulR (by omega)
    have e4 : ∀ x : Int, fMul (.fz (.int x)) (.fz (.int 48271)) = .ok (.fz (.int (x * 48271))) := fun x => w_mulR (by decide)
    refine ⟨(((((b + 48271 * (c + 1)) * (39373 + (c + 1))) % 2147483647 + (c + 1) + b / 1000003) * ((((b + 48271 * (c + 1)) * (39373 + (c + 1))) % 2147483647) % 40009 + 7) % 2147483629) * 48271 + ((b + 48271 * (c + 1)) * (39373 + (c + 1))) % 2147483647) % 2147483587 / 64 % n, ⟨a, b, c + 1⟩, Int.emod_nonneg _ (by omega), Int.emod_lt_of_pos _ h0, ⟨by simp only; omega, by simp only; omega⟩, ?_⟩
    have m1 : ∀ x : Int, fMod (.fz (.int x)) (.fz (.int 2147483647)) = .ok (.fz (.int (x % 2147483647))) := fun x => w_mod (by decide)
    have m2 : ∀ x : Int, fMod (.fz (.int x)) (.fz (.int 40009)) = .ok (.fz (.int (x % 40009))) := fun x => w_mod (by decide)
    have m3 : ∀ x : Int, fMod (.fz (.int x)) (.fz (.int 2147483629)) = .ok (.fz (.int (x % 2147483629))) := fun x => w_mod (by decide)
    have m4 : ∀ x : Int, fMod (.fz (.int x)) (.fz (.int 2147483587)) = .ok (.fz (.int (x % 2147483587))) := fun x => w_mod (by decide)
    have d1 : ∀ x : Int, fDiv (.fz (.int x)) (.fz (.int 1000003)) = .ok (.fz (.int (x / 1000003))) := fun x => w_div (by decide) (by decide)
    have d2 : ∀ x : Int, fDiv (.fz (.int x)) (.fz (.int 64)) = .ok (.fz (.int (x / 64))) := fun x => w_div (by decide) (by decide)
    simp only [Bq,F_law_take,m_law_take,v_forc,v_lcc,pend,cont,take,frz,frzs,getP,setP,Res.of,boolOf,isPl,mutS,mutP,intOf,move,retOf,backs1,put1,fzT,ioOf,chk,early,shut,isTmp,flatB,scal,List.map_cons,List.map_nil,List.cons_append,List.nil_append,List.append_nil,List.replicate_succ,List.replicate_zero,List.replicate,List.length_cons,List.length_nil,List.getElem?_cons_zero,List.getElem?_cons_succ,List.set_cons_zero,List.set_cons_succ,List.all_cons,List.all_nil,List.contains_cons,List.contains_nil,List.elem_cons,List.elem_nil,List.isEmpty_nil,List.isEmpty_cons,Nat.reduceAdd,Nat.reduceSub,Nat.reduceBEq,Nat.reduceLT,Nat.reduceLeDiff,Nat.reduceEqDiff,decide_true,decide_false,Bool.and_true,Bool.true_and,Bool.or_true,Bool.true_or,Bool.or_false,Bool.false_or,Bool.and_false,Bool.false_and,Bool.not_true,Bool.not_false,Bool.false_eq_true,reduceIte,ite_true,ite_false,beq_self_eq_true,Nat.zero_add,reduceCtorEq,and_self,true_and,and_true,ge_iff_le,gt_iff_lt,Nat.succ_eq_add_one,Nat.add_one_sub_one,Nat.zero_lt_succ,Nat.lt_add_left_iff_pos,wipeE,restE,pick,List.filterMap_cons,List.filterMap_nil,Int.reduceLE,Int.reduceLT,Int.reduceNeg,decide_eq_true_eq,Bool.not_eq_true',decide_eq_false_iff_not,isT,seqV,tupV,lstV,Option.getD,ha,w_mod h0,e1,e2,e3,e4,m1,m2,m3,m4,d1,d2]
abbrev cw (cs : List Int) : W := .lst (cs.map fun n => W.fz (.int n))
theorem unfz_cw : ∀ cs : List Int, unfz (cs.map fun n => W.fz (.int n)) = some (cs.map D.int)
  | [] => rfl
  | n :: cs => by
    show (match unfz (cs.map fun n => W.fz (.int n)) with | some ds => some (D.int n :: ds) | none => none) = _
    rw [unfz_cw cs]; rfl
theorem frzs_cw : ∀ cs : List Int, frzs (cs.map fun n => W.fz (.int n)) = cs.map D.int
  | [] => rfl
  | n :: cs => by
    show D.int n :: frzs (cs.map fun n => W.fz (.int n)) = _
    rw [frzs_cw cs]; rfl
theorem ixN_pos {n : Nat} {k : Int} (h0 : 0 ≤ k) (h1 : k < n) : L2.ixN n k = some k.toNat := by unfold L2.ixN; rw [if_pos h0, if_pos h1]
theorem ixcw {cs : List Int} {k v : Int} {j : Nat} (hk : L2.ixN cs.length k = some j) (hv : cs[j]? = some v) : fIdx (cw cs) (.fz (.int k)) = .ok (.fz (.int v)) :=
  w_ix (ds := cs.map D.int) (unfz_cw cs) (by rw [List.length_map]; exact hk) (by rw [List.getElem?_map, hv]; rfl)
theorem ixfl {cs : List Int} {k v : Int} {j : Nat} (hk : L2.ixN cs.length k = some j) (hv : cs[j]? = some v) : fIdx (.fz (.lst (cs.map D.int))) (.fz (.int k)) = .ok (.fz (.int v)) :=
  w_ix (ds := cs.map D.int) rfl (by rw [List.length_map]; exact hk) (by rw [List.getElem?_map, hv]; rfl)
theorem box_ok {cs : List Int} {k : Int} (h0 : 0 ≤ k) (h1 : k < cs.length) : ∃ β : Bx, β.c = 0 ∧ F_law_box [.fz (.lst (cs.map D.int)), .fz (.int k)] = .ok (bx β, [.fz (.lst (cs.map D.int)), .fz (.int k)]) := by
  obtain ⟨v, hv⟩ : ∃ v, cs[k.toNat]? = some v := ⟨cs[k.toNat]'(by omega), List.getElem?_eq_getElem _⟩
  have i1 := ixfl (ixN_pos h0 h1) hv
  have l1 : fLen [.fz (.lst (cs.map D.int))] = .ok (.fz (.int cs.length)) := by show Res.ok (W.fz (.int (cs.map D.int).length)) = _; rw [List.length_map]
  have p1 : fPow (.fz (.int 10)) (.fz (.int 18)) = .ok (.fz (.int 1000000000000000000)) := by kernel_rfl
  have m1 : ∀ x y : Int, fMul (.fz (.int x)) (.fz (.int (if 1000000000000000000 ≤ y then 1 else 0))) = .ok (.fz (.int (x * (if 1000000000000000000 ≤ y then 1 else 0)))) := fun x y => w_mulR (by split <;> decide)
  have m2 : ∀ x : Int, fMod (.fz (.int x)) (.fz (.int 2305843009213693951)) = .ok (.fz (.int (x % 2305843009213693951))) := fun x => w_mod (by decide)
  have m3 : fMul (.fz (.int 39373)) (.fz (.int k)) = .ok (.fz (.int (39373 * k))) := w_mulL (by decide)
  refine ⟨⟨(max v (-v)) * (if 1000000000000000000 ≤ (max v (-v)) then 1 else 0), v % 2305843009213693951 + 39373 * k + 62338, 0⟩, rfl, ?_⟩
  simp only [Bq,F_law_box,m_law_box,v_forc,v_lcc,pend,cont,take,frz,frzs,getP,setP,Res.of,boolOf,isPl,mutS,mutP,intOf,move,retOf,backs1,put1,fzT,ioOf,chk,early,shut,isTmp,flatB,scal,List.map_cons,List.map_nil,List.cons_append,List.nil_append,List.append_nil,List.replicate_succ,List.replicate_zero,List.replicate,List.length_cons,List.length_nil,List.getElem?_cons_zero,List.getElem?_cons_succ,List.set_cons_zero,List.set_cons_succ,List.all_cons,List.all_nil,List.contains_cons,List.contains_nil,List.elem_cons,List.elem_nil,List.isEmpty_nil,List.isEmpty_cons,Nat.reduceAdd,Nat.reduceSub,Nat.reduceBEq,Nat.reduceLT,Nat.reduceLeDiff,Nat.reduceEqDiff,decide_true,decide_false,Bool.and_true,Bool.true_and,Bool.or_true,Bool.true_or,Bool.or_false,Bool.false_or,Bool.and_false,Bool.false_and,Bool.not_true,Bool.not_false,Bool.false_eq_true,reduceIte,ite_true,ite_false,beq_self_eq_true,Nat.zero_add,reduceCtorEq,and_self,true_and,and_true,ge_iff_le,gt_iff_lt,Nat.succ_eq_add_one,Nat.add_one_sub_one,Nat.zero_lt_succ,Nat.lt_add_left_iff_pos,wipeE,restE,pick,List.filterMap_cons,List.filterMap_nil,Int.reduceLE,Int.reduceLT,Int.reduceNeg,decide_eq_true_eq,Bool.not_eq_true',decide_eq_false_iff_not,isT,seqV,tupV,lstV,Option.getD,l1,h1,i1,p1,m1,m2,m3]
theorem cw_set (cs : List Int) (j : Nat) (v : Int) : cw (cs.set j v) = .lst ((cs.map fun n => W.fz (.int n)).set j (.fz (.int v))) := by unfold cw; rw [List.map_set]
def cutL (ns : List Int) (lo hi : Option Int) : List Int := (ns.drop (HT.sIx ns.length 0 lo)).take (HT.sIx ns.length ns.length hi - HT.sIx ns.length 0 lo)
theorem cut_eq (ns : List Int) (lo hi : Option Int)   : Mi.cutD (ns.map D.int) lo hi = (cutL ns lo hi).map D.int := by
  unfold Mi.cutD cutL
  rw [List.length_map, List.map_take, List.map_drop]
theorem loop_ok {s : W} {t : Nat} (ht : 0 < t) (ht2 : t < 1000) : ∀ (vs : List Int) (i : Nat) (cs : List Int) (o3 o4 o5 : Option W), i + vs.length < 1000 → cs.length = t → ∃ cs' o3' o4' o5', cs'.length = t ∧
    forL (gUnp (gsCons (gSet 3) (gsCons (gSet 4) gsNil))) L_law_cells_1 (enumD i (vs.map D.int)) [some s, some (.fz (.int t)), some (cw cs), o3, o4, o5] = .ok (.nx, [some s, some (.fz (.int t)), some (cw cs'), o3', o4', o5'])
  | [], i, cs, o3, o4, o5, _, hc => ⟨cs, o3, o4, o5, hc, rfl⟩
  | v :: vs, i, cs, o3, o4, o5, hi, hc => by
    have hi' : i + 1 + vs.length < 1000 := by simp only [List.length_cons] at hi; omega
    have tp : (0 : Int) < (t : Int) := by omega
    have k0 : 0 ≤ ((i : Nat) : Int) % (t : Int) := Int.emod_nonneg _ (by omega)
    have k1 : ((i : Nat) : Int) % (t : Int) < cs.length := by rw [hc]; exact Int.emod_lt_of_pos _ tp
    have hj := ixN_pos k0 k1
    obtain ⟨x, hx⟩ : ∃ x, cs[(((i : Nat) : Int) % (t : Int)).toNat]? = some x := ⟨cs[(((i : Nat) : Int) % (t : Int)).toNat]'(by omega), List.getElem?_eq_getElem _⟩
    have i1 := ixcw hj hx
    have m1 : fMul (.fz (.int v)) (.fz (.int ((i : Nat) + 2))) = .ok (.fz (.int (v * ((i : Nat) + 2)))) := w_mulR (by simp only [List.length_cons] at hi; omega)
    have md : fMod (.fz (.int ((i : Nat) : Int))) (.fz (.int (t : Int))) = .ok (.fz (.int (((i : Nat) : Int) % (t : Int)))) := w_mod tp
    obtain ⟨cs', o3', o4', o5', hl, e⟩ := loop_ok (s := s) ht ht2 vs (i + 1) (cs.set (((i : Nat) : Int) % (t : Int)).toNat (x + v * ((i : Nat) + 2))) (some (.fz (.int (i : Nat)))) (some (.fz (.int v))) (some (.fz (.int (((i : Nat) : Int) % (t : Int))))) hi' (by rw [List.length_set]; exact hc)
    refine ⟨cs', o3', o4', o5', hl, ?_⟩
    rw [← e]
    have hen : enumD i (List.map D.int (v :: vs)) = .tup [.int (i : Nat), .int v] :: enumD (i + 1) (vs.map D.int) := rfl
    rw [hen]
    simp only [Bq,L_law_cells_1,v_forc,v_lcc,pend,cont,take,frz,frzs,getP,setP,Res.of,boolOf,isPl,mutS,mutP,intOf,move,retOf,backs1,put1,fzT,ioOf,chk,early,shut,isTmp,flatB,scal,List.map_cons,List.map_nil,List.cons_append,List.nil_append,List.append_nil,List.replicate_succ,List.replicate_zero,List.replicate,List.length_cons,List.length_nil,List.getElem?_cons_zero,List.getElem?_cons_succ,List.set_cons_zero,List.set_cons_succ,List.all_cons,List.all_nil,List.contains_cons,List.contains_nil,List.elem_cons,List.elem_nil,List.isEmpty_nil,List.isEmpty_cons,Nat.reduceAdd,Nat.reduceSub,Nat.reduceBEq,Nat.reduceLT,Nat.reduceLeDiff,Nat.reduceEqDiff,decide_true,decide_false,Bool.and_true,Bool.true_and,Bool.or_true,Bool.true_or,Bool.or_false,Bool.false_or,Bool.and_false,Bool.false_and,Bool.not_true,Bool.not_false,Bool.false_eq_true,reduceIte,ite_true,ite_false,beq_self_eq_true,Nat.zero_add,reduceCtorEq,and_self,true_and,and_true,ge_iff_le,gt_iff_lt,Nat.succ_eq_add_one,Nat.add_one_sub_one,Nat.zero_lt_succ,Nat.lt_add_left_iff_pos,wipeE,restE,pick,List.filterMap_cons,List.filterMap_nil,Int.reduceLE,Int.reduceLT,Int.reduceNeg,decide_eq_true_eq,Bool.not_eq_true',decide_eq_false_iff_not,isT,seqV,tupV,lstV,Option.getD,md,i1,m1,List.length_map,hj]
    rw [cw_set]
theorem sl_scr (ns : List Int) (lo hi : Option Int) : fSl (.fz (.scr (ns.map D.int))) lo hi = .ok (cw (cutL ns lo hi)) := by
  show Res.ok (W.lst ((Mi.cutD (ns.map D.int) lo hi).map W.fz)) = _
  rw [cut_eq, List.map_map]; rfl
theorem lst_fl0 : fList [.fz (.lst [])] = .ok (.lst []) := rfl
theorem lst_fl1 (c : Int) (cs : List Int) : fList [.fz (.lst (D.int c :: cs.map D.int))] = .ok (cw (c :: cs)) := by
  show Res.ok (W.lst ((D.int c :: cs.map D.int).map W.fz)) = _
  rw [List.map_cons, List.map_map]; rfl
theorem src_cw (cs : List Int) : srcV (cw cs) = some (cs.map D.int) := by show some (frzs _) = _; rw [frzs_cw]
theorem src0 : srcV (.lst []) = some [] := rfl
theorem cut_lo (ns : List Int) (t : Nat) : (cutL ns none (some (t : Int))).length = min t ns.length := by
  unfold cutL; rw [HT.sIx_none, HT.sIx_nat]; simp
theorem cut_hi (ns : List Int) (t : Nat) (h : ns.length < t) : cutL ns (some (t : Int)) (some 63) = [] := by
  unfold cutL; rw [HT.sIx_nat]
  rw [List.drop_of_length_le (by omega), List.take_nil]
theorem cut_hi2 (ns : List Int) (t : Nat) (h : ns.length ≤ 63) : (cutL ns (some (t : Int)) (some 63)).length ≤ 63 := by
  unfold cutL; simp only [List.length_take, List.length_drop]; omega
theorem cells_ok {ns : List Int} {t : Nat} (ht : 0 < t) (ht2 : t < 63) (hn : ns.length ≤ 63) : ∃ cs : List Int, 0 < cs.length ∧ cs.length ≤ t ∧ F_law_cells [.fz (.scr (ns.map D.int)), .fz (.int t)] = .ok (cw cs, [.fz (.scr (ns.map D.int)), .fz (.int t)]) := by
  have hl := cut_lo ns t
  have hh := cut_hi2 ns t hn
  have ki : ∀ k : Int, (match W.fz (.int k) with | .fz (.int k) => Res.ok k | _ => .err) = .ok k := fun _ => rfl
  by_cases h : ns.length < t
  · have h2 := cut_hi ns t h
    cases hc : cutL ns none (some (t : Int)) with
    | nil =>
      refine ⟨[0], by decide, by simp only [List.length_cons, List.length_nil]; omega, ?_⟩
      have l0 : cw [] = .lst [] := rfl
      simp only [Bq,F_law_cells,m_law_cells,v_forc,v_lcc,pend,cont,take,frz,frzs,getP,setP,Res.of,boolOf,isPl,mutS,mutP,intOf,move,retOf,backs1,put1,fzT,ioOf,chk,early,shut,isTmp,flatB,scal,List.map_cons,List.map_nil,List.cons_append,List.nil_append,List.append_nil,List.replicate_succ,List.replicate_zero,List.replicate,List.length_cons,List.length_nil,List.getElem?_cons_zero,List.getElem?_cons_succ,List.set_cons_zero,List.set_cons_succ,List.all_cons,List.all_nil,List.contains_cons,List.contains_nil,List.elem_cons,List.elem_nil,List.isEmpty_nil,List.isEmpty_cons,Nat.reduceAdd,Nat.reduceSub,Nat.reduceBEq,Nat.reduceLT,Nat.reduceLeDiff,Nat.reduceEqDiff,decide_true,decide_false,Bool.and_true,Bool.true_and,Bool.or_true,Bool.true_or,Bool.or_false,Bool.false_or,Bool.and_false,Bool.false_and,Bool.not_true,Bool.not_false,Bool.false_eq_true,reduceIte,ite_true,ite_false,beq_self_eq_true,Nat.zero_add,reduceCtorEq,and_self,true_and,and_true,ge_iff_le,gt_iff_lt,Nat.succ_eq_add_one,Nat.add_one_sub_one,Nat.zero_lt_succ,Nat.lt_add_left_iff_pos,wipeE,restE,pick,List.filterMap_cons,List.filterMap_nil,Int.reduceLE,Int.reduceLT,Int.reduceNeg,decide_eq_true_eq,Bool.not_eq_true',decide_eq_false_iff_not,isT,seqV,tupV,lstV,Option.getD,sl_scr,frzs_cw,lst_fl0,lst_fl1,src0,hc,h2,src_cw,l0,enumD]
      rfl
    | cons c cs =>
      rw [hc] at hl
      refine ⟨c :: cs, by simp, by rw [hl]; omega, ?_⟩
      simp only [Bq,F_law_cells,m_law_cells,v_forc,v_lcc,pend,cont,take,frz,frzs,getP,setP,Res.of,boolOf,isPl,mutS,mutP,intOf,move,retOf,backs1,put1,fzT,ioOf,chk,early,shut,isTmp,flatB,scal,List.map_cons,List.map_nil,List.cons_append,List.nil_append,List.append_nil,List.replicate_succ,List.replicate_zero,List.replicate,List.length_cons,List.length_nil,List.getElem?_cons_zero,List.getElem?_cons_succ,List.set_cons_zero,List.set_cons_succ,List.all_cons,List.all_nil,List.contains_cons,List.contains_nil,List.elem_cons,List.elem_nil,List.isEmpty_nil,List.isEmpty_cons,Nat.reduceAdd,Nat.reduceSub,Nat.reduceBEq,Nat.reduceLT,Nat.reduceLeDiff,Nat.reduceEqDiff,decide_true,decide_false,Bool.and_true,Bool.true_and,Bool.or_true,Bool.true_or,Bool.or_false,Bool.false_or,Bool.and_false,Bool.false_and,Bool.not_true,Bool.not_false,Bool.false_eq_true,reduceIte,ite_true,ite_false,beq_self_eq_true,Nat.zero_add,reduceCtorEq,and_self,true_and,and_true,ge_iff_le,gt_iff_lt,Nat.succ_eq_add_one,Nat.add_one_sub_one,Nat.zero_lt_succ,Nat.lt_add_left_iff_pos,wipeE,restE,pick,List.filterMap_cons,List.filterMap_nil,Int.reduceLE,Int.reduceLT,Int.reduceNeg,decide_eq_true_eq,Bool.not_eq_true',decide_eq_false_iff_not,isT,seqV,tupV,lstV,Option.getD,sl_scr,frzs_cw,lst_fl0,lst_fl1,src0,hc,h2,src_cw,enumD]
      rfl
  · obtain ⟨c, cs, hc⟩ : ∃ c cs, cutL ns none (some (t : Int)) = c :: cs := by
      cases hc : cutL ns none (some (t : Int)) with
      | nil => rw [hc] at hl; simp only [List.length_nil] at hl; omega
      | cons c cs => exact ⟨c, cs, rfl⟩
    rw [hc] at hl
    obtain ⟨cs', o3', o4', o5', q1, q2⟩ := loop_ok (s := .fz (.scr (ns.map D.int))) ht (by omega) (cutL ns (some (t : Int)) (some 63)) 0 (c :: cs) none none none (by omega) (by rw [hl]; omega)
    refine ⟨cs', by omega, by omega, ?_⟩
    have q3 : forL (gUnp (gsCons (gSet 3) (gsCons (gSet 4) gsNil))) L_law_cells_1 (enumD 0 ((cutL ns (some (t : Int)) (some 63)).map D.int)) [some (.fz (.scr (ns.map D.int))), some (.fz (.int t)), some (.lst (W.fz (.int c) :: cs.map fun n => W.fz (.int n))), none, none, none] = _ := q2
    simp only [Bq,F_law_cells,m_law_cells,v_forc,v_lcc,pend,cont,take,frz,frzs,getP,setP,Res.of,boolOf,isPl,mutS,mutP,intOf,move,retOf,backs1,put1,fzT,ioOf,chk,early,shut,isTmp,flatB,scal,List.map_cons,List.map_nil,List.cons_append,List.nil_append,List.append_nil,List.replicate_succ,List.replicate_zero,List.replicate,List.length_cons,List.length_nil,List.getElem?_cons_zero,List.getElem?_cons_succ,List.set_cons_zero,List.set_cons_succ,List.all_cons,List.all_nil,List.contains_cons,List.contains_nil,List.elem_cons,List.elem_nil,List.isEmpty_nil,List.isEmpty_cons,Nat.reduceAdd,Nat.reduceSub,Nat.reduceBEq,Nat.reduceLT,Nat.reduceLeDiff,Nat.reduceEqDiff,decide_true,decide_false,Bool.and_true,Bool.true_and,Bool.or_true,Bool.true_or,Bool.or_false,Bool.false_or,Bool.and_false,Bool.false_and,Bool.not_true,Bool.not_false,Bool.false_eq_true,reduceIte,ite_true,ite_false,beq_self_eq_true,Nat.zero_add,reduceCtorEq,and_self,true_and,and_true,ge_iff_le,gt_iff_lt,Nat.succ_eq_add_one,Nat.add_one_sub_one,Nat.zero_lt_succ,Nat.lt_add_left_iff_pos,wipeE,restE,pick,List.filterMap_cons,List.filterMap_nil,Int.reduceLE,Int.reduceLT,Int.reduceNeg,decide_eq_true_eq,Bool.not_eq_true',decide_eq_false_iff_not,isT,seqV,tupV,lstV,Option.getD,sl_scr,frzs_cw,lst_fl0,lst_fl1,src0,hc,src_cw,q3]
end Gn
namespace Gn
open Mi PySem
def pln : Nat → D → Prop
  | 0, _ => False
  | n + 1, .tup ds => ds.length ≤ 1000000 ∧ ∀ d ∈ ds, pln n d
  | n + 1, .lst ds => ds.length ≤ 1000000 ∧ ∀ d ∈ ds, pln n d
  | _ + 1, .non => True
  | _ + 1, .bl _ => True
  | _ + 1, .int _ => True
  | _ + 1, .str s => PyData.strOk s = true
  | _ + 1, _ => False
theorem pln_succ : ∀ {n : Nat} {d : D}, pln n d → pln (n + 1) d
  | 0, _, h => h.elim
  | n + 1, .tup ds, h => ⟨h.1, fun d hd => pln_succ (h.2 d hd)⟩
  | n + 1, .lst ds, h => ⟨h.1, fun d hd => pln_succ (h.2 d hd)⟩
  | n + 1, .non, _ => trivial
  | n + 1, .bl _, _ => trivial
  | n + 1, .int _, _ => trivial
  | n + 1, .str _, h => h
  | n + 1, .scr _, h => h.elim
  | n + 1, .obj _ _, h => h.elim
theorem pln_le {n m : Nat} {d : D} (h : pln n d) (k : n ≤ m) : pln m d := by
  induction k with
  | refl => exact h
  | step _ ih => exact pln_succ ih
theorem i_lt_t {ds : List D} : fIsi ["list", "tuple"] (.fz (.tup ds)) = .ok (.fz (.bl true)) := by kernel_rfl
theorem i_lt_l {ds : List D} : fIsi ["list", "tuple"] (.fz (.lst ds)) = .ok (.fz (.bl true)) := by kernel_rfl
theorem i_lt_i {i : Int} : fIsi ["list", "tuple"] (.fz (.int i)) = .ok (.fz (.bl false)) := by kernel_rfl
theorem i_lt_n : fIsi ["list", "tuple"] (.fz .non) = .ok (.fz (.bl false)) := by kernel_rfl
theorem i_lt_b {b : Bool} : fIsi ["list", "tuple"] (.fz (.bl b)) = .ok (.fz (.bl false)) := by kernel_rfl
theorem i_lt_s {s : Str} : fIsi ["list", "tuple"] (.fz (.str s)) = .ok (.fz (.bl false)) := by kernel_rfl
theorem i_l_t {ds : List D} : fIsi ["list"] (.fz (.tup ds)) = .ok (.fz (.bl false)) := by kernel_rfl
theorem i_l_l {ds : List D} : fIsi ["list"] (.fz (.lst ds)) = .ok (.fz (.bl true)) := by kernel_rfl
theorem i_t_t {ds : List D} : fIsi ["tuple"] (.fz (.tup ds)) = .ok (.fz (.bl true)) := by kernel_rfl
theorem i_t_l {ds : List D} : fIsi ["tuple"] (.fz (.lst ds)) = .ok (.fz (.bl false)) := by kernel_rfl
theorem i_bs_i {i : Int} : fIsi ["bool", "str"] (.fz (.int i)) = .ok (.fz (.bl false)) := by kernel_rfl
theorem i_bs_b {b : Bool} : fIsi ["bool", "str"] (.fz (.bl b)) = .ok (.fz (.bl true)) := by kernel_rfl
theorem i_bs_s {s : Str} : fIsi ["bool", "str"] (.fz (.str s)) = .ok (.fz (.bl true)) := by kernel_rfl
theorem i_b_i {i : Int} : fIsi ["bool"] (.fz (.int i)) = .ok (.fz (.bl false)) := by kernel_rfl
theorem i_b_n : fIsi ["bool"] (.fz .non) = .ok (.fz (.bl false)) := by kernel_rfl
theorem i_b_b {b : Bool} : fIsi ["bool"] (.fz (.bl b)) = .ok (.fz (.bl true)) := by kernel_rfl
theorem i_b_s {s : Str} : fIsi ["bool"] (.fz (.str s)) = .ok (.fz (.bl false)) := by kernel_rfl
theorem i_i_i {i : Int} : fIsi ["int"] (.fz (.int i)) = .ok (.fz (.bl true)) := by kernel_rfl
theorem i_i_n : fIsi ["int"] (.fz .non) = .ok (.fz (.bl false)) := by kernel_rfl
theorem is_bl {b : Bool} : fIsN (.fz (.bl b)) (.fz .non) = .ok (.fz (.bl false)) := rfl
theorem is_str {s : Str} : fIsN (.fz (.str s)) (.fz .non) = .ok (.fz (.bl false)) := rfl
theorem e_non : fEq (.fz .non) (.fz .non) = .ok (.fz (.bl true)) := by kernel_rfl
theorem e_strS {s : Str} (h : PyData.strOk s = true) : fEq (.fz (.str s)) (.fz (.str s)) = .ok (.fz (.bl true)) := by
  have h1 : SeqAt.shaped (.str s) = true := by
    show (PyData.canLay0 (.str s) && decide (PyData.depth (.str s) ≤ 64)) = true
    have : PyData.canLay0 (.str s) = PyData.strOk s := by simp only [PyData.canLay0]
    rw [this, h]; rfl
  have h2 : PyData.eqv (.str s) (.str s) = true := by simp [PyData.eqv]
  show Res.bind (if (SeqAt.shaped (.str s) && SeqAt.shaped (.str s)) = true then Res.ok (PyData.eqv (.str s) (.str s)) else .err) _ = _
  rw [h1, h2]; rfl
theorem len_t {ds : List D} : fLen [.fz (.tup ds)] = .ok (.fz (.int ds.length)) := rfl
theorem len_l {ds : List D} : fLen [.fz (.lst ds)] = .ok (.fz (.int ds.length)) := rfl
theorem zip_self (ds : List D) : zipD ds ds = ds.map fun d => D.tup [d, d] := by
  unfold zipD
  induction ds with
  | nil => rfl
  | cons d ds ih => rw [List.zipWith_cons_cons, ih]; rfl
theorem all_true {α : Type} (l : List α) : fAll [.fz (.lst (l.map fun _ => D.bl true))] = .ok (.fz (.bl true)) := by
  have h : ∀ l : List α, blsD (l.map fun _ => D.bl true) = some (l.map fun _ => true) := by
    intro l
    induction l with
    | nil => rfl
    | cons a l ih => show (match blsD (l.map fun _ => D.bl true) with | some ns => some (true :: ns) | none => none) = _; rw [ih]; rfl
  show (match blsD (l.map fun _ => D.bl true) with | some ns => Res.ok (W.fz (.bl (ns.all id))) | none => .err) = _
  rw [h]
  have : ((l.map fun _ => true).all id) = true := by rw [List.all_eq_true]; intro x hx; obtain ⟨_, _, e⟩ := List.mem_map.mp hx; rw [← e]; rfl
  show Res.ok (W.fz (.bl ((l.map fun _ => true).all id))) = _
  rw [this]
theorem frzs_fz {α : Type} (g : α → D) : ∀ l : List α, frzs (l.map fun x => W.fz (g x)) = l.map g
  | [] => rfl
  | x :: l => by show g x :: frzs (l.map fun x => W.fz (g x)) = _; rw [frzs_fz g l]; rfl
theorem same_lc {F : Fn} {x y : Option W} : ∀ ds : List D, (∀ d ∈ ds, F [.fz d, .fz d] = .ok (.fz (.bl true), [.fz d, .fz d])) →
    lcL [2, 3] (gUnp (gsCons (gSet 2) (gsCons (gSet 3) gsNil))) cYes (E_law_same_1 F) (ds.map fun d => D.tup [d, d]) [x, y, none, none] = .ok (ds.map fun _ => W.fz (.bl true), [x, y, none, none])
  | [], _ => rfl
  | d :: ds, h => by
    have ih := same_lc (x := x) (y := y) ds fun e he => h e (by simp [he])
    have h0 := h d (by simp)
    simp only [List.map_cons (f := fun d => D.tup [d, d]), E_law_same_1, v_bin6, v_bin5, v_bin4, v_bin3, v_bin2, v_bin1, v_bin, v_un3, v_un2, v_un1, v_un, v_test2, v_test1, v_test, v_cons3, v_cons2, v_cons1, v_cons, v_star4, v_star3, v_star2, v_star1, v_star, v_tup2, v_tup1, v_tup, v_lst2, v_lst1, v_lst, v_callB3, v_callB2, v_callB1, v_callB, v_andT1, v_andT, v_orT1, v_orT, v_notT1, v_notT, v_and2, v_and1, v_and, v_or2, v_or1, v_or, v_not2, v_not1, v_not, v_if1, v_if, v_orL1, v_orL, v_seq1, v_seq, v_ifS1, v_ifS, v_ret2, v_ret1, v_ret, v_drop1, v_drop, v_asg3, v_asg2, v_asg1, v_asg, v_gset1, v_gset, v_gsub5, v_gsub4, v_gsub3, v_gsub2, v_gsub1, v_gsub, v_gsc1, v_gsc, v_gsn1, v_gsn, v_for1, v_for, v_forc2, v_forc1, v_forc, v_lcc2, v_lcc1, v_lcc, v_lcT3, v_lcT2, v_lcT1, v_lcT, v_lc4, v_lc1, v_lc, v_def4, v_def3, v_def2, v_def1, v_def, v_callV4, v_callV3, v_callV2, v_callV1, v_callV, v_callP4, v_callP3, v_callP2, v_callP1, v_callP, v_callKV5, v_callKV4, v_callKV3, v_callKV2, v_callKV1, v_callKV, v_callKP5, v_callKP4, v_callKP3, v_callKP2, v_callKP1, v_callKP, v_callIO5, v_callIO4, v_callIO3, v_callIO2, v_callIO1, v_callIO, v_app7, v_app6, v_app5, v_app4, v_app3, v_app2, v_app1, v_app, v_sl6, v_sl5, v_sl4, v_sl3, v_sl2, v_sl1, v_sl, v_oS2, v_oS1, v_oS, v_iseq3, v_iseq2, v_iseq1, v_iseq, v_ienum3, v_ienum2, v_ienum1, v_ienum, v_irg1, v_irg, v_rgTup3, v_rgTup2, v_rgTup1, v_rgTup, v_argsc2, v_argsc1, v_argsc, v_putc1, v_putc, v_takesc2, v_takesc1, v_takesc, v_contsc2, v_contsc1, v_contsc, v_backsI2, v_backsI1, v_backsI, v_binF7, v_binF6, v_binF5, v_binF4, v_binF3, v_binF2, v_binF1, v_binF, v_par22, v_par21, v_par2, v_par32, v_par31, v_par3, v_ext8, v_ext7, v_ext6, v_ext5, v_ext4, v_ext3, v_ext2, v_ext1, v_ext, v_zip2, v_zip1, v_zip, v_irgB3, v_irgB2, v_irgB1, v_irgB, v_rgLst3, v_rgLst2, v_rgLst1, v_rgLst, v_rgTupB5, v_rgTupB4, v_rgTupB3, v_rgTupB2, v_rgTupB1, v_rgTupB, v_rgLstB5, v_rgLstB4, v_rgLstB3, v_rgLstB2, v_rgLstB1, v_rgLstB, v_ok, v_c, v_nil, v_next, v_yes, v_oN, v_gtup, v_var, v_for0, v_lc0, v_args0, v_put0, v_takes0, v_conts0, v_backs0, w_add, w_sub, w_neg, w_lt, w_le, w_gt, w_ge, w_intI, w_intB, w_ix0, w_ix1, w_ix2, w_i0, w_i1, w_i2, pend, cont, take, frz, frzs, getP, setP, Res.of, boolOf, isPl, mutS, mutP, intOf, move, retOf, backs1, put1, fzT, ioOf, chk, early, shut, isTmp, flatB, scal, List.map_cons, List.map_nil, List.cons_append, List.nil_append, List.append_nil, List.replicate_succ, List.replicate_zero, List.replicate, List.length_cons, List.length_nil, List.getElem?_cons_zero, List.getElem?_cons_succ, List.set_cons_zero, List.set_cons_succ, List.all_cons, List.all_nil, List.contains_cons, List.contains_nil, List.elem_cons, List.elem_nil, List.isEmpty_nil, List.isEmpty_cons, Nat.reduceAdd, Nat.reduceSub, Nat.reduceBEq, Nat.reduceLT, Nat.reduceLeDiff, Nat.reduceEqDiff, decide_true, decide_false, Bool.and_true, Bool.true_and, Bool.or_true, Bool.true_or, Bool.or_false, Bool.false_or, Bool.and_false, Bool.false_and, Bool.not_true, Bool.not_false, Bool.false_eq_true, reduceIte, ite_true, ite_false, beq_self_eq_true, Nat.zero_add, reduceCtorEq, and_self, true_and, and_true, ge_iff_le, gt_iff_lt, Nat.succ_eq_add_one, Nat.add_one_sub_one, Nat.zero_lt_succ, Nat.lt_add_left_iff_pos, wipeE, restE, pick, List.filterMap_cons, List.filterMap_nil, u_irg, u_irgB, Int.reduceLE, Int.reduceLT, Int.reduceNeg, u_unT, u_unL, u_unW, u_max, u_min, u_abs, u_tup, u_lst, u_lc, u_app0, u_app, u_ext0, u_ext, u_par2, u_par3, u_zip, u_aug0, u_aug, u_aug2, u_ch, u_ch1, u_ch2, u_ch3, e_int, ne_int, e_bl, ne_bl, q_aa, q_af, q_ac, q_fa, q_ff, q_fc, q_ca, q_cf, q_cc, is_non, is_int, isn_non, isn_int, ix_t0, ix_t1, ix_t2, ix_l0, ix_l1, x_asc, x_kco, x_ite, decide_eq_true_eq, Bool.not_eq_true', decide_eq_false_iff_not, u_srT, u_srL, u_srW, isT, seqV, tupV, lstV, u_join, Option.getD, h0, ih]
theorem same_ok : ∀ (n : Nat) (d : D), pln n d → F_law_same n [.fz d, .fz d] = .ok (.fz (.bl true), [.fz d, .fz d])
  | 0, _, h => h.elim
  | n + 1, .tup ds, h => by
    have e := same_lc (F := F_law_same n) (x := some (.fz (.tup ds))) (y := some (.fz (.tup ds))) ds fun d hd => same_ok n d (h.2 d hd)
    have hl : (ds.map fun d => D.tup [d, d]).length ≤ 1000000 := by rw [List.length_map]; exact h.1
    simp only [Bq,F_law_same,m_law_same,v_forc,v_lcc,pend,cont,take,frz,frzs,getP,setP,Res.of,boolOf,isPl,mutS,mutP,intOf,move,retOf,backs1,put1,fzT,ioOf,chk,early,shut,isTmp,flatB,scal,List.map_cons,List.map_nil,List.cons_append,List.nil_append,List.append_nil,List.replicate_succ,List.replicate_zero,List.replicate,List.length_cons,List.length_nil,List.getElem?_cons_zero,List.getElem?_cons_succ,List.set_cons_zero,List.set_cons_succ,List.all_cons,List.all_nil,List.contains_cons,List.contains_nil,List.elem_cons,List.elem_nil,List.isEmpty_nil,List.isEmpty_cons,Nat.reduceAdd,Nat.reduceSub,Nat.reduceBEq,Nat.reduceLT,Nat.reduceLeDiff,Nat.reduceEqDiff,decide_true,decide_false,Bool.and_true,Bool.true_and,Bool.or_true,Bool.true_or,Bool.or_false,Bool.false_or,Bool.and_false,Bool.false_and,Bool.not_true,Bool.not_false,Bool.false_eq_true,reduceIte,ite_true,ite_false,beq_self_eq_true,Nat.zero_add,reduceCtorEq,and_self,true_and,and_true,ge_iff_le,gt_iff_lt,Nat.succ_eq_add_one,Nat.add_one_sub_one,Nat.zero_lt_succ,Nat.lt_add_left_iff_pos,wipeE,restE,pick,List.filterMap_cons,List.filterMap_nil,Int.reduceLE,Int.reduceLT,Int.reduceNeg,decide_eq_true_eq,Bool.not_eq_true',decide_eq_false_iff_not,isT,seqV,tupV,lstV,Option.getD,i_lt_t,i_l_t,i_t_t,len_t,zip_self,hl,e,frzs_fz,all_true,bne_self_eq_false]
  | n + 1, .lst ds, h => by
    have e := same_lc (F := F_law_same n) (x := some (.fz (.lst ds))) (y := some (.fz (.lst ds))) ds fun d hd => same_ok n d (h.2 d hd)
    have hl : (ds.map fun d => D.tup [d, d]).length ≤ 1000000 := by rw [List.length_map]; exact h.1
    simp only [Bq,F_law_same,m_law_same,v_forc,v_lcc,pend,cont,take,frz,frzs,getP,setP,Res.of,boolOf,isPl,mutS,mutP,intOf,move,retOf,backs1,put1,fzT,ioOf,chk,early,shut,isTmp,flatB,scal,List.map_cons,List.map_nil,List.cons_append,List.nil_append,List.append_nil,List.replicate_succ,List.replicate_zero,List.replicate,List.length_cons,List.length_nil,List.getElem?_cons_zero,List.getElem?_cons_succ,List.set_cons_zero,List.set_cons_succ,List.all_cons,List.all_nil,List.contains_cons,List.contains_nil,List.elem_cons,List.elem_nil,List.isEmpty_nil,List.isEmpty_cons,Nat.reduceAdd,Nat.reduceSub,Nat.reduceBEq,Nat.reduceLT,Nat.reduceLeDiff,Nat.reduceEqDiff,decide_true,decide_false,Bool.and_true,Bool.true_and,Bool.or_true,Bool.true_or,Bool.or_false,Bool.false_or,Bool.and_false,Bool.false_and,Bool.not_true,Bool.not_false,Bool.false_eq_true,reduceIte,ite_true,ite_false,beq_self_eq_true,Nat.zero_add,reduceCtorEq,and_self,true_and,and_true,ge_iff_le,gt_iff_lt,Nat.succ_eq_add_one,Nat.add_one_sub_one,Nat.zero_lt_succ,Nat.lt_add_left_iff_pos,wipeE,restE,pick,List.filterMap_cons,List.filterMap_nil,Int.reduceLE,Int.reduceLT,Int.reduceNeg,decide_eq_true_eq,Bool.not_eq_true',decide_eq_false_iff_not,isT,seqV,tupV,lstV,Option.getD,i_lt_l,i_l_l,i_t_l,len_l,zip_self,hl,e,frzs_fz,all_true,bne_self_eq_false]
  | n + 1, .non, _ => by simp only [Bq,F_law_same,m_law_same,v_forc,v_lcc,pend,cont,take,frz,frzs,getP,setP,Res.of,boolOf,isPl,mutS,mutP,intOf,move,retOf,backs1,put1,fzT,ioOf,chk,early,shut,isTmp,flatB,scal,List.map_cons,List.map_nil,List.cons_append,List.nil_append,List.append_nil,List.replicate_succ,List.replicate_zero,List.replicate,List.length_cons,List.length_nil,List.getElem?_cons_zero,List.getElem?_cons_succ,List.set_cons_zero,List.set_cons_succ,List.all_cons,List.all_nil,List.contains_cons,List.contains_nil,List.elem_cons,List.elem_nil,List.isEmpty_nil,List.isEmpty_cons,Nat.reduceAdd,Nat.reduceSub,Nat.reduceBEq,Nat.reduceLT,Nat.reduceLeDiff,Nat.reduceEqDiff,decide_true,decide_false,Bool.and_true,Bool.true_and,Bool.or_true,Bool.true_or,Bool.or_false,Bool.false_or,Bool.and_false,Bool.false_and,Bool.not_true,Bool.not_false,Bool.false_eq_true,reduceIte,ite_true,ite_false,beq_self_eq_true,Nat.zero_add,reduceCtorEq,and_self,true_and,and_true,ge_iff_le,gt_iff_lt,Nat.succ_eq_add_one,Nat.add_one_sub_one,Nat.zero_lt_succ,Nat.lt_add_left_iff_pos,wipeE,restE,pick,List.filterMap_cons,List.filterMap_nil,Int.reduceLE,Int.reduceLT,Int.reduceNeg,decide_eq_true_eq,Bool.not_eq_true',decide_eq_false_iff_not,isT,seqV,tupV,lstV,Option.getD,i_lt_n,i_b_n,e_non]
  | n + 1, .bl b, _ => by simp only [Bq,F_law_same,m_law_same,v_forc,v_lcc,pend,cont,take,frz,frzs,getP,setP,Res.of,boolOf,isPl,mutS,mutP,intOf,move,retOf,backs1,put1,fzT,ioOf,chk,early,shut,isTmp,flatB,scal,List.map_cons,List.map_nil,List.cons_append,List.nil_append,List.append_nil,List.replicate_succ,List.replicate_zero,List.replicate,List.length_cons,List.length_nil,List.getElem?_cons_zero,List.getElem?_cons_succ,List.set_cons_zero,List.set_cons_succ,List.all_cons,List.all_nil,List.contains_cons,List.contains_nil,List.elem_cons,List.elem_nil,List.isEmpty_nil,List.isEmpty_cons,Nat.reduceAdd,Nat.reduceSub,Nat.reduceBEq,Nat.reduceLT,Nat.reduceLeDiff,Nat.reduceEqDiff,decide_true,decide_false,Bool.and_true,Bool.true_and,Bool.or_true,Bool.true_or,Bool.or_false,Bool.false_or,Bool.and_false,Bool.false_and,Bool.not_true,Bool.not_false,Bool.false_eq_true,reduceIte,ite_true,ite_false,beq_self_eq_true,Nat.zero_add,reduceCtorEq,and_self,true_and,and_true,ge_iff_le,gt_iff_lt,Nat.succ_eq_add_one,Nat.add_one_sub_one,Nat.zero_lt_succ,Nat.lt_add_left_iff_pos,wipeE,restE,pick,List.filterMap_cons,List.filterMap_nil,Int.reduceLE,Int.reduceLT,Int.reduceNeg,decide_eq_true_eq,Bool.not_eq_true',decide_eq_false_iff_not,isT,seqV,tupV,lstV,Option.getD,i_lt_b,i_bs_b,i_b_b,is_bl]
  | n + 1, .int i, _ => by simp only [Bq,F_law_same,m_law_same,v_forc,v_lcc,pend,cont,take,frz,frzs,getP,setP,Res.of,boolOf,isPl,mutS,mutP,intOf,move,retOf,backs1,put1,fzT,ioOf,chk,early,shut,isTmp,flatB,scal,List.map_cons,List.map_nil,List.cons_append,List.nil_append,List.append_nil,List.replicate_succ,List.replicate_zero,List.replicate,List.length_cons,List.length_nil,List.getElem?_cons_zero,List.getElem?_cons_succ,List.set_cons_zero,List.set_cons_succ,List.all_cons,List.all_nil,List.contains_cons,List.contains_nil,List.elem_cons,List.elem_nil,List.isEmpty_nil,List.isEmpty_cons,Nat.reduceAdd,Nat.reduceSub,Nat.reduceBEq,Nat.reduceLT,Nat.reduceLeDiff,Nat.reduceEqDiff,decide_true,decide_false,Bool.and_true,Bool.true_and,Bool.or_true,Bool.true_or,Bool.or_false,Bool.false_or,Bool.and_false,Bool.false_and,Bool.not_true,Bool.not_false,Bool.false_eq_true,reduceIte,ite_true,ite_false,beq_self_eq_true,Nat.zero_add,reduceCtorEq,and_self,true_and,and_true,ge_iff_le,gt_iff_lt,Nat.succ_eq_add_one,Nat.add_one_sub_one,Nat.zero_lt_succ,Nat.lt_add_left_iff_pos,wipeE,restE,pick,List.filterMap_cons,List.filterMap_nil,Int.reduceLE,Int.reduceLT,Int.reduceNeg,decide_eq_true_eq,Bool.not_eq_true',decide_eq_false_iff_not,isT,seqV,tupV,lstV,Option.getD,i_lt_i,i_bs_i,i_b_i,i_i_i]
  | n + 1, .str s, h => by
    have e := e_strS h
    simp only [Bq,F_law_same,m_law_same,v_forc,v_lcc,pend,cont,take,frz,frzs,getP,setP,Res.of,boolOf,isPl,mutS,mutP,intOf,move,retOf,backs1,put1,fzT,ioOf,chk,early,shut,isTmp,flatB,scal,List.map_cons,List.map_nil,List.cons_append,List.nil_append,List.append_nil,List.replicate_succ,List.replicate_zero,List.replicate,List.length_cons,List.length_nil,List.getElem?_cons_zero,List.getElem?_cons_succ,List.set_cons_zero,List.set_cons_succ,List.all_cons,List.all_nil,List.contains_cons,List.contains_nil,List.elem_cons,List.elem_nil,List.isEmpty_nil,List.isEmpty_cons,Nat.reduceAdd,Nat.reduceSub,Nat.reduceBEq,Nat.reduceLT,Nat.reduceLeDiff,Nat.reduceEqDiff,decide_true,decide_false,Bool.and_true,Bool.true_and,Bool.or_true,Bool.true_or,Bool.or_false,Bool.false_or,Bool.and_false,Bool.false_and,Bool.not_true,Bool.not_false,Bool.false_eq_true,reduceIte,ite_true,ite_false,beq_self_eq_true,Nat.zero_add,reduceCtorEq,and_self,true_and,and_true,ge_iff_le,gt_iff_lt,Nat.succ_eq_add_one,Nat.add_one_sub_one,Nat.zero_lt_succ,Nat.lt_add_left_iff_pos,wipeE,restE,pick,List.filterMap_cons,List.filterMap_nil,Int.reduceLE,Int.reduceLT,Int.reduceNeg,decide_eq_true_eq,Bool.not_eq_true',decide_eq_false_iff_not,isT,seqV,tupV,lstV,Option.getD,i_lt_s,i_bs_s,i_b_s,is_str,e]
  | n + 1, .scr _, h => h.elim
  | n + 1, .obj _ _, h => h.elim
theorem same40 {d : D} (n : Nat) (h : pln n d) (hn : n ≤ 40) : F_law_same 40 [.fz d, .fz d] = .ok (.fz (.bl true), [.fz d, .fz d]) := same_ok 40 d (pln_le h hn)
mutual
theorem pln_py : ∀ (n : Nat) (d : D), pln n d → ∃ p, py d = some p ∧ PyData.canLay0 p = true ∧ PyData.depth p ≤ n ∧ PyData.eqv p p = true
  | 0, _, h => h.elim
  | n + 1, .tup ds, h => by
    obtain ⟨ps, h1, h2, h3, h4⟩ := pln_pys n ds h.2
    exact ⟨.tuple ps, by simp only [py, h1], by simp only [PyData.canLay0, h2], by simp only [PyData.depth]; omega, by simp only [PyData.eqv, h4]⟩
  | n + 1, .lst ds, h => by
    obtain ⟨ps, h1, h2, h3, h4⟩ := pln_pys n ds h.2
    exact ⟨.list ps, by simp only [py, h1], by simp only [PyData.canLay0, h2], by simp only [PyData.depth]; omega, by simp only [PyData.eqv, h4]⟩
  | n + 1, .non, _ => ⟨.none, rfl, by simp only [PyData.canLay0], by simp only [PyData.depth]; omega, by simp only [PyData.eqv]⟩
  | n + 1, .bl b, _ => ⟨.bool b, rfl, by simp only [PyData.canLay0], by simp only [PyData.depth]; omega, by simp only [PyData.eqv, beq_self_eq_true]⟩
  | n + 1, .int i, _ => ⟨.int i, rfl, by simp only [PyData.canLay0], by simp only [PyData.depth]; omega, by simp only [PyData.eqv, beq_self_eq_true]⟩
  | n + 1, .str s, h => ⟨.str s, rfl, by simp only [PyData.canLay0]; exact h, by simp only [PyData.depth]; omega, by simp only [PyData.eqv, beq_self_eq_true]⟩
  | n + 1, .scr _, h => h.elim
  | n + 1, .obj _ _, h => h.elim
theorem pln_pys : ∀ (n : Nat) (ds : List D), (∀ d ∈ ds, pln n d) → ∃ ps, pys ds = some ps ∧ PyData.canLayAll0 ps = true ∧ PyData.depthAll ps ≤ n ∧ PyData.eqvAll ps ps = true
  | n, [], _ => ⟨[], rfl, by simp only [PyData.canLayAll0], by simp only [PyData.depthAll]; omega, by simp only [PyData.eqvAll]⟩
  | n, d :: ds, h => by
    obtain ⟨p, h1, h2, h3, h4⟩ := pln_py n d (h d (by simp))
    obtain ⟨ps, g1, g2, g3, g4⟩ := pln_pys n ds fun e he => h e (by simp [he])
    exact ⟨p :: ps, by simp only [pys, h1, g1], by simp only [PyData.canLayAll0, h2, g2, Bool.and_self], by simp only [PyData.depthAll]; omega, by simp only [PyData.eqvAll, h4, g4, Bool.and_self]⟩
end
theorem shp {p : PyData} {n : Nat} (h : PyData.canLay0 p = true) (h2 : PyData.depth p ≤ n) (hn : n ≤ 60) : SeqAt.shaped p = true := by
  unfold SeqAt.shaped
  rw [h, decide_eq_true (show PyData.depth p ≤ 64 by omega)]; rfl
theorem eq_nil {n : Nat} {ds : List D} (h : ∀ d ∈ ds, pln n d) (hn : n < 60) : fEq (.fz (.lst ds)) (.fz (.lst [])) = .ok (.fz (.bl ds.isEmpty)) := by
  obtain ⟨ps, h1, h2, h3, h4⟩ := pln_pys n ds h
  have hs : SeqAt.shaped (.list ps) = true := shp (n := n + 1) (by simp only [PyData.canLay0, h2]) (by simp only [PyData.depth]; omega) (by omega)
  have h0 : SeqAt.shaped (.list []) = true := by decide +kernel
  have e : PyData.eqv (.list ps) (.list []) = ds.isEmpty := by
    cases ds with
    | nil => simp only [pys] at h1; cases h1; simp [PyData.eqv, PyData.eqvAll]
    | cons d ds =>
      cases ps with
      | nil =>
        simp only [pys] at h1
        cases e : py d with
        | none => rw [e] at h1; cases h1
        | some p => rw [e] at h1; cases e2 : pys ds with
          | none => rw [e2] at h1; cases h1
          | some q => rw [e2] at h1; cases h1
      | cons p ps => simp [PyData.eqv, PyData.eqvAll]
  have hp : py (.lst ds) = some (.list ps) := by simp only [py, h1]
  have hq : py (.lst []) = some (.list []) := by simp only [py, pys]
  unfold fEq eqW
  simp only [frz, hp, hq, hs, h0, e, Bool.and_self, if_true, v_ok]
end Gn
namespace Gn
open Mi PySem
theorem run2 {n : Nat} {c : CS} {x y : D} {w : W} {ρ : En} {x' y' : Option W} (h : c (some (.fz x) :: some (.fz y) :: List.replicate n none) = .ok (.ret w, x' :: y' :: ρ)) : runDef 2 (n + 2) (ioOf []) c [.fz x, .fz y] = .ok (w, [.fz x, .fz y]) := by
  have h2 : c ([W.fz x, W.fz y].map some ++ List.replicate (n + 2 - 2) none) = .ok (.ret w, x' :: y' :: ρ) := h
  rw [v_def, show chk (([W.fz x, W.fz y] : List W).length == 2) = .ok () from rfl, v_ok, v_def1, h2, v_ok, v_def2]
  rfl
theorem seqN {A B : CS} {ρ ρ1 : En} {r : Res (Fl × En)} (h : A ρ = .ok (.nx, ρ1)) (h2 : B ρ1 = r) : cSeq A B ρ = r := by
  simp only [Bq,v_forc,v_lcc,pend,cont,take,frz,frzs,getP,setP,Res.of,boolOf,isPl,mutS,mutP,intOf,move,retOf,backs1,put1,fzT,ioOf,chk,early,shut,isTmp,flatB,scal,List.map_cons,List.map_nil,List.cons_append,List.nil_append,List.append_nil,List.replicate_succ,List.replicate_zero,List.replicate,List.length_cons,List.length_nil,List.getElem?_cons_zero,List.getElem?_cons_succ,List.set_cons_zero,List.set_cons_succ,List.all_cons,List.all_nil,List.contains_cons,List.contains_nil,List.elem_cons,List.elem_nil,List.isEmpty_nil,List.isEmpty_cons,Nat.reduceAdd,Nat.reduceSub,Nat.reduceBEq,Nat.reduceLT,Nat.reduceLeDiff,Nat.reduceEqDiff,decide_true,decide_false,Bool.and_true,Bool.true_and,Bool.or_true,Bool.true_or,Bool.or_false,Bool.false_or,Bool.and_false,Bool.false_and,Bool.not_true,Bool.not_false,Bool.false_eq_true,reduceIte,ite_true,ite_false,beq_self_eq_true,Nat.zero_add,reduceCtorEq,and_self,true_and,and_true,ge_iff_le,gt_iff_lt,Nat.succ_eq_add_one,Nat.add_one_sub_one,Nat.zero_lt_succ,Nat.lt_add_left_iff_pos,wipeE,restE,pick,List.filterMap_cons,List.filterMap_nil,Int.reduceLE,Int.reduceLT,Int.reduceNeg,decide_eq_true_eq,Bool.not_eq_true',decide_eq_false_iff_not,isT,seqV,tupV,lstV,Option.getD,h,h2]
theorem seqR {A B : CS} {ρ ρ1 : En} {w : W} (h : A ρ = .ok (.ret w, ρ1)) : cSeq A B ρ = .ok (.ret w, ρ1) := by
  simp only [Bq,v_forc,v_lcc,pend,cont,take,frz,frzs,getP,setP,Res.of,boolOf,isPl,mutS,mutP,intOf,move,retOf,backs1,put1,fzT,ioOf,chk,early,shut,isTmp,flatB,scal,List.map_cons,List.map_nil,List.cons_append,List.nil_append,List.append_nil,List.replicate_succ,List.replicate_zero,List.replicate,List.length_cons,List.length_nil,List.getElem?_cons_zero,List.getElem?_cons_succ,List.set_cons_zero,List.set_cons_succ,List.all_cons,List.all_nil,List.contains_cons,List.contains_nil,List.elem_cons,List.elem_nil,List.isEmpty_nil,List.isEmpty_cons,Nat.reduceAdd,Nat.reduceSub,Nat.reduceBEq,Nat.reduceLT,Nat.reduceLeDiff,Nat.reduceEqDiff,decide_true,decide_false,Bool.and_true,Bool.true_and,Bool.or_true,Bool.true_or,Bool.or_false,Bool.false_or,Bool.and_false,Bool.false_and,Bool.not_true,Bool.not_false,Bool.false_eq_true,reduceIte,ite_true,ite_false,beq_self_eq_true,Nat.zero_add,reduceCtorEq,and_self,true_and,and_true,ge_iff_le,gt_iff_lt,Nat.succ_eq_add_one,Nat.add_one_sub_one,Nat.zero_lt_succ,Nat.lt_add_left_iff_pos,wipeE,restE,pick,List.filterMap_cons,List.filterMap_nil,Int.reduceLE,Int.reduceLT,Int.reduceNeg,decide_eq_true_eq,Bool.not_eq_true',decide_eq_false_iff_not,isT,seqV,tupV,lstV,Option.getD,h]
theorem for_nx {g : CG} {L : CS} {d : D} {ds : List D} {ρ ρ1 ρ2 : En} {r : Res (Fl × En)} (h1 : g (.fz d) ρ = .ok ρ1) (h2 : L ρ1 = .ok (.nx, ρ2)) (h3 : forL g L ds ρ2 = r) : forL g L (d :: ds) ρ = r := by
  simp only [Bq,v_forc,v_lcc,pend,cont,take,frz,frzs,getP,setP,Res.of,boolOf,isPl,mutS,mutP,intOf,move,retOf,backs1,put1,fzT,ioOf,chk,early,shut,isTmp,flatB,scal,List.map_cons,List.map_nil,List.cons_append,List.nil_append,List.append_nil,List.replicate_succ,List.replicate_zero,List.replicate,List.length_cons,List.length_nil,List.getElem?_cons_zero,List.getElem?_cons_succ,List.set_cons_zero,List.set_cons_succ,List.all_cons,List.all_nil,List.contains_cons,List.contains_nil,List.elem_cons,List.elem_nil,List.isEmpty_nil,List.isEmpty_cons,Nat.reduceAdd,Nat.reduceSub,Nat.reduceBEq,Nat.reduceLT,Nat.reduceLeDiff,Nat.reduceEqDiff,decide_true,decide_false,Bool.and_true,Bool.true_and,Bool.or_true,Bool.true_or,Bool.or_false,Bool.false_or,Bool.and_false,Bool.false_and,Bool.not_true,Bool.not_false,Bool.false_eq_true,reduceIte,ite_true,ite_false,beq_self_eq_true,Nat.zero_add,reduceCtorEq,and_self,true_and,and_true,ge_iff_le,gt_iff_lt,Nat.succ_eq_add_one,Nat.add_one_sub_one,Nat.zero_lt_succ,Nat.lt_add_left_iff_pos,wipeE,restE,pick,List.filterMap_cons,List.filterMap_nil,Int.reduceLE,Int.reduceLT,Int.reduceNeg,decide_eq_true_eq,Bool.not_eq_true',decide_eq_false_iff_not,isT,seqV,tupV,lstV,Option.getD,h1,h2,h3]
end Gn
namespace Gn
open Mi PySem
def softN : Nat → D → D
  | n + 1, .tup ds => .lst (ds.map (softN n))
  | n + 1, .lst ds => .lst (ds.map (softN n))
  | _, d => d
theorem lists_lc {F : Fn} {x : Option W} {g : D → D} : ∀ ds : List D, (∀ d ∈ ds, ∃ w, F [.fz d] = .ok (w, [.fz d]) ∧ frz w = g d) →
    ∃ ws, lcL [1] (gSet 1) cYes (E_law_lists_1 F) ds [x, none] = .ok (ws, [x, none]) ∧ frzs ws = ds.map g
  | [], _ => ⟨[], rfl, rfl⟩
  | d :: ds, h => by
    obtain ⟨ws, ih, e⟩ := lists_lc (x := x) (g := g) ds fun e he => h e (by simp [he])
    obtain ⟨w, h0, h1⟩ := h d (by simp)
    refine ⟨w :: ws, ?_, ?_⟩
    · simp only [Bq,E_law_lists_1,v_forc,v_lcc,pend,cont,take,frz,frzs,getP,setP,Res.of,boolOf,isPl,mutS,mutP,intOf,move,retOf,backs1,put1,fzT,ioOf,chk,early,shut,isTmp,flatB,scal,List.map_cons,List.map_nil,List.cons_append,List.nil_append,List.append_nil,List.replicate_succ,List.replicate_zero,List.replicate,List.length_cons,List.length_nil,List.getElem?_cons_zero,List.getElem?_cons_succ,List.set_cons_zero,List.set_cons_succ,List.all_cons,List.all_nil,List.contains_cons,List.contains_nil,List.elem_cons,List.elem_nil,List.isEmpty_nil,List.isEmpty_cons,Nat.reduceAdd,Nat.reduceSub,Nat.reduceBEq,Nat.reduceLT,Nat.reduceLeDiff,Nat.reduceEqDiff,decide_true,decide_false,Bool.and_true,Bool.true_and,Bool.or_true,Bool.true_or,Bool.or_false,Bool.false_or,Bool.and_false,Bool.false_and,Bool.not_true,Bool.not_false,Bool.false_eq_true,reduceIte,ite_true,ite_false,beq_self_eq_true,Nat.zero_add,reduceCtorEq,and_self,true_and,and_true,ge_iff_le,gt_iff_lt,Nat.succ_eq_add_one,Nat.add_one_sub_one,Nat.zero_lt_succ,Nat.lt_add_left_iff_pos,wipeE,restE,pick,List.filterMap_cons,List.filterMap_nil,Int.reduceLE,Int.reduceLT,Int.reduceNeg,decide_eq_true_eq,Bool.not_eq_true',decide_eq_false_iff_not,isT,seqV,tupV,lstV,Option.getD,h0,ih]
    · rw [List.map_cons, ← h1, ← e]; rfl
theorem lists_ok : ∀ (n : Nat) (d : D), pln n d → ∃ w, F_law_lists n [.fz d] = .ok (w, [.fz d]) ∧ frz w = softN n d
  | 0, _, h => h.elim
  | n + 1, .tup ds, h => by
    obtain ⟨ws, e, e2⟩ := lists_lc (F := F_law_lists n) (x := some (.fz (.tup ds))) (g := softN n) ds fun d hd => lists_ok n d (h.2 d hd)
    have hl := h.1
    refine ⟨.lst ws, ?_, by rw [softN, ← e2]; rfl⟩
    simp only [Bq,F_law_lists,m_law_lists,v_forc,v_lcc,pend,cont,take,frz,frzs,getP,setP,Res.of,boolOf,isPl,mutS,mutP,intOf,move,retOf,backs1,put1,fzT,ioOf,chk,early,shut,isTmp,flatB,scal,List.map_cons,List.map_nil,List.cons_append,List.nil_append,List.append_nil,List.replicate_succ,List.replicate_zero,List.replicate,List.length_cons,List.length_nil,List.getElem?_cons_zero,List.getElem?_cons_succ,List.set_cons_zero,List.set_cons_succ,List.all_cons,List.all_nil,List.contains_cons,List.contains_nil,List.elem_cons,List.elem_nil,List.isEmpty_nil,List.isEmpty_cons,Nat.reduceAdd,Nat.reduceSub,Nat.reduceBEq,Nat.reduceLT,Nat.reduceLeDiff,Nat.reduceEqDiff,decide_true,decide_false,Bool.and_true,Bool.true_and,Bool.or_true,Bool.true_or,Bool.or_false,Bool.false_or,Bool.and_false,Bool.false_and,Bool.not_true,Bool.not_false,Bool.false_eq_true,reduceIte,ite_true,ite_false,beq_self_eq_true,Nat.zero_add,reduceCtorEq,and_self,true_and,and_true,ge_iff_le,gt_iff_lt,Nat.succ_eq_add_one,Nat.add_one_sub_one,Nat.zero_lt_succ,Nat.lt_add_left_iff_pos,wipeE,restE,pick,List.filterMap_cons,List.filterMap_nil,Int.reduceLE,Int.reduceLT,Int.reduceNeg,decide_eq_true_eq,Bool.not_eq_true',decide_eq_false_iff_not,isT,seqV,tupV,lstV,Option.getD,i_lt_t,hl,e]
  | n + 1, .lst ds, h => by
    obtain ⟨ws, e, e2⟩ := lists_lc (F := F_law_lists n) (x := some (.fz (.lst ds))) (g := softN n) ds fun d hd => lists_ok n d (h.2 d hd)
    have hl := h.1
    refine ⟨.lst ws, ?_, by rw [softN, ← e2]; rfl⟩
    simp only [Bq,F_law_lists,m_law_lists,v_forc,v_lcc,pend,cont,take,frz,frzs,getP,setP,Res.of,boolOf,isPl,mutS,mutP,intOf,move,retOf,backs1,put1,fzT,ioOf,chk,early,shut,isTmp,flatB,scal,List.map_cons,List.map_nil,List.cons_append,List.nil_append,List.append_nil,List.replicate_succ,List.replicate_zero,List.replicate,List.length_cons,List.length_nil,List.getElem?_cons_zero,List.getElem?_cons_succ,List.set_cons_zero,List.set_cons_succ,List.all_cons,List.all_nil,List.contains_cons,List.contains_nil,List.elem_cons,List.elem_nil,List.isEmpty_nil,List.isEmpty_cons,Nat.reduceAdd,Nat.reduceSub,Nat.reduceBEq,Nat.reduceLT,Nat.reduceLeDiff,Nat.reduceEqDiff,decide_true,decide_false,Bool.and_true,Bool.true_and,Bool.or_true,Bool.true_or,Bool.or_false,Bool.false_or,Bool.and_false,Bool.false_and,Bool.not_true,Bool.not_false,Bool.false_eq_true,reduceIte,ite_true,ite_false,beq_self_eq_true,Nat.zero_add,reduceCtorEq,and_self,true_and,and_true,ge_iff_le,gt_iff_lt,Nat.succ_eq_add_one,Nat.add_one_sub_one,Nat.zero_lt_succ,Nat.lt_add_left_iff_pos,wipeE,restE,pick,List.filterMap_cons,List.filterMap_nil,Int.reduceLE,Int.reduceLT,Int.reduceNeg,decide_eq_true_eq,Bool.not_eq_true',decide_eq_false_iff_not,isT,seqV,tupV,lstV,Option.getD,i_lt_l,hl,e]
  | n + 1, .non, _ => ⟨.fz .non, by simp only [Bq,F_law_lists,m_law_lists,v_forc,v_lcc,pend,cont,take,frz,frzs,getP,setP,Res.of,boolOf,isPl,mutS,mutP,intOf,move,retOf,backs1,put1,fzT,ioOf,chk,early,shut,isTmp,flatB,scal,List.map_cons,List.map_nil,List.cons_append,List.nil_append,List.append_nil,List.replicate_succ,List.replicate_zero,List.replicate,List.length_cons,List.length_nil,List.getElem?_cons_zero,List.getElem?_cons_succ,List.set_cons_zero,List.set_cons_succ,List.all_cons,List.all_nil,List.contains_cons,List.contains_nil,List.elem_cons,List.elem_nil,List.isEmpty_nil,List.isEmpty_cons,Nat.reduceAdd,Nat.reduceSub,Nat.reduceBEq,Nat.reduceLT,Nat.reduceLeDiff,Nat.reduceEqDiff,decide_true,decide_false,Bool.and_true,Bool.true_and,Bool.or_true,Bool.true_or,Bool.or_false,Bool.false_or,Bool.and_false,Bool.false_and,Bool.not_true,Bool.not_false,Bool.false_eq_true,reduceIte,ite_true,ite_false,beq_self_eq_true,Nat.zero_add,reduceCtorEq,and_self,true_and,and_true,ge_iff_le,gt_iff_lt,Nat.succ_eq_add_one,Nat.add_one_sub_one,Nat.zero_lt_succ,Nat.lt_add_left_iff_pos,wipeE,restE,pick,List.filterMap_cons,List.filterMap_nil,Int.reduceLE,Int.reduceLT,Int.reduceNeg,decide_eq_true_eq,Bool.not_eq_true',decide_eq_false_iff_not,isT,seqV,tupV,lstV,Option.getD,i_lt_n], rfl⟩
  | n + 1, .bl b, _ => ⟨.fz (.bl b), by simp only [Bq,F_law_lists,m_law_lists,v_forc,v_lcc,pend,cont,take,frz,frzs,getP,setP,Res.of,boolOf,isPl,mutS,mutP,intOf,move,retOf,backs1,put1,fzT,ioOf,chk,early,shut,isTmp,flatB,scal,List.map_cons,List.map_nil,List.cons_append,List.nil_append,List.append_nil,List.replicate_succ,List.replicate_zero,List.replicate,List.length_cons,List.length_nil,List.getElem?_cons_zero,List.getElem?_cons_succ,List.set_cons_zero,List.set_cons_succ,List.all_cons,List.all_nil,List.contains_cons,List.contains_nil,List.elem_cons,List.elem_nil,List.isEmpty_nil,List.isEmpty_cons,Nat.reduceAdd,Nat.reduceSub,Nat.reduceBEq,Nat.reduceLT,Nat.reduceLeDiff,Nat.reduceEqDiff,decide_true,decide_false,Bool.and_true,Bool.true_and,Bool.or_true,Bool.true_or,Bool.or_false,Bool.false_or,Bool.and_false,Bool.false_and,Bool.not_true,Bool.not_false,Bool.false_eq_true,reduceIte,ite_true,ite_false,beq_self_eq_true,Nat.zero_add,reduceCtorEq,and_self,true_and,and_true,ge_iff_le,gt_iff_lt,Nat.succ_eq_add_one,Nat.add_one_sub_one,Nat.zero_lt_succ,Nat.lt_add_left_iff_pos,wipeE,restE,pick,List.filterMap_cons,List.filterMap_nil,Int.reduceLE,Int.reduceLT,Int.reduceNeg,decide_eq_true_eq,Bool.not_eq_true',decide_eq_false_iff_not,isT,seqV,tupV,lstV,Option.getD,i_lt_b], rfl⟩
  | n + 1, .int i, _ => ⟨.fz (.int i), by simp only [Bq,F_law_lists,m_law_lists,v_forc,v_lcc,pend,cont,take,frz,frzs,getP,setP,Res.of,boolOf,isPl,mutS,mutP,intOf,move,retOf,backs1,put1,fzT,ioOf,chk,early,shut,isTmp,flatB,scal,List.map_cons,List.map_nil,List.cons_append,List.nil_append,List.append_nil,List.replicate_succ,List.replicate_zero,List.replicate,List.length_cons,List.length_nil,List.getElem?_cons_zero,List.getElem?_cons_succ,List.set_cons_zero,List.set_cons_succ,List.all_cons,List.all_nil,List.contains_cons,List.contains_nil,List.elem_cons,List.elem_nil,List.isEmpty_nil,List.isEmpty_cons,Nat.reduceAdd,Nat.reduceSub,Nat.reduceBEq,Nat.reduceLT,Nat.reduceLeDiff,Nat.reduceEqDiff,decide_true,decide_false,Bool.and_true,Bool.true_and,Bool.or_true,Bool.true_or,Bool.or_false,Bool.false_or,Bool.and_false,Bool.false_and,Bool.not_true,Bool.not_false,Bool.false_eq_true,reduceIte,ite_true,ite_false,beq_self_eq_true,Nat.zero_add,reduceCtorEq,and_self,true_and,and_true,ge_iff_le,gt_iff_lt,Nat.succ_eq_add_one,Nat.add_one_sub_one,Nat.zero_lt_succ,Nat.lt_add_left_iff_pos,wipeE,restE,pick,List.filterMap_cons,List.filterMap_nil,Int.reduceLE,Int.reduceLT,Int.reduceNeg,decide_eq_true_eq,Bool.not_eq_true',decide_eq_false_iff_not,isT,seqV,tupV,lstV,Option.getD,i_lt_i], rfl⟩
  | n + 1, .str s, _ => ⟨.fz (.str s), by simp only [Bq,F_law_lists,m_law_lists,v_forc,v_lcc,pend,cont,take,frz,frzs,getP,setP,Res.of,boolOf,isPl,mutS,mutP,intOf,move,retOf,backs1,put1,fzT,ioOf,chk,early,shut,isTmp,flatB,scal,List.map_cons,List.map_nil,List.cons_append,List.nil_append,List.append_nil,List.replicate_succ,List.replicate_zero,List.replicate,List.length_cons,List.length_nil,List.getElem?_cons_zero,List.getElem?_cons_succ,List.set_cons_zero,List.set_cons_succ,List.all_cons,List.all_nil,List.contains_cons,List.contains_nil,List.elem_cons,List.elem_nil,List.isEmpty_nil,List.isEmpty_cons,Nat.reduceAdd,Nat.reduceSub,Nat.reduceBEq,Nat.reduceLT,Nat.reduceLeDiff,Nat.reduceEqDiff,decide_true,decide_false,Bool.and_true,Bool.true_and,Bool.or_true,Bool.true_or,Bool.or_false,Bool.false_or,Bool.and_false,Bool.false_and,Bool.not_true,Bool.not_false,Bool.false_eq_true,reduceIte,ite_true,ite_false,beq_self_eq_true,Nat.zero_add,reduceCtorEq,and_self,true_and,and_true,ge_iff_le,gt_iff_lt,Nat.succ_eq_add_one,Nat.add_one_sub_one,Nat.zero_lt_succ,Nat.lt_add_left_iff_pos,wipeE,restE,pick,List.filterMap_cons,List.filterMap_nil,Int.reduceLE,Int.reduceLT,Int.reduceNeg,decide_eq_true_eq,Bool.not_eq_true',decide_eq_false_iff_not,isT,seqV,tupV,lstV,Option.getD,i_lt_s], rfl⟩
  | n + 1, .scr _, h => h.elim
  | n + 1, .obj _ _, h => h.elim
theorem lists_seq {n : Nat} {ds : List D} (h : pln (n + 1) (.tup ds)) : ∃ ws, F_law_lists (n + 1) [.fz (.tup ds)] = .ok (.lst ws, [.fz (.tup ds)]) ∧ frzs ws = ds.map (softN n) := by
  obtain ⟨ws, e, e2⟩ := lists_lc (F := F_law_lists n) (x := some (.fz (.tup ds))) (g := softN n) ds fun d hd => lists_ok n d (h.2 d hd)
  have hl := h.1
  refine ⟨ws, ?_, e2⟩
  simp only [Bq,F_law_lists,m_law_lists,v_forc,v_lcc,pend,cont,take,frz,frzs,getP,setP,Res.of,boolOf,isPl,mutS,mutP,intOf,move,retOf,backs1,put1,fzT,ioOf,chk,early,shut,isTmp,flatB,scal,List.map_cons,List.map_nil,List.cons_append,List.nil_append,List.append_nil,List.replicate_succ,List.replicate_zero,List.replicate,List.length_cons,List.length_nil,List.getElem?_cons_zero,List.getElem?_cons_succ,List.set_cons_zero,List.set_cons_succ,List.all_cons,List.all_nil,List.contains_cons,List.contains_nil,List.elem_cons,List.elem_nil,List.isEmpty_nil,List.isEmpty_cons,Nat.reduceAdd,Nat.reduceSub,Nat.reduceBEq,Nat.reduceLT,Nat.reduceLeDiff,Nat.reduceEqDiff,decide_true,decide_false,Bool.and_true,Bool.true_and,Bool.or_true,Bool.true_or,Bool.or_false,Bool.false_or,Bool.and_false,Bool.false_and,Bool.not_true,Bool.not_false,Bool.false_eq_true,reduceIte,ite_true,ite_false,beq_self_eq_true,Nat.zero_add,reduceCtorEq,and_self,true_and,and_true,ge_iff_le,gt_iff_lt,Nat.succ_eq_add_one,Nat.add_one_sub_one,Nat.zero_lt_succ,Nat.lt_add_left_iff_pos,wipeE,restE,pick,List.filterMap_cons,List.filterMap_nil,Int.reduceLE,Int.reduceLT,Int.reduceNeg,decide_eq_true_eq,Bool.not_eq_true',decide_eq_false_iff_not,isT,seqV,tupV,lstV,Option.getD,i_lt_t,hl,e]
end Gn
namespace Gn
open Mi PySem
inductive Wd where
  | add | flo | cap
deriving DecidableEq
def wd : Wd → Str
  | .add => "add" | .flo => "floor" | .cap => "cap"
def sq (k : Bool) (ds : List D) : D := match k with
  | true => .lst ds
  | false => .tup ds
def eE (k : Bool) (e : Wd × Int) : D := sq k [.str (wd e.1), .int e.2]
def eR (k : Bool) (r : List (Wd × Int)) : D := sq k (r.map (eE k))
def stp (l : Int) (e : Wd × Int) : Int := match e.1 with
  | .add => l + e.2
  | .flo => max l e.2
  | .cap => min l e.2
theorem un_e {k : Bool} {e : Wd × Int} {gs : CGs} {ρ : En} : gUnp gs (.fz (eE k e)) ρ = gs [.str (wd e.1), .int e.2] ρ := by cases k <;> rfl
theorem src_R {k : Bool} {r : List (Wd × Int)} : srcV (.fz (eR k r)) = some (r.map (eE k)) := by cases k <;> rfl
theorem ok_wd {w : Wd} : PyData.strOk (wd w) = true := by cases w <;> kernel_rfl
theorem pln_e {k : Bool} {e : Wd × Int} : pln 2 (eE k e) := by
  have h : ([D.str (wd e.1), D.int e.2] : List D).length ≤ 1000000 ∧ ∀ d ∈ [D.str (wd e.1), D.int e.2], pln 1 d := by
    refine ⟨by simp, fun d hd => ?_⟩
    simp only [List.mem_cons, List.mem_singleton, List.not_mem_nil, or_false] at hd
    rcases hd with rfl | rfl
    · exact ok_wd
    · trivial
  cases k <;> exact h
theorem pln_R {k : Bool} {r : List (Wd × Int)} (h : r.length ≤ 1000) : pln 3 (eR k r) := by
  have h : (r.map (eE k)).length ≤ 1000000 ∧ ∀ d ∈ r.map (eE k), pln 2 d := by
    refine ⟨by rw [List.length_map]; omega, fun d hd => ?_⟩
    obtain ⟨e, _, rfl⟩ := List.mem_map.mp hd
    exact pln_e
  cases k <;> exact h
theorem soft_R {n : Nat} {r : List (Wd × Int)} : softN (n + 3) (eR false r) = eR true r := by
  simp only [eR, sq, softN, List.map_map]
  congr 1
theorem intsD_int : ∀ l : List Int, intsD (l.map D.int) = some l
  | [] => rfl
  | n :: l => by show (match intsD (l.map D.int) with | some ns => some (n :: ns) | none => none) = _; rw [intsD_int l]
end Gn
namespace Gn
open Mi PySem
def Rk : Prop := ∀ β : Bx, β.c = 0 → ∃ β' : Bx, F_law_right [bx β] = .ok (.fz (.bl true), [bx β'])
theorem elt_loop (R : Rk) {s : W} {cs : List Int} : ∀ (l : List Nat) (w1 : W), (w1 = cw cs ∨ w1 = .fz (.lst (cs.map D.int))) → (∀ i ∈ l, i < cs.length) → ∃ w1' : W,
    lcL [2] (gSet 2) cYes Elaw_1 (l.map fun i => D.int (0 + (i : Nat))) [some s, some w1, none] = .ok (l.map fun _ => W.fz (.bl true), [some s, some w1', none])
  | [], w1, h, _ => ⟨w1, rfl⟩
  | i :: l, w1, h, hl => by
    obtain ⟨β, b0, be⟩ := box_ok (cs := cs) (k := 0 + (i : Nat)) (by omega) (by have := hl i (by simp); omega)
    obtain ⟨β', re⟩ := R β b0
    obtain ⟨w1', e⟩ := elt_loop R (s := s) l (.fz (.lst (cs.map D.int))) (.inr rfl) (fun j hj => hl j (by simp [hj]))
    refine ⟨w1', ?_⟩
    have hb : F_law_box [.fz (.lst (cs.map D.int)), .fz (.int (0 + (i : Nat)))] = .ok (bx β, [.fz (.lst (cs.map D.int)), .fz (.int (0 + (i : Nat)))]) := be
    rcases h with h | h
    · subst h
      simp only [Bq,List.map_cons (f := fun i : Nat => D.int (0 + (i : Nat))),Elaw_1,v_forc,v_lcc,pend,cont,take,frz,frzs,getP,setP,Res.of,boolOf,isPl,mutS,mutP,intOf,move,retOf,backs1,put1,fzT,ioOf,chk,early,shut,isTmp,flatB,scal,List.map_cons,List.map_nil,List.cons_append,List.nil_append,List.append_nil,List.replicate_succ,List.replicate_zero,List.replicate,List.length_cons,List.length_nil,List.getElem?_cons_zero,List.getElem?_cons_succ,List.set_cons_zero,List.set_cons_succ,List.all_cons,List.all_nil,List.contains_cons,List.contains_nil,List.elem_cons,List.elem_nil,List.isEmpty_nil,List.isEmpty_cons,Nat.reduceAdd,Nat.reduceSub,Nat.reduceBEq,Nat.reduceLT,Nat.reduceLeDiff,Nat.reduceEqDiff,decide_true,decide_false,Bool.and_true,Bool.true_and,Bool.or_true,Bool.true_or,Bool.or_false,Bool.false_or,Bool.and_false,Bool.false_and,Bool.not_true,Bool.not_false,Bool.false_eq_true,reduceIte,ite_true,ite_false,beq_self_eq_true,Nat.zero_add,reduceCtorEq,and_self,true_and,and_true,ge_iff_le,gt_iff_lt,Nat.succ_eq_add_one,Nat.add_one_sub_one,Nat.zero_lt_succ,Nat.lt_add_left_iff_pos,wipeE,restE,pick,List.filterMap_cons,List.filterMap_nil,Int.reduceLE,Int.reduceLT,Int.reduceNeg,decide_eq_true_eq,Bool.not_eq_true',decide_eq_false_iff_not,isT,seqV,tupV,lstV,Option.getD,frzs_cw,hb,re,e]
    · subst h
      simp only [Bq,List.map_cons (f := fun i : Nat => D.int (0 + (i : Nat))),Elaw_1,v_forc,v_lcc,pend,cont,take,frz,frzs,getP,setP,Res.of,boolOf,isPl,mutS,mutP,intOf,move,retOf,backs1,put1,fzT,ioOf,chk,early,shut,isTmp,flatB,scal,List.map_cons,List.map_nil,List.cons_append,List.nil_append,List.append_nil,List.replicate_succ,List.replicate_zero,List.replicate,List.length_cons,List.length_nil,List.getElem?_cons_zero,List.getElem?_cons_succ,List.set_cons_zero,List.set_cons_succ,List.all_cons,List.all_nil,List.contains_cons,List.contains_nil,List.elem_cons,List.elem_nil,List.isEmpty_nil,List.isEmpty_cons,Nat.reduceAdd,Nat.reduceSub,Nat.reduceBEq,Nat.reduceLT,Nat.reduceLeDiff,Nat.reduceEqDiff,decide_true,decide_false,Bool.and_true,Bool.true_and,Bool.or_true,Bool.true_or,Bool.or_false,Bool.false_or,Bool.and_false,Bool.false_and,Bool.not_true,Bool.not_false,Bool.false_eq_true,reduceIte,ite_true,ite_false,beq_self_eq_true,Nat.zero_add,reduceCtorEq,and_self,true_and,and_true,ge_iff_le,gt_iff_lt,Nat.succ_eq_add_one,Nat.add_one_sub_one,Nat.zero_lt_succ,Nat.lt_add_left_iff_pos,wipeE,restE,pick,List.filterMap_cons,List.filterMap_nil,Int.reduceLE,Int.reduceLT,Int.reduceNeg,decide_eq_true_eq,Bool.not_eq_true',decide_eq_false_iff_not,isT,seqV,tupV,lstV,Option.getD,frzs_cw,hb,re,e]
theorem len_cw (cs : List Int) : fLen [cw cs] = .ok (.fz (.int cs.length)) := by
    show (match unfz (cs.map fun n => W.fz (.int n)) with | some ds => Res.ok (W.fz (.int ds.length)) | none => .err) = _
    rw [unfz_cw]; show Res.ok (W.fz (.int (cs.map D.int).length)) = _; rw [List.length_map]
theorem rgD_nat {n : Nat} : rangeD 0 ((n : Int)).toNat = (List.range n).map fun i => D.int (0 + (i : Nat)) := by rw [Int.toNat_natCast]; rfl
theorem cT : chk true = .ok () := rfl
theorem rng_ok {s : W} {cs : List Int} (h : cs.length < 100) : iRange1 (cCallB fLen (cCons true (cVar 1) cNil)) [some s, some (cw cs), none] = .ok (rangeD 0 ((cs.length : Int)).toNat, [some s, some (cw cs), none]) := by
  have cb : decide (-(2 ^ 62) ≤ ((cs.length : Nat) : Int) ∧ ((cs.length : Nat) : Int) < 2 ^ 62) = true := decide_eq_true (by omega)
  have c0 : cCallB fLen (cCons true (cVar 1) cNil) [some s, some (cw cs), none] = .ok (.tmp (.fz (.int cs.length)), [some s, some (cw cs), none]) := by
    simp only [Bq,v_forc,v_lcc,pend,cont,take,frz,frzs,getP,setP,Res.of,boolOf,isPl,mutS,mutP,intOf,move,retOf,backs1,put1,fzT,ioOf,chk,early,shut,isTmp,flatB,scal,List.map_cons,List.map_nil,List.cons_append,List.nil_append,List.append_nil,List.replicate_succ,List.replicate_zero,List.replicate,List.length_cons,List.length_nil,List.getElem?_cons_zero,List.getElem?_cons_succ,List.set_cons_zero,List.set_cons_succ,List.all_cons,List.all_nil,List.contains_cons,List.contains_nil,List.elem_cons,List.elem_nil,List.isEmpty_nil,List.isEmpty_cons,Nat.reduceAdd,Nat.reduceSub,Nat.reduceBEq,Nat.reduceLT,Nat.reduceLeDiff,Nat.reduceEqDiff,decide_true,decide_false,Bool.and_true,Bool.true_and,Bool.or_true,Bool.true_or,Bool.or_false,Bool.false_or,Bool.and_false,Bool.false_and,Bool.not_true,Bool.not_false,Bool.false_eq_true,reduceIte,ite_true,ite_false,beq_self_eq_true,Nat.zero_add,reduceCtorEq,and_self,true_and,and_true,ge_iff_le,gt_iff_lt,Nat.succ_eq_add_one,Nat.add_one_sub_one,Nat.zero_lt_succ,Nat.lt_add_left_iff_pos,wipeE,restE,pick,List.filterMap_cons,List.filterMap_nil,Int.reduceLE,Int.reduceLT,Int.reduceNeg,decide_eq_true_eq,Bool.not_eq_true',decide_eq_false_iff_not,isT,seqV,tupV,lstV,Option.getD,len_cw]
  have c1 : intOf (.tmp (.fz (.int cs.length))) = .ok (cs.length : Int) := rfl
  rw [v_irg, c0, v_ok, v_irg1, c1, v_ok, v_irg2, cb, cT, v_ok, v_irg3]
theorem law_lc (R : Rk) {s : W} {cs : List Int} (h : cs.length < 100) : ∃ w1' : W, cLc [2] (iRange1 (cCallB fLen (cCons true (cVar 1) cNil))) (gSet 2) cYes Elaw_1 [some s, some (cw cs), none] = .ok (.tmp (.lst ((List.range cs.length).map fun _ => W.fz (.bl true))), [some s, some w1', none]) := by
  obtain ⟨w1', e⟩ := elt_loop R (s := s) (List.range cs.length) (cw cs) (.inl rfl) (fun i hi => List.mem_range.mp hi)
  refine ⟨w1', ?_⟩
  have hl : ((List.range cs.length).map fun i => D.int (0 + (i : Nat))).length ≤ 1000000 := by rw [List.length_map, List.length_range]; omega
  have c0 : chk (([2] : List Nat).all fun v => decide (v < ([some s, some (cw cs), none] : En).length)) = .ok () := rfl
  have cw0 : wipeE [some s, some (cw cs), none] [2] = [some s, some (cw cs), none] := rfl
  have re : restE [some s, some (cw cs), none] [2] [some s, some w1', none] = [some s, some w1', none] := rfl
  rw [v_lc, rng_ok h, v_ok, v_lc1, c0, v_ok, rgD_nat, u_lc hl, cw0, e, v_ok, v_lc4, re]
end Gn
namespace Gn
open Mi PySem
abbrev Rw := List (Wd × Int)
def evat (S : List Rw) (s : List Nat) (k : Nat) : Option (Wd × Int) := match S[k]? with
  | some r => match s[k]? with
    | some n => r[n]?
    | none => none
  | none => none
def adds1 (r : Rw) : Int := ((r.filter fun e => decide (e.1 = .add)).map fun e => e.2).sum
def addsL : List Rw → List Nat → Int
  | r :: S, n :: s => adds1 (r.take n) + addsL S s
  | _, _ => 0
def inc (s : List Nat) (k : Nat) : List Nat := s.set k (s.getD k 0 + 1)
def remN : List Rw → List Nat → Nat
  | r :: S, n :: s => (r.length - n) + remN S s
  | _, _ => 0
def Sp : List Rw → List Nat → Prop
  | [], [] => True
  | r :: S, n :: s => n ≤ r.length ∧ Sp S s
  | _, _ => False
theorem Sp.len : ∀ {S : List Rw} {s : List Nat}, Sp S s → s.length = S.length
  | [], [], _ => rfl
  | r :: S, n :: s, h => by rw [List.length_cons, List.length_cons, Sp.len h.2]
  | [], _ :: _, h => h.elim
  | _ :: _, [], h => h.elim
theorem inc_ok : ∀ {S : List Rw} {s : List Nat} {k : Nat} {e : Wd × Int}, Sp S s → evat S s k = some e → Sp S (inc s k) ∧ remN S (inc s k) + 1 = remN S s ∧ addsL S (inc s k) = addsL S s + (if e.1 = .add then e.2 else 0)
  | [], s, k, e, _, h => by simp [evat] at h
  | r :: S, [], k, e, hs, h => hs.elim
  | r :: S, n :: s, 0, e, hs, h => by
    have h : r[n]? = some e := h
    have hn : n < r.length := (List.getElem?_eq_some_iff.mp h).1
    have he : r[n] = e := (List.getElem?_eq_some_iff.mp h).2
    refine ⟨⟨hn, hs.2⟩, by show (r.length - (n + 1) + remN S s) + 1 = r.length - n + remN S s; omega, ?_⟩
    show adds1 (r.take (n + 1)) + addsL S s = adds1 (r.take n) + addsL S s + _
    have : adds1 (r.take (n + 1)) = adds1 (r.take n) + (if e.1 = .add then e.2 else 0) := by
      rw [List.take_succ, h]
      unfold adds1
      rw [List.filter_append, List.map_append, List.sum_append]
      congr 1
      by_cases c : e.1 = .add
      · rw [if_pos c]; simp [c]
      · rw [if_neg c]; simp [c]
    omega
  | r :: S, n :: s, k + 1, e, hs, h => by
    have h : evat S s k = some e := h
    obtain ⟨h1, h2, h3⟩ := inc_ok (k := k) hs.2 h
    have z : inc (n :: s) (k + 1) = n :: inc s k := rfl
    rw [z]
    refine ⟨⟨hs.1, h1⟩, ?_, ?_⟩
    · show (r.length - n + remN S (inc s k)) + 1 = r.length - n + remN S s; omega
    · show adds1 (r.take n) + addsL S (inc s k) = adds1 (r.take n) + addsL S s + _
      rw [h3]; omega
def mk (S : List Rw) : List Nat → List Nat → Rw
  | _, [] => []
  | s, k :: w => match evat S s k with
    | some e => e :: mk S (inc s k) w
    | none => []
theorem tp_wd {n : Nat} {w : Wd} : Ftupled (n + 1) [.fz (.str (wd w))] = .ok (.fz (.str (wd w)), [.fz (.str (wd w))]) := by
  simp only [Bq,Ftupled,mtupled,v_forc,v_lcc,pend,cont,take,frz,frzs,getP,setP,Res.of,boolOf,isPl,mutS,mutP,intOf,move,retOf,backs1,put1,fzT,ioOf,chk,early,shut,isTmp,flatB,scal,List.map_cons,List.map_nil,List.cons_append,List.nil_append,List.append_nil,List.replicate_succ,List.replicate_zero,List.replicate,List.length_cons,List.length_nil,List.getElem?_cons_zero,List.getElem?_cons_succ,List.set_cons_zero,List.set_cons_succ,List.all_cons,List.all_nil,List.contains_cons,List.contains_nil,List.elem_cons,List.elem_nil,List.isEmpty_nil,List.isEmpty_cons,Nat.reduceAdd,Nat.reduceSub,Nat.reduceBEq,Nat.reduceLT,Nat.reduceLeDiff,Nat.reduceEqDiff,decide_true,decide_false,Bool.and_true,Bool.true_and,Bool.or_true,Bool.true_or,Bool.or_false,Bool.false_or,Bool.and_false,Bool.false_and,Bool.not_true,Bool.not_false,Bool.false_eq_true,reduceIte,ite_true,ite_false,beq_self_eq_true,Nat.zero_add,reduceCtorEq,and_self,true_and,and_true,ge_iff_le,gt_iff_lt,Nat.succ_eq_add_one,Nat.add_one_sub_one,Nat.zero_lt_succ,Nat.lt_add_left_iff_pos,wipeE,restE,pick,List.filterMap_cons,List.filterMap_nil,Int.reduceLE,Int.reduceLT,Int.reduceNeg,decide_eq_true_eq,Bool.not_eq_true',decide_eq_false_iff_not,isT,seqV,tupV,lstV,Option.getD,i_lt_s]
theorem tp_int {n : Nat} {i : Int} : Ftupled (n + 1) [.fz (.int i)] = .ok (.fz (.int i), [.fz (.int i)]) := by
  simp only [Bq,Ftupled,mtupled,v_forc,v_lcc,pend,cont,take,frz,frzs,getP,setP,Res.of,boolOf,isPl,mutS,mutP,intOf,move,retOf,backs1,put1,fzT,ioOf,chk,early,shut,isTmp,flatB,scal,List.map_cons,List.map_nil,List.cons_append,List.nil_append,List.append_nil,List.replicate_succ,List.replicate_zero,List.replicate,List.length_cons,List.length_nil,List.getElem?_cons_zero,List.getElem?_cons_succ,List.set_cons_zero,List.set_cons_succ,List.all_cons,List.all_nil,List.contains_cons,List.contains_nil,List.elem_cons,List.elem_nil,List.isEmpty_nil,List.isEmpty_cons,Nat.reduceAdd,Nat.reduceSub,Nat.reduceBEq,Nat.reduceLT,Nat.reduceLeDiff,Nat.reduceEqDiff,decide_true,decide_false,Bool.and_true,Bool.true_and,Bool.or_true,Bool.true_or,Bool.or_false,Bool.false_or,Bool.and_false,Bool.false_and,Bool.not_true,Bool.not_false,Bool.false_eq_true,reduceIte,ite_true,ite_false,beq_self_eq_true,Nat.zero_add,reduceCtorEq,and_self,true_and,and_true,ge_iff_le,gt_iff_lt,Nat.succ_eq_add_one,Nat.add_one_sub_one,Nat.zero_lt_succ,Nat.lt_add_left_iff_pos,wipeE,restE,pick,List.filterMap_cons,List.filterMap_nil,Int.reduceLE,Int.reduceLT,Int.reduceNeg,decide_eq_true_eq,Bool.not_eq_true',decide_eq_false_iff_not,isT,seqV,tupV,lstV,Option.getD,i_lt_i]
theorem tup_fz2 {a b : D} : fTuple [.fz (.lst [a, b])] = .ok (.fz (.tup [a, b])) := rfl
theorem tp_e {n : Nat} {k : Bool} {e : Wd × Int} : Ftupled (n + 2) [.fz (eE k e)] = .ok (.fz (eE false e), [.fz (eE k e)]) := by
  have t1 := tp_wd (n := n) (w := e.1)
  have t2 := tp_int (n := n) (i := e.2)
  have a1 : ∀ x y : D, srcV (.fz (.tup [x, y])) = some [x, y] := fun _ _ => rfl
  have a2 : ∀ x y : D, srcV (.fz (.lst [x, y])) = some [x, y] := fun _ _ => rfl
  have hl : ∀ x y : D, ([x, y] : List D).length ≤ 1000000 := fun x y => by simp
  unfold Ftupled
  cases k
  · simp only [eE, sq]
    generalize D.str (wd e.1) = s at *
    generalize D.int e.2 = i at *
    simp only [Bq,mtupled,Etupled_1,v_forc,v_lcc,pend,cont,take,frz,frzs,getP,setP,Res.of,boolOf,isPl,mutS,mutP,intOf,move,retOf,backs1,put1,fzT,ioOf,chk,early,shut,isTmp,flatB,scal,List.map_cons,List.map_nil,List.cons_append,List.nil_append,List.append_nil,List.replicate_succ,List.replicate_zero,List.replicate,List.length_cons,List.length_nil,List.getElem?_cons_zero,List.getElem?_cons_succ,List.set_cons_zero,List.set_cons_succ,List.all_cons,List.all_nil,List.contains_cons,List.contains_nil,List.elem_cons,List.elem_nil,List.isEmpty_nil,List.isEmpty_cons,Nat.reduceAdd,Nat.reduceSub,Nat.reduceBEq,Nat.reduceLT,Nat.reduceLeDiff,Nat.reduceEqDiff,decide_true,decide_false,Bool.and_true,Bool.true_and,Bool.or_true,Bool.true_or,Bool.or_false,Bool.false_or,Bool.and_false,Bool.false_and,Bool.not_true,Bool.not_false,Bool.false_eq_true,reduceIte,ite_true,ite_false,beq_self_eq_true,Nat.zero_add,reduceCtorEq,and_self,true_and,and_true,ge_iff_le,gt_iff_lt,Nat.succ_eq_add_one,Nat.add_one_sub_one,Nat.zero_lt_succ,Nat.lt_add_left_iff_pos,wipeE,restE,pick,List.filterMap_cons,List.filterMap_nil,Int.reduceLE,Int.reduceLT,Int.reduceNeg,decide_eq_true_eq,Bool.not_eq_true',decide_eq_false_iff_not,isT,seqV,tupV,lstV,Option.getD,i_lt_t,a1,hl,t1,t2,tup_fz2,frzs,frz]
  · simp only [eE, sq]
    generalize D.str (wd e.1) = s at *
    generalize D.int e.2 = i at *
    simp only [Bq,mtupled,Etupled_1,v_forc,v_lcc,pend,cont,take,frz,frzs,getP,setP,Res.of,boolOf,isPl,mutS,mutP,intOf,move,retOf,backs1,put1,fzT,ioOf,chk,early,shut,isTmp,flatB,scal,List.map_cons,List.map_nil,List.cons_append,List.nil_append,List.append_nil,List.replicate_succ,List.replicate_zero,List.replicate,List.length_cons,List.length_nil,List.getElem?_cons_zero,List.getElem?_cons_succ,List.set_cons_zero,List.set_cons_succ,List.all_cons,List.all_nil,List.contains_cons,List.contains_nil,List.elem_cons,List.elem_nil,List.isEmpty_nil,List.isEmpty_cons,Nat.reduceAdd,Nat.reduceSub,Nat.reduceBEq,Nat.reduceLT,Nat.reduceLeDiff,Nat.reduceEqDiff,decide_true,decide_false,Bool.and_true,Bool.true_and,Bool.or_true,Bool.true_or,Bool.or_false,Bool.false_or,Bool.and_false,Bool.false_and,Bool.not_true,Bool.not_false,Bool.false_eq_true,reduceIte,ite_true,ite_false,beq_self_eq_true,Nat.zero_add,reduceCtorEq,and_self,true_and,and_true,ge_iff_le,gt_iff_lt,Nat.succ_eq_add_one,Nat.add_one_sub_one,Nat.zero_lt_succ,Nat.lt_add_left_iff_pos,wipeE,restE,pick,List.filterMap_cons,List.filterMap_nil,Int.reduceLE,Int.reduceLT,Int.reduceNeg,decide_eq_true_eq,Bool.not_eq_true',decide_eq_false_iff_not,isT,seqV,tupV,lstV,Option.getD,i_lt_l,a2,hl,t1,t2,tup_fz2,frzs,frz]
theorem tp_lc {n : Nat} {k : Bool} {x : Option W} : ∀ r : List (Wd × Int), lcL [1] (gSet 1) cYes (Etupled_1 (Ftupled (n + 2))) (r.map (eE k)) [x, none] = .ok (r.map fun e => W.fz (eE false e), [x, none])
  | [] => rfl
  | e :: r => by
    have ih := tp_lc (n := n) (k := k) (x := x) r
    have h0 := tp_e (n := n) (k := k) (e := e)
    have hm : (e :: r).map (fun e => W.fz (eE false e)) = W.fz (eE false e) :: r.map fun e => W.fz (eE false e) := rfl
    rw [hm]
    simp only [List.map_cons (f := eE k)]
    generalize eE false e = q at *
    generalize eE k e = q2 at *
    simp only [Bq,Etupled_1,v_forc,v_lcc,pend,cont,take,frz,frzs,getP,setP,Res.of,boolOf,isPl,mutS,mutP,intOf,move,retOf,backs1,put1,fzT,ioOf,chk,early,shut,isTmp,flatB,scal,List.map_cons,List.map_nil,List.cons_append,List.nil_append,List.append_nil,List.replicate_succ,List.replicate_zero,List.replicate,List.length_cons,List.length_nil,List.getElem?_cons_zero,List.getElem?_cons_succ,List.set_cons_zero,List.set_cons_succ,List.all_cons,List.all_nil,List.contains_cons,List.contains_nil,List.elem_cons,List.elem_nil,List.isEmpty_nil,List.isEmpty_cons,Nat.reduceAdd,Nat.reduceSub,Nat.reduceBEq,Nat.reduceLT,Nat.reduceLeDiff,Nat.reduceEqDiff,decide_true,decide_false,Bool.and_true,Bool.true_and,Bool.or_true,Bool.true_or,Bool.or_false,Bool.false_or,Bool.and_false,Bool.false_and,Bool.not_true,Bool.not_false,Bool.false_eq_true,reduceIte,ite_true,ite_false,beq_self_eq_true,Nat.zero_add,reduceCtorEq,and_self,true_and,and_true,ge_iff_le,gt_iff_lt,Nat.succ_eq_add_one,Nat.add_one_sub_one,Nat.zero_lt_succ,Nat.lt_add_left_iff_pos,wipeE,restE,pick,List.filterMap_cons,List.filterMap_nil,Int.reduceLE,Int.reduceLT,Int.reduceNeg,decide_eq_true_eq,Bool.not_eq_true',decide_eq_false_iff_not,isT,seqV,tupV,lstV,Option.getD,h0,ih]
theorem i_lt_R {k : Bool} {r : List (Wd × Int)} : fIsi ["list", "tuple"] (.fz (eR k r)) = .ok (.fz (.bl true)) := by
  cases k
  · exact i_lt_t
  · exact i_lt_l
theorem tup_ev (r : List (Wd × Int)) : fTuple [.fz (.lst (r.map (eE false)))] = .ok (.fz (eR false r)) := rfl
theorem frz_ev : ∀ r : List (Wd × Int), frzs (r.map fun e => W.fz (eE false e)) = r.map (eE false)
  | [] => rfl
  | e :: r => by
    show eE false e :: frzs (r.map fun e => W.fz (eE false e)) = _
    rw [frz_ev r]; rfl
theorem tp_R {n : Nat} {k : Bool} {r : Rw} (h : r.length ≤ 1000) : Ftupled (n + 3) [.fz (eR k r)] = .ok (.fz (eR false r), [.fz (eR k r)]) := by
  have lc := tp_lc (n := n) (k := k) (x := some (.fz (eR k r))) r
  have s := src_R (k := k) (r := r)
  have is := i_lt_R (k := k) (r := r)
  have hl : (r.map (eE k)).length ≤ 1000000 := by rw [List.length_map]; omega
  have tp := tup_ev r
  have fr := frz_ev r
  have e40 : Ftupled (n + 3) = runDef 1 2 (ioOf []) (mtupled (Ftupled (n + 2))) := rfl
  rw [e40]
  generalize Ftupled (n + 2) = F0 at *
  generalize eR false r = R0 at *
  generalize r.map (eE false) = M0 at *
  generalize (r.map fun e => W.fz (eE false e)) = M1 at *
  generalize eR k r = R at *
  generalize r.map (eE k) = M at *
  simp only [Bq,mtupled,v_forc,v_lcc,pend,cont,take,frz,frzs,getP,setP,Res.of,boolOf,isPl,mutS,mutP,intOf,move,retOf,backs1,put1,fzT,ioOf,chk,early,shut,isTmp,flatB,scal,List.map_cons,List.map_nil,List.cons_append,List.nil_append,List.append_nil,List.replicate_succ,List.replicate_zero,List.replicate,List.length_cons,List.length_nil,List.getElem?_cons_zero,List.getElem?_cons_succ,List.set_cons_zero,List.set_cons_succ,List.all_cons,List.all_nil,List.contains_cons,List.contains_nil,List.elem_cons,List.elem_nil,List.isEmpty_nil,List.isEmpty_cons,Nat.reduceAdd,Nat.reduceSub,Nat.reduceBEq,Nat.reduceLT,Nat.reduceLeDiff,Nat.reduceEqDiff,decide_true,decide_false,Bool.and_true,Bool.true_and,Bool.or_true,Bool.true_or,Bool.or_false,Bool.false_or,Bool.and_false,Bool.false_and,Bool.not_true,Bool.not_false,Bool.false_eq_true,reduceIte,ite_true,ite_false,beq_self_eq_true,Nat.zero_add,reduceCtorEq,and_self,true_and,and_true,ge_iff_le,gt_iff_lt,Nat.succ_eq_add_one,Nat.add_one_sub_one,Nat.zero_lt_succ,Nat.lt_add_left_iff_pos,wipeE,restE,pick,List.filterMap_cons,List.filterMap_nil,Int.reduceLE,Int.reduceLT,Int.reduceNeg,decide_eq_true_eq,Bool.not_eq_true',decide_eq_false_iff_not,isT,seqV,tupV,lstV,Option.getD,is,s,hl,lc,fr,tp]
abbrev sD (k : Bool) (S : List Rw) : D := sq k (S.map (eR k))
def smS (S : List Rw) : Prop := S.length ≤ 1000 ∧ ∀ r ∈ S, r.length ≤ 1000
theorem smS.tail {r : Rw} {S : List Rw} (h : smS (r :: S)) : smS S := ⟨by have := h.1; rw [List.length_cons] at this; omega, fun x hx => h.2 x (by simp [hx])⟩
theorem tp_lcS {n : Nat} {k : Bool} {x : Option W} : ∀ S : List Rw, smS S → lcL [1] (gSet 1) cYes (Etupled_1 (Ftupled (n + 3))) (S.map (eR k)) [x, none] = .ok (S.map fun r => W.fz (eR false r), [x, none])
  | [], _ => rfl
  | r :: S, h => by
    have ih := tp_lcS (n := n) (k := k) (x := x) S h.tail
    have h0 := tp_R (n := n) (k := k) (h.2 r (by simp))
    have hm : (r :: S).map (fun e => W.fz (eR false e)) = W.fz (eR false r) :: S.map fun e => W.fz (eR false e) := rfl
    rw [hm]
    simp only [List.map_cons (f := eR k)]
    generalize eR false r = q at *
    generalize eR k r = q2 at *
    simp only [Bq,Etupled_1,v_forc,v_lcc,pend,cont,take,frz,frzs,getP,setP,Res.of,boolOf,isPl,mutS,mutP,intOf,move,retOf,backs1,put1,fzT,ioOf,chk,early,shut,isTmp,flatB,scal,List.map_cons,List.map_nil,List.cons_append,List.nil_append,List.append_nil,List.replicate_succ,List.replicate_zero,List.replicate,List.length_cons,List.length_nil,List.getElem?_cons_zero,List.getElem?_cons_succ,List.set_cons_zero,List.set_cons_succ,List.all_cons,List.all_nil,List.contains_cons,List.contains_nil,List.elem_cons,List.elem_nil,List.isEmpty_nil,List.isEmpty_cons,Nat.reduceAdd,Nat.reduceSub,Nat.reduceBEq,Nat.reduceLT,Nat.reduceLeDiff,Nat.reduceEqDiff,decide_true,decide_false,Bool.and_true,Bool.true_and,Bool.or_true,Bool.true_or,Bool.or_false,Bool.false_or,Bool.and_false,Bool.false_and,Bool.not_true,Bool.not_false,Bool.false_eq_true,reduceIte,ite_true,ite_false,beq_self_eq_true,Nat.zero_add,reduceCtorEq,and_self,true_and,and_true,ge_iff_le,gt_iff_lt,Nat.succ_eq_add_one,Nat.add_one_sub_one,Nat.zero_lt_succ,Nat.lt_add_left_iff_pos,wipeE,restE,pick,List.filterMap_cons,List.filterMap_nil,Int.reduceLE,Int.reduceLT,Int.reduceNeg,decide_eq_true_eq,Bool.not_eq_true',decide_eq_false_iff_not,isT,seqV,tupV,lstV,Option.getD,h0,ih]
theorem src_S {k : Bool} {S : List Rw} : srcV (.fz (sD k S)) = some (S.map (eR k)) := by cases k <;> rfl
theorem i_lt_S {k : Bool} {S : List Rw} : fIsi ["list", "tuple"] (.fz (sD k S)) = .ok (.fz (.bl true)) := by
  cases k
  · exact i_lt_t
  · exact i_lt_l
theorem tupled_ok {k : Bool} {S : List Rw} (h : smS S) : Ftupled 40 [.fz (sD k S)] = .ok (.fz (sD false S), [.fz (sD k S)]) := by
  have lc := tp_lcS (n := 36) (k := k) (x := some (.fz (sD k S))) S h
  have s := src_S (k := k) (S := S)
  have is := i_lt_S (k := k) (S := S)
  have hl : (S.map (eR k)).length ≤ 1000000 := by rw [List.length_map]; have := h.1; omega
  have tp : fTuple [.fz (.lst (S.map (eR false)))] = .ok (.fz (sD false S)) := rfl
  have fr : frzs (S.map fun r => W.fz (eR false r)) = S.map (eR false) := frzs_fz _ _
  have e40 : Ftupled 40 = runDef 1 2 (ioOf []) (mtupled (Ftupled (36 + 3))) := rfl
  rw [e40]
  generalize Ftupled (36 + 3) = F0 at *
  generalize sD false S = R0 at *
  generalize S.map (eR false) = M0 at *
  generalize (S.map fun e => W.fz (eR false e)) = M1 at *
  generalize sD k S = R at *
  generalize S.map (eR k) = M at *
  simp only [Bq,mtupled,v_forc,v_lcc,pend,cont,take,frz,frzs,getP,setP,Res.of,boolOf,isPl,mutS,mutP,intOf,move,retOf,backs1,put1,fzT,ioOf,chk,early,shut,isTmp,flatB,scal,List.map_cons,List.map_nil,List.cons_append,List.nil_append,List.append_nil,List.replicate_succ,List.replicate_zero,List.replicate,List.length_cons,List.length_nil,List.getElem?_cons_zero,List.getElem?_cons_succ,List.set_cons_zero,List.set_cons_succ,List.all_cons,List.all_nil,List.contains_cons,List.contains_nil,List.elem_cons,List.elem_nil,List.isEmpty_nil,List.isEmpty_cons,Nat.reduceAdd,Nat.reduceSub,Nat.reduceBEq,Nat.reduceLT,Nat.reduceLeDiff,Nat.reduceEqDiff,decide_true,decide_false,Bool.and_true,Bool.true_and,Bool.or_true,Bool.true_or,Bool.or_false,Bool.false_or,Bool.and_false,Bool.false_and,Bool.not_true,Bool.not_false,Bool.false_eq_true,reduceIte,ite_true,ite_false,beq_self_eq_true,Nat.zero_add,reduceCtorEq,and_self,true_and,and_true,ge_iff_le,gt_iff_lt,Nat.succ_eq_add_one,Nat.add_one_sub_one,Nat.zero_lt_succ,Nat.lt_add_left_iff_pos,wipeE,restE,pick,List.filterMap_cons,List.filterMap_nil,Int.reduceLE,Int.reduceLT,Int.reduceNeg,decide_eq_true_eq,Bool.not_eq_true',decide_eq_false_iff_not,isT,seqV,tupV,lstV,Option.getD,is,s,hl,lc,fr,tp]
abbrev nD (s : List Nat) : List D := s.map fun n => D.int (n : Nat)
abbrev tS (s : List Nat) : D := .tup (nD s)
theorem nD_len (s : List Nat) : (nD s).length = s.length := List.length_map ..
abbrev lsts (S : List Rw) : List Nat := S.map fun r => r.length
section
variable {S : List Rw} {s : List Nat}
abbrev iws (l : List Nat) : List W := l.map fun k => W.fz (.int ((k : Nat) : Int))
theorem ix_S {k : Nat} {r : Rw} (h : S[k]? = some r) : fIdx (.fz (sD false S)) (.fz (.int ((k : Nat) : Int))) = .ok (.fz (eR false r)) := by
  have hk := (List.getElem?_eq_some_iff.mp h).1
  exact w_ix (ds := S.map (eR false)) (j := k) rfl (by rw [List.length_map, ixN_pos (by omega) (by omega)]; rfl) (by rw [List.getElem?_map, h]; rfl)
theorem ix_R {k : Nat} {r : Rw} {e : Wd × Int} (h : r[k]? = some e) : fIdx (.fz (eR false r)) (.fz (.int ((k : Nat) : Int))) = .ok (.fz (eE false e)) := by
  have hk := (List.getElem?_eq_some_iff.mp h).1
  exact w_ix (ds := r.map (eE false)) (j := k) rfl (by rw [List.length_map, ixN_pos (by omega) (by omega)]; rfl) (by rw [List.getElem?_map, h]; rfl)
theorem zero_sp : ∀ S : List Rw, Sp S (List.replicate S.length 0)
  | [] => trivial
  | r :: S => ⟨Nat.zero_le _, zero_sp S⟩
theorem zero_k {k : Bool} (h0 : S ≠ []) (hS : S.length ≤ 1000) : fLen [.fz (sD k S)] = .ok (.fz (.int ((S.length : Nat) : Int))) := by
  cases k
  · show fLen [.fz (.tup (S.map (eR false)))] = _
    rw [len_t, List.length_map]
  · show fLen [.fz (.lst (S.map (eR true)))] = _
    rw [len_l, List.length_map]
abbrev z0 (S : List Rw) : List Nat := List.replicate S.length 0
def VW (S : List Rw) : List Nat → List Nat → Prop
  | _, [] => True
  | s, k :: w => (∃ e, evat S s k = some e) ∧ VW S (inc s k) w
theorem mk_len {S : List Rw} : ∀ (s w : List Nat), VW S s w → (mk S s w).length = w.length
  | _, [], _ => rfl
  | s, k :: w, h => by
    obtain ⟨⟨e, he⟩, h2⟩ := h
    show (match evat S s k with | some e => e :: mk S (inc s k) w | none => []).length = _
    rw [he]
    show (mk S (inc s k) w).length + 1 = _
    rw [mk_len _ _ h2]; rfl
abbrev ME (S : List Rw) (w0 : D) (a : Option W) (f : Rw) (s : List Nat) : En := [some (.fz (sD false S)), some (.fz w0), a, some (.lst (f.map fun e => W.fz (eE false e))), some (.lst (iws s))]
theorem iw_ix {k n : Nat} (h : s[k]? = some n) : fIdx (.lst (iws s)) (.fz (.int ((k : Nat) : Int))) = .ok (.fz (.int ((n : Nat) : Int))) := by
  have hk := (List.getElem?_eq_some_iff.mp h).1
  exact w_ix (ds := nD s) (j := k) (by show unfz (iws s) = _; rw [show iws s = (nD s).map W.fz by unfold iws nD; rw [List.map_map]; rfl]; exact unfz_fz _) (by rw [nD_len, ixN_pos (by omega) (by omega)]; rfl) (by rw [List.getElem?_map, h]; rfl)
theorem ev_parts {k : Nat} {e : Wd × Int} (h : evat S s k = some e) : ∃ r n, S[k]? = some r ∧ s[k]? = some n ∧ r[n]? = some e := by
  unfold evat at h
  cases hr : S[k]? with
  | none => rw [hr] at h; cases h
  | some r =>
    rw [hr] at h
    cases hn : s[k]? with
    | none => rw [hn] at h; cases h
    | some n => rw [hn] at h; exact ⟨r, n, rfl, rfl, h⟩
theorem made_body {w0 : D} {f : Rw} {k : Nat} {e : Wd × Int} (h : evat S s k = some e) (hf : f.length ≤ 1000) (hl : s.length ≤ 1000) : L_law_made_1 (ME S w0 (some (.fz (.int ((k : Nat) : Int)))) f s) = .ok (.nx, ME S w0 (some (.fz (.int ((k : Nat) : Int)))) (f ++ [e]) (inc s k)) := by
  obtain ⟨r, n, h1, h2, h3⟩ := ev_parts h
  have i1 := ix_S h1
  have i2 := iw_ix h2
  have i3 := ix_R h3
  have hk := (List.getElem?_eq_some_iff.mp h2).1
  have e1 : ((f ++ [e]).map fun e => W.fz (eE false e)) = (f.map fun e => W.fz (eE false e)) ++ [W.fz (eE false e)] := by rw [List.map_append]; rfl
  have e2 : iws (inc s k) = (iws s).set k (.fz (.int (((n : Nat) : Int) + 1))) := by
    unfold inc iws
    rw [List.map_set, List.getD_eq_getElem?_getD, h2]; rfl
  have hx : L2.ixN (iws s).length ((k : Nat) : Int) = some k := by
    unfold iws
    rw [List.length_map, ixN_pos (by omega) (by omega)]; rfl
  have hf2 : (f.map fun e => W.fz (eE false e)).length ≤ 1000000 := by rw [List.length_map]; omega
  unfold ME
  rw [e1, e2]
  generalize f.map (fun e => W.fz (eE false e)) = F at *
  generalize iws s = I at *
  generalize eE false e = E at *
  generalize eR false r = R at *
  generalize sD false S = SS at *
  generalize ((n : Nat) : Int) = N at *
  generalize hK : ((k : Nat) : Int) = K at *
  simp only [Bq,L_law_made_1,v_forc,v_lcc,pend,cont,take,frz,frzs,getP,setP,Res.of,boolOf,isPl,mutS,mutP,intOf,move,retOf,backs1,put1,fzT,ioOf,chk,early,shut,isTmp,flatB,scal,List.map_cons,List.map_nil,List.cons_append,List.nil_append,List.append_nil,List.replicate_succ,List.replicate_zero,List.replicate,List.length_cons,List.length_nil,List.getElem?_cons_zero,List.getElem?_cons_succ,List.set_cons_zero,List.set_cons_succ,List.all_cons,List.all_nil,List.contains_cons,List.contains_nil,List.elem_cons,List.elem_nil,List.isEmpty_nil,List.isEmpty_cons,Nat.reduceAdd,Nat.reduceSub,Nat.reduceBEq,Nat.reduceLT,Nat.reduceLeDiff,Nat.reduceEqDiff,decide_true,decide_false,Bool.and_true,Bool.true_and,Bool.or_true,Bool.true_or,Bool.or_false,Bool.false_or,Bool.and_false,Bool.false_and,Bool.not_true,Bool.not_false,Bool.false_eq_true,reduceIte,ite_true,ite_false,beq_self_eq_true,Nat.zero_add,reduceCtorEq,and_self,true_and,and_true,ge_iff_le,gt_iff_lt,Nat.succ_eq_add_one,Nat.add_one_sub_one,Nat.zero_lt_succ,Nat.lt_add_left_iff_pos,wipeE,restE,pick,List.filterMap_cons,List.filterMap_nil,Int.reduceLE,Int.reduceLT,Int.reduceNeg,decide_eq_true_eq,Bool.not_eq_true',decide_eq_false_iff_not,isT,seqV,tupV,lstV,Option.getD,i1,i2,i3,hf2,hx]
theorem made_loop {w0 : D} (hS : S.length ≤ 1000) : ∀ (w : List Nat) (s : List Nat) (f : Rw) (a : Option W), Sp S s → VW S s w → f.length + w.length ≤ 1000 → ∃ (a' : Option W) (s' : List Nat), forL (gSet 2) L_law_made_1 (nD w) (ME S w0 a f s) = .ok (.nx, ME S w0 a' (f ++ mk S s w) s')
  | [], s, f, a, _, _, _ => ⟨a, s, by rw [show mk S s [] = [] from rfl, List.append_nil]; rfl⟩
  | k :: w, s, f, a, hs, hv, hl => by
    obtain ⟨⟨e, he⟩, h2⟩ := hv
    rw [List.length_cons] at hl
    obtain ⟨a', s', ih⟩ := made_loop (w0 := w0) hS w (inc s k) (f ++ [e]) (some (.fz (.int ((k : Nat) : Int)))) (inc_ok hs he).1 h2 (by rw [List.length_append, List.length_singleton]; omega)
    refine ⟨a', s', ?_⟩
    have : mk S s (k :: w) = e :: mk S (inc s k) w := by show (match evat S s k with | some e => e :: mk S (inc s k) w | none => []) = _; rw [he]
    rw [this]
    rw [List.append_assoc, List.singleton_append] at ih
    exact for_nx rfl (made_body he (by omega) (by rw [hs.len]; exact hS)) ih
theorem mul_l {d : D} {n : Nat} (h : n ≤ 1000) : fMul (.lst [.fz d]) (.fz (.int (n : Int))) = .ok (.lst ((List.replicate n [d]).flatten.map W.fz)) := by
  have e : fMul (.lst [.fz d]) (.fz (.int (n : Int))) = fLstMul (.lst [.fz d]) (.fz (.int (n : Int))) := by
    unfold fMul
    rw [show isI (W.lst [.fz d]) = false from rfl, show isT (W.lst [.fz d]) = false from rfl, if_neg (by simp), if_neg (by simp)]
  have l : lstV (.lst [.fz d]) = some [d] := rfl
  rw [e]
  unfold fLstMul
  rw [l]
  simp only
  rw [if_pos ⟨by omega, by omega, by rw [Int.toNat_natCast]; simp only [List.length_singleton, Nat.one_mul]; omega⟩, Int.toNat_natCast]
abbrev md1 : CS := cPar2 3 4 (cCons true (cLst true cNil) (cCons true (cBin fMul true (cLst true (cCons true (cC (.int 0)) cNil)) (cCallB fLen (cCons true (cVar 0) cNil))) cNil))
theorem md1_ok {SS T : D} {N : Int} {I : List W} (ln : fLen [.fz SS] = .ok (.fz (.int N))) (mu : fMul (.lst [.fz (.int 0)]) (.fz (.int N)) = .ok (.lst I)) (mu2 : fMul (.fz (.lst [.int 0])) (.fz (.int N)) = .ok (.lst I)) : md1 [some (.fz SS), some (.fz T), none, none, none] = .ok (.nx, [some (.fz SS), some (.fz T), none, some (.lst []), some (.lst I)]) := by
  simp only [Bq,md1,v_forc,v_lcc,pend,cont,take,frz,frzs,getP,setP,Res.of,boolOf,isPl,mutS,mutP,intOf,move,retOf,backs1,put1,fzT,ioOf,chk,early,shut,isTmp,flatB,scal,List.map_cons,List.map_nil,List.cons_append,List.nil_append,List.append_nil,List.replicate_succ,List.replicate_zero,List.replicate,List.length_cons,List.length_nil,List.getElem?_cons_zero,List.getElem?_cons_succ,List.set_cons_zero,List.set_cons_succ,List.all_cons,List.all_nil,List.contains_cons,List.contains_nil,List.elem_cons,List.elem_nil,List.isEmpty_nil,List.isEmpty_cons,Nat.reduceAdd,Nat.reduceSub,Nat.reduceBEq,Nat.reduceLT,Nat.reduceLeDiff,Nat.reduceEqDiff,decide_true,decide_false,Bool.and_true,Bool.true_and,Bool.or_true,Bool.true_or,Bool.or_false,Bool.false_or,Bool.and_false,Bool.false_and,Bool.not_true,Bool.not_false,Bool.false_eq_true,reduceIte,ite_true,ite_false,beq_self_eq_true,Nat.zero_add,reduceCtorEq,and_self,true_and,and_true,ge_iff_le,gt_iff_lt,Nat.succ_eq_add_one,Nat.add_one_sub_one,Nat.zero_lt_succ,Nat.lt_add_left_iff_pos,wipeE,restE,pick,List.filterMap_cons,List.filterMap_nil,Int.reduceLE,Int.reduceLT,Int.reduceNeg,decide_eq_true_eq,Bool.not_eq_true',decide_eq_false_iff_not,isT,seqV,tupV,lstV,Option.getD,ln,mu,mu2]
theorem md2_ok {SS T : D} {M : List D} {I : List W} {ρ : En} (sr : srcV (.fz T) = some M) (hl2 : M.length ≤ 1000000) (e : forL (gSet 2) L_law_made_1 M [some (.fz SS), some (.fz T), none, some (.lst []), some (.lst I)] = .ok (.nx, ρ)) : cFor (iSeq (cVar 1)) (gSet 2) L_law_made_1 [some (.fz SS), some (.fz T), none, some (.lst []), some (.lst I)] = .ok (.nx, ρ) := by
  simp only [Bq,v_lcc,pend,cont,take,frz,frzs,getP,setP,Res.of,boolOf,isPl,mutS,mutP,intOf,move,retOf,backs1,put1,fzT,ioOf,chk,early,shut,isTmp,flatB,scal,List.map_cons,List.map_nil,List.cons_append,List.nil_append,List.append_nil,List.replicate_succ,List.replicate_zero,List.replicate,List.length_cons,List.length_nil,List.getElem?_cons_zero,List.getElem?_cons_succ,List.set_cons_zero,List.set_cons_succ,List.all_cons,List.all_nil,List.contains_cons,List.contains_nil,List.elem_cons,List.elem_nil,List.isEmpty_nil,List.isEmpty_cons,Nat.reduceAdd,Nat.reduceSub,Nat.reduceBEq,Nat.reduceLT,Nat.reduceLeDiff,Nat.reduceEqDiff,decide_true,decide_false,Bool.and_true,Bool.true_and,Bool.or_true,Bool.true_or,Bool.or_false,Bool.false_or,Bool.and_false,Bool.false_and,Bool.not_true,Bool.not_false,Bool.false_eq_true,reduceIte,ite_true,ite_false,beq_self_eq_true,Nat.zero_add,reduceCtorEq,and_self,true_and,and_true,ge_iff_le,gt_iff_lt,Nat.succ_eq_add_one,Nat.add_one_sub_one,Nat.zero_lt_succ,Nat.lt_add_left_iff_pos,wipeE,restE,pick,List.filterMap_cons,List.filterMap_nil,Int.reduceLE,Int.reduceLT,Int.reduceNeg,decide_eq_true_eq,Bool.not_eq_true',decide_eq_false_iff_not,isT,seqV,tupV,lstV,Option.getD,sr,hl2,e]
theorem md3_ok {SS T R : D} {F I : List W} {a : Option W} (tp : fTuple [.lst F] = .ok (.fz R)) : cRet (cCallB fTuple (cCons true (cVar 3) cNil)) [some (.fz SS), some (.fz T), a, some (.lst F), some (.lst I)] = .ok (.ret (.fz R), [some (.fz SS), some (.fz T), a, some (.lst F), some (.lst I)]) := by
  simp only [Bq,v_forc,v_lcc,pend,cont,take,frz,frzs,getP,setP,Res.of,boolOf,isPl,mutS,mutP,intOf,move,retOf,backs1,put1,fzT,ioOf,chk,early,shut,isTmp,flatB,scal,List.map_cons,List.map_nil,List.cons_append,List.nil_append,List.append_nil,List.replicate_succ,List.replicate_zero,List.replicate,List.length_cons,List.length_nil,List.getElem?_cons_zero,List.getElem?_cons_succ,List.set_cons_zero,List.set_cons_succ,List.all_cons,List.all_nil,List.contains_cons,List.contains_nil,List.elem_cons,List.elem_nil,List.isEmpty_nil,List.isEmpty_cons,Nat.reduceAdd,Nat.reduceSub,Nat.reduceBEq,Nat.reduceLT,Nat.reduceLeDiff,Nat.reduceEqDiff,decide_true,decide_false,Bool.and_true,Bool.true_and,Bool.or_true,Bool.true_or,Bool.or_false,Bool.false_or,Bool.and_false,Bool.false_and,Bool.not_true,Bool.not_false,Bool.false_eq_true,reduceIte,ite_true,ite_false,beq_self_eq_true,Nat.zero_add,reduceCtorEq,and_self,true_and,and_true,ge_iff_le,gt_iff_lt,Nat.succ_eq_add_one,Nat.add_one_sub_one,Nat.zero_lt_succ,Nat.lt_add_left_iff_pos,wipeE,restE,pick,List.filterMap_cons,List.filterMap_nil,Int.reduceLE,Int.reduceLT,Int.reduceNeg,decide_eq_true_eq,Bool.not_eq_true',decide_eq_false_iff_not,isT,seqV,tupV,lstV,Option.getD,tp]
end
end Gn
namespace Gn
open Mi PySem
theorem of_ok {m : Nat} {β : Bx} {ds : List D} (g : Gd (m + 1) β) (h0 : 0 < ds.length) (h1 : ds.length ≤ 1000) : ∃ (d : D) (β' : Bx), d ∈ ds ∧ Gd m β' ∧ F_law_of [bx β, .fz (.lst ds)] = .ok (.fz d, [bx β', .fz (.lst ds)]) := by
  obtain ⟨r, β', r0, r1, g', e⟩ := take_ok (n := (ds.length : Int)) g (by omega) (by omega)
  have hr : r.toNat < ds.length := by omega
  have ix : fIdx (.fz (.lst ds)) (.fz (.int r)) = .ok (.fz ds[r.toNat]) := w_ix (ds := ds) (j := r.toNat) rfl (ixN_pos r0 r1) (List.getElem?_eq_getElem hr)
  refine ⟨ds[r.toNat], β', List.getElem_mem hr, g', ?_⟩
  simp only [Bq,F_law_of,m_law_of,v_forc,v_lcc,pend,cont,take,frz,frzs,getP,setP,Res.of,boolOf,isPl,mutS,mutP,intOf,move,retOf,backs1,put1,fzT,ioOf,chk,early,shut,isTmp,flatB,scal,List.map_cons,List.map_nil,List.cons_append,List.nil_append,List.append_nil,List.replicate_succ,List.replicate_zero,List.replicate,List.length_cons,List.length_nil,List.getElem?_cons_zero,List.getElem?_cons_succ,List.set_cons_zero,List.set_cons_succ,List.all_cons,List.all_nil,List.contains_cons,List.contains_nil,List.elem_cons,List.elem_nil,List.isEmpty_nil,List.isEmpty_cons,Nat.reduceAdd,Nat.reduceSub,Nat.reduceBEq,Nat.reduceLT,Nat.reduceLeDiff,Nat.reduceEqDiff,decide_true,decide_false,Bool.and_true,Bool.true_and,Bool.or_true,Bool.true_or,Bool.or_false,Bool.false_or,Bool.and_false,Bool.false_and,Bool.not_true,Bool.not_false,Bool.false_eq_true,reduceIte,ite_true,ite_false,beq_self_eq_true,Nat.zero_add,reduceCtorEq,and_self,true_and,and_true,ge_iff_le,gt_iff_lt,Nat.succ_eq_add_one,Nat.add_one_sub_one,Nat.zero_lt_succ,Nat.lt_add_left_iff_pos,wipeE,restE,pick,List.filterMap_cons,List.filterMap_nil,Int.reduceLE,Int.reduceLT,Int.reduceNeg,decide_eq_true_eq,Bool.not_eq_true',decide_eq_false_iff_not,isT,seqV,tupV,lstV,Option.getD,len_l,e,ix]
def smA (e : Wd × Int) : Prop := -6 ≤ e.2 ∧ e.2 ≤ 6
def smB (e : Wd × Int) : Prop := -10 ≤ e.2 ∧ e.2 ≤ 10
theorem smA.b {e : Wd × Int} (h : smA e) : smB e := ⟨by have := h.1; omega, by have := h.2; omega⟩
theorem event_ok {m : Nat} {β : Bx} (g : Gd (m + 2) β) : ∃ (e : Wd × Int) (β' : Bx), Gd m β' ∧ smA e ∧ F_law_event [bx β, .fz (.int 6)] = .ok (.fz (eE false e), [bx β', .fz (.int 6)]) := by
  obtain ⟨d1, β1, hd, g1, e1⟩ := of_ok (m := m + 1) (ds := [.str "add", .str "add", .str "floor", .str "cap"]) g (by simp) (by simp)
  have : ∃ w : Wd, d1 = .str (wd w) := by
    simp only [List.mem_cons, List.not_mem_nil, or_false] at hd
    rcases hd with rfl | rfl | rfl | rfl
    · exact ⟨.add, rfl⟩
    · exact ⟨.add, rfl⟩
    · exact ⟨.flo, rfl⟩
    · exact ⟨.cap, rfl⟩
  obtain ⟨w, rfl⟩ := this
  obtain ⟨n, β2, n0, n1, g2, e2⟩ := take_ok (m := m) (n := 2 * 6 + 1) g1 (by omega) (by omega)
  have mu : fMul (.fz (.int 2)) (.fz (.int 6)) = .ok (.fz (.int (2 * 6))) := w_mulL (by omega)
  refine ⟨(w, n - 6), β2, g2, ⟨by show -6 ≤ n - 6; omega, by show n - 6 ≤ 6; omega⟩, ?_⟩
  simp only [Bq,F_law_event,m_law_event,v_forc,v_lcc,pend,cont,take,frz,frzs,getP,setP,Res.of,boolOf,isPl,mutS,mutP,intOf,move,retOf,backs1,put1,fzT,ioOf,chk,early,shut,isTmp,flatB,scal,List.map_cons,List.map_nil,List.cons_append,List.nil_append,List.append_nil,List.replicate_succ,List.replicate_zero,List.replicate,List.length_cons,List.length_nil,List.getElem?_cons_zero,List.getElem?_cons_succ,List.set_cons_zero,List.set_cons_succ,List.all_cons,List.all_nil,List.contains_cons,List.contains_nil,List.elem_cons,List.elem_nil,List.isEmpty_nil,List.isEmpty_cons,Nat.reduceAdd,Nat.reduceSub,Nat.reduceBEq,Nat.reduceLT,Nat.reduceLeDiff,Nat.reduceEqDiff,decide_true,decide_false,Bool.and_true,Bool.true_and,Bool.or_true,Bool.true_or,Bool.or_false,Bool.false_or,Bool.and_false,Bool.false_and,Bool.not_true,Bool.not_false,Bool.false_eq_true,reduceIte,ite_true,ite_false,beq_self_eq_true,Nat.zero_add,reduceCtorEq,and_self,true_and,and_true,ge_iff_le,gt_iff_lt,Nat.succ_eq_add_one,Nat.add_one_sub_one,Nat.zero_lt_succ,Nat.lt_add_left_iff_pos,wipeE,restE,pick,List.filterMap_cons,List.filterMap_nil,Int.reduceLE,Int.reduceLT,Int.reduceNeg,decide_eq_true_eq,Bool.not_eq_true',decide_eq_false_iff_not,isT,seqV,tupV,lstV,Option.getD,e1,e2,mu,eE,sq]
theorem gn_lc {t : Int} {R : Option W} : ∀ r : List (Wd × Int), (∀ e ∈ r, smB e) → lcL [2, 3] (gUnp (gsCons (gSet 2) (gsCons (gSet 3) gsNil))) cYes E_law_grown_1 (r.map (eE false)) [R, some (.fz (.int t)), none, none] = .ok ((r.map fun e => (e.1, e.2 * t)).map fun e => W.fz (eE false e), [R, some (.fz (.int t)), none, none])
  | [], _ => rfl
  | e :: r, h => by
    have ih := gn_lc (t := t) (R := R) r fun q hq => h q (by simp [hq])
    have h0 := h e (by simp)
    have u : ∀ (ρ : En), gUnp (gsCons (gSet 2) (gsCons (gSet 3) gsNil)) (.fz (eE false e)) ρ = gsCons (gSet 2) (gsCons (gSet 3) gsNil) [.str (wd e.1), .int e.2] ρ := fun ρ => un_e
    have mu : fMul (.fz (.int e.2)) (.fz (.int t)) = .ok (.fz (.int (e.2 * t))) := w_mulL (by obtain ⟨a, b⟩ := h0; omega)
    have eg : ((e :: r).map fun e => (e.1, e.2 * t)).map (fun e => W.fz (eE false e)) = W.fz (.tup [.str (wd e.1), .int (e.2 * t)]) :: (r.map fun e => (e.1, e.2 * t)).map fun e => W.fz (eE false e) := rfl
    rw [eg, List.map_cons (f := eE false)]
    generalize (r.map fun e => (e.1, e.2 * t)).map (fun e => W.fz (eE false e)) = Z at *
    generalize r.map (eE false) = RL at *
    generalize eE false e = E at *
    generalize wd e.1 = w at *
    simp only [Bq,E_law_grown_1,v_forc,v_lcc,pend,cont,take,frz,frzs,getP,setP,Res.of,boolOf,isPl,mutS,mutP,intOf,move,retOf,backs1,put1,fzT,ioOf,chk,early,shut,isTmp,flatB,scal,List.map_cons,List.map_nil,List.cons_append,List.nil_append,List.append_nil,List.replicate_succ,List.replicate_zero,List.replicate,List.length_cons,List.length_nil,List.getElem?_cons_zero,List.getElem?_cons_succ,List.set_cons_zero,List.set_cons_succ,List.all_cons,List.all_nil,List.contains_cons,List.contains_nil,List.elem_cons,List.elem_nil,List.isEmpty_nil,List.isEmpty_cons,Nat.reduceAdd,Nat.reduceSub,Nat.reduceBEq,Nat.reduceLT,Nat.reduceLeDiff,Nat.reduceEqDiff,decide_true,decide_false,Bool.and_true,Bool.true_and,Bool.or_true,Bool.true_or,Bool.or_false,Bool.false_or,Bool.and_false,Bool.false_and,Bool.not_true,Bool.not_false,Bool.false_eq_true,reduceIte,ite_true,ite_false,beq_self_eq_true,Nat.zero_add,reduceCtorEq,and_self,true_and,and_true,ge_iff_le,gt_iff_lt,Nat.succ_eq_add_one,Nat.add_one_sub_one,Nat.zero_lt_succ,Nat.lt_add_left_iff_pos,wipeE,restE,pick,List.filterMap_cons,List.filterMap_nil,Int.reduceLE,Int.reduceLT,Int.reduceNeg,decide_eq_true_eq,Bool.not_eq_true',decide_eq_false_iff_not,isT,seqV,tupV,lstV,Option.getD,u,mu,ih]
theorem grown_ok {r : List (Wd × Int)} {t : Int} (h : ∀ e ∈ r, smB e) (hl : r.length ≤ 900) : F_law_grown [.fz (eR false r), .fz (.int t)] = .ok (.fz (eR false (r.map fun e => (e.1, e.2 * t))), [.fz (eR false r), .fz (.int t)]) := by
  have lc := gn_lc (t := t) (R := some (.fz (eR false r))) r h
  have sr := src_R (k := false) (r := r)
  have hz : (r.map (eE false)).length ≤ 1000000 := by rw [List.length_map]; omega
  have fr := frz_ev (r.map fun e => (e.1, e.2 * t))
  have tp := tup_ev (r.map fun e => (e.1, e.2 * t))
  generalize (r.map fun e => (e.1, e.2 * t)).map (fun e => W.fz (eE false e)) = Z at *
  generalize (r.map fun e => (e.1, e.2 * t)).map (eE false) = Z2 at *
  generalize eR false (r.map fun e => (e.1, e.2 * t)) = R2 at *
  generalize r.map (eE false) = RL at *
  generalize eR false r = R at *
  unfold F_law_grown m_law_grown
  generalize E_law_grown_1 = EG at *
  simp only [Bq,v_forc,pend,cont,take,frz,frzs,getP,setP,Res.of,boolOf,isPl,mutS,mutP,intOf,move,retOf,backs1,put1,fzT,ioOf,chk,early,shut,isTmp,flatB,scal,List.map_cons,List.map_nil,List.cons_append,List.nil_append,List.append_nil,List.replicate_succ,List.replicate_zero,List.replicate,List.length_cons,List.length_nil,List.getElem?_cons_zero,List.getElem?_cons_succ,List.set_cons_zero,List.set_cons_succ,List.all_cons,List.all_nil,List.contains_cons,List.contains_nil,List.elem_cons,List.elem_nil,List.isEmpty_nil,List.isEmpty_cons,Nat.reduceAdd,Nat.reduceSub,Nat.reduceBEq,Nat.reduceLT,Nat.reduceLeDiff,Nat.reduceEqDiff,decide_true,decide_false,Bool.and_true,Bool.true_and,Bool.or_true,Bool.true_or,Bool.or_false,Bool.false_or,Bool.and_false,Bool.false_and,Bool.not_true,Bool.not_false,Bool.false_eq_true,reduceIte,ite_true,ite_false,beq_self_eq_true,Nat.zero_add,reduceCtorEq,and_self,true_and,and_true,ge_iff_le,gt_iff_lt,Nat.succ_eq_add_one,Nat.add_one_sub_one,Nat.zero_lt_succ,Nat.lt_add_left_iff_pos,wipeE,restE,pick,List.filterMap_cons,List.filterMap_nil,Int.reduceLE,Int.reduceLT,Int.reduceNeg,decide_eq_true_eq,Bool.not_eq_true',decide_eq_false_iff_not,isT,seqV,tupV,lstV,Option.getD,sr,hz,lc,fr,tp]
theorem ev_lc {x1 x2 x3 x4 x5 x6 : Option W} : ∀ (ds : List D) (m : Nat) (β : Bx), Gd (m + 2 * ds.length) β → ∃ (r : List (Wd × Int)) (β' : Bx), Gd m β' ∧ r.length = ds.length ∧ (∀ e ∈ r, smA e) ∧
    lcL [7] (gSet 7) cYes E_law_streams_1 ds [some (bx β), x1, x2, x3, x4, x5, x6, none] = .ok (r.map fun e => W.fz (eE false e), [some (bx β'), x1, x2, x3, x4, x5, x6, none])
  | [], m, β, g => ⟨[], β, g, rfl, by simp, rfl⟩
  | d :: ds, m, β, g => by
    rw [List.length_cons] at g
    obtain ⟨e, β1, g1, he, e1⟩ := event_ok (m := m + 2 * ds.length) (g.le (by omega))
    obtain ⟨r, β', g', hl, hr, e2⟩ := ev_lc (x1 := x1) (x2 := x2) (x3 := x3) (x4 := x4) (x5 := x5) (x6 := x6) ds m β1 g1
    refine ⟨e :: r, β', g', by rw [List.length_cons, List.length_cons, hl], fun x hx => ?_, ?_⟩
    · rcases List.mem_cons.mp hx with rfl | hx
      · exact he
      · exact hr x hx
    · have hm : (e :: r).map (fun e => W.fz (eE false e)) = W.fz (eE false e) :: r.map fun e => W.fz (eE false e) := rfl
      rw [hm]
      generalize eE false e = q at *
      simp only [Bq,E_law_streams_1,v_forc,v_lcc,pend,cont,take,frz,frzs,getP,setP,Res.of,boolOf,isPl,mutS,mutP,intOf,move,retOf,backs1,put1,fzT,ioOf,chk,early,shut,isTmp,flatB,scal,List.map_cons,List.map_nil,List.cons_append,List.nil_append,List.append_nil,List.replicate_succ,List.replicate_zero,List.replicate,List.length_cons,List.length_nil,List.getElem?_cons_zero,List.getElem?_cons_succ,List.set_cons_zero,List.set_cons_succ,List.all_cons,List.all_nil,List.contains_cons,List.contains_nil,List.elem_cons,List.elem_nil,List.isEmpty_nil,List.isEmpty_cons,Nat.reduceAdd,Nat.reduceSub,Nat.reduceBEq,Nat.reduceLT,Nat.reduceLeDiff,Nat.reduceEqDiff,decide_true,decide_false,Bool.and_true,Bool.true_and,Bool.or_true,Bool.true_or,Bool.or_false,Bool.false_or,Bool.and_false,Bool.false_and,Bool.not_true,Bool.not_false,Bool.false_eq_true,reduceIte,ite_true,ite_false,beq_self_eq_true,Nat.zero_add,reduceCtorEq,and_self,true_and,and_true,ge_iff_le,gt_iff_lt,Nat.succ_eq_add_one,Nat.add_one_sub_one,Nat.zero_lt_succ,Nat.lt_add_left_iff_pos,wipeE,restE,pick,List.filterMap_cons,List.filterMap_nil,Int.reduceLE,Int.reduceLT,Int.reduceNeg,decide_eq_true_eq,Bool.not_eq_true',decide_eq_false_iff_not,isT,seqV,tupV,lstV,Option.getD,e1,e2]
abbrev rws (S : List Rw) : List W := S.map fun r => W.fz (eR false r)
theorem rws_snoc (S : List Rw) (r : Rw) : rws S ++ [.fz (eR false r)] = rws (S ++ [r]) := by
  unfold rws
  rw [List.map_append]; rfl
abbrev sb1 : CS := cAsg (gSet 6) (cCallB fTuple (cCons true (cLc [7] (iRange1 (cCallIO F_law_take (ioOf [0]) (cCons true (cVar 0) (cCons true (cBin fAdd true (cCallB fMin2 (cCons true (cVar 5) (cCons true (cC (.int 4)) cNil))) (cC (.int 1))) cNil)))) (gSet 7) cYes E_law_streams_1) cNil))
theorem sb1_v {β β1 β2 : Bx} {l s : Int} {M : List W} {MD : List D} {R : D} {x1 x2 x3 x6 : Option W} {x4 : List W} (e1 : F_law_take [bx β, .fz (.int (min l 4 + 1))] = .ok (.fz (.int s), [bx β1, .fz (.int (min l 4 + 1))])) (hn : -1000000 ≤ s ∧ s ≤ 1000000) (hl : (rangeD 0 s.toNat).length ≤ 1000000) (lc : lcL [7] (gSet 7) cYes E_law_streams_1 (rangeD 0 s.toNat) [some (bx β1), x1, x2, x3, some (.lst x4), some (.fz (.int l)), x6, none] = .ok (M, [some (bx β2), x1, x2, x3, some (.lst x4), some (.fz (.int l)), x6, none])) (fr : frzs M = MD) (tp : fTuple [.fz (.lst MD)] = .ok (.fz R)) :
    sb1 [some (bx β), x1, x2, x3, some (.lst x4), some (.fz (.int l)), x6, none] = .ok (.nx, [some (bx β2), x1, x2, x3, some (.lst x4), some (.fz (.int l)), some (.fz R), none]) := by
  simp only [Bq,sb1,v_forc,pend,cont,take,frz,frzs,getP,setP,Res.of,boolOf,isPl,mutS,mutP,intOf,move,retOf,backs1,put1,fzT,ioOf,chk,early,shut,isTmp,flatB,scal,List.map_cons,List.map_nil,List.cons_append,List.nil_append,List.append_nil,List.replicate_succ,List.replicate_zero,List.replicate,List.length_cons,List.length_nil,List.getElem?_cons_zero,List.getElem?_cons_succ,List.set_cons_zero,List.set_cons_succ,List.all_cons,List.all_nil,List.contains_cons,List.contains_nil,List.elem_cons,List.elem_nil,List.isEmpty_nil,List.isEmpty_cons,Nat.reduceAdd,Nat.reduceSub,Nat.reduceBEq,Nat.reduceLT,Nat.reduceLeDiff,Nat.reduceEqDiff,decide_true,decide_false,Bool.and_true,Bool.true_and,Bool.or_true,Bool.true_or,Bool.or_false,Bool.false_or,Bool.and_false,Bool.false_and,Bool.not_true,Bool.not_false,Bool.false_eq_true,reduceIte,ite_true,ite_false,beq_self_eq_true,Nat.zero_add,reduceCtorEq,and_self,true_and,and_true,ge_iff_le,gt_iff_lt,Nat.succ_eq_add_one,Nat.add_one_sub_one,Nat.zero_lt_succ,Nat.lt_add_left_iff_pos,wipeE,restE,pick,List.filterMap_cons,List.filterMap_nil,Int.reduceLE,Int.reduceLT,Int.reduceNeg,decide_eq_true_eq,Bool.not_eq_true',decide_eq_false_iff_not,isT,seqV,tupV,lstV,Option.getD,e1,hn,hl,lc,fr,tp]
abbrev sb2 : CS := cDrop (cApp false (cVar 4) (cCallP false F_law_grown (cCons true (cVar 6) (cCons true (cVar 2) cNil))))
theorem sb2_v {R R2 : D} {x0 x1 x3 x5 : Option W} {x4 : List W} {t : Int} (g : F_law_grown [.fz R, .fz (.int t)] = .ok (.fz R2, [.fz R, .fz (.int t)])) (hl : x4.length ≤ 1000000) : sb2 [x0, x1, some (.fz (.int t)), x3, some (.lst x4), x5, some (.fz R), none] = .ok (.nx, [x0, x1, some (.fz (.int t)), x3, some (.lst (x4 ++ [.fz R2])), x5, some (.fz R), none]) := by
  simp only [Bq,sb2,v_forc,v_lcc,pend,cont,take,frz,frzs,getP,setP,Res.of,boolOf,isPl,mutS,mutP,intOf,move,retOf,backs1,put1,fzT,ioOf,chk,early,shut,isTmp,flatB,scal,List.map_cons,List.map_nil,List.cons_append,List.nil_append,List.append_nil,List.replicate_succ,List.replicate_zero,List.replicate,List.length_cons,List.length_nil,List.getElem?_cons_zero,List.getElem?_cons_succ,List.set_cons_zero,List.set_cons_succ,List.all_cons,List.all_nil,List.contains_cons,List.contains_nil,List.elem_cons,List.elem_nil,List.isEmpty_nil,List.isEmpty_cons,Nat.reduceAdd,Nat.reduceSub,Nat.reduceBEq,Nat.reduceLT,Nat.reduceLeDiff,Nat.reduceEqDiff,decide_true,decide_false,Bool.and_true,Bool.true_and,Bool.or_true,Bool.true_or,Bool.or_false,Bool.false_or,Bool.and_false,Bool.false_and,Bool.not_true,Bool.not_false,Bool.false_eq_true,reduceIte,ite_true,ite_false,beq_self_eq_true,Nat.zero_add,reduceCtorEq,and_self,true_and,and_true,ge_iff_le,gt_iff_lt,Nat.succ_eq_add_one,Nat.add_one_sub_one,Nat.zero_lt_succ,Nat.lt_add_left_iff_pos,wipeE,restE,pick,List.filterMap_cons,List.filterMap_nil,Int.reduceLE,Int.reduceLT,Int.reduceNeg,decide_eq_true_eq,Bool.not_eq_true',decide_eq_false_iff_not,isT,seqV,tupV,lstV,Option.getD,g,hl]
abbrev sb3 : CS := cAsg (gSet 5) (cBin fSub true (cVar 5) (cCallB fLen (cCons true (cVar 6) cNil)))
theorem sb3_v {R : D} {l n : Int} {x0 x1 x2 x3 x4 : Option W} (ln : fLen [.fz R] = .ok (.fz (.int n))) : sb3 [x0, x1, x2, x3, x4, some (.fz (.int l)), some (.fz R), none] = .ok (.nx, [x0, x1, x2, x3, x4, some (.fz (.int (l - n))), some (.fz R), none]) := by
  simp only [Bq,sb3,v_forc,v_lcc,pend,cont,take,frz,frzs,getP,setP,Res.of,boolOf,isPl,mutS,mutP,intOf,move,retOf,backs1,put1,fzT,ioOf,chk,early,shut,isTmp,flatB,scal,List.map_cons,List.map_nil,List.cons_append,List.nil_append,List.append_nil,List.replicate_succ,List.replicate_zero,List.replicate,List.length_cons,List.length_nil,List.getElem?_cons_zero,List.getElem?_cons_succ,List.set_cons_zero,List.set_cons_succ,List.all_cons,List.all_nil,List.contains_cons,List.contains_nil,List.elem_cons,List.elem_nil,List.isEmpty_nil,List.isEmpty_cons,Nat.reduceAdd,Nat.reduceSub,Nat.reduceBEq,Nat.reduceLT,Nat.reduceLeDiff,Nat.reduceEqDiff,decide_true,decide_false,Bool.and_true,Bool.true_and,Bool.or_true,Bool.true_or,Bool.or_false,Bool.false_or,Bool.and_false,Bool.false_and,Bool.not_true,Bool.not_false,Bool.false_eq_true,reduceIte,ite_true,ite_false,beq_self_eq_true,Nat.zero_add,reduceCtorEq,and_self,true_and,and_true,ge_iff_le,gt_iff_lt,Nat.succ_eq_add_one,Nat.add_one_sub_one,Nat.zero_lt_succ,Nat.lt_add_left_iff_pos,wipeE,restE,pick,List.filterMap_cons,List.filterMap_nil,Int.reduceLE,Int.reduceLT,Int.reduceNeg,decide_eq_true_eq,Bool.not_eq_true',decide_eq_false_iff_not,isT,seqV,tupV,lstV,Option.getD,ln]
theorem len_R {k : Bool} {r : Rw} : fLen [.fz (eR k r)] = .ok (.fz (.int ((r.length : Nat) : Int))) := by
  have h : (r.map (eE k)).length = r.length := List.length_map ..
  rw [← h]
  cases k <;> rfl
theorem st_loop {x1 : Option W} : ∀ (ds : List D) (m : Nat) (β : Bx) (S : List Rw) (l : Int) (x3 x6 : Option W), 0 ≤ l → l ≤ 8 → Gd (m + 9 * ds.length) β → S.length + ds.length ≤ 1000 → ∃ (T : List Rw) (β' : Bx) (x3' x5' x6' : Option W), Gd m β' ∧ T.length = ds.length ∧ (∀ r ∈ T, ∀ e ∈ r, smA e) ∧ (∀ r ∈ T, r.length ≤ 4) ∧ ((lsts T).sum : Int) ≤ l ∧
    forL (gSet 3) L_law_streams_1 ds [some (bx β), x1, some (.fz (.int 1)), x3, some (.lst (rws S)), some (.fz (.int l)), x6, none] = .ok (.nx, [some (bx β'), x1, some (.fz (.int 1)), x3', some (.lst (rws (S ++ T))), x5', x6', none])
  | [], m, β, S, l, x3, x6, l0, l1, g, hz => ⟨[], β, x3, _, x6, g, rfl, by simp, by simp, by simpa using l0, by rw [List.append_nil]; rfl⟩
  | d :: ds, m, β, S, l, x3, x6, l0, l1, g, hz => by
    rw [List.length_cons] at g hz
    obtain ⟨s, β1, s0, s1, g1, e1⟩ := take_ok (m := m + 9 * ds.length + 8) (n := min l 4 + 1) (g.le (by omega)) (by omega) (by omega)
    have hl : (rangeD 0 s.toNat).length = s.toNat := by simp [rangeD]
    obtain ⟨r, β2, g2, l2, h2, e2⟩ := ev_lc (x1 := x1) (x2 := some (.fz (.int 1))) (x3 := some (.fz d)) (x4 := some (.lst (rws S))) (x5 := some (.fz (.int l))) (x6 := x6) (rangeD 0 s.toNat) (m + 9 * ds.length) β1 (g1.le (by rw [hl]; omega))
    rw [hl] at l2
    have gk := grown_ok (t := 1) (r := r) (fun e he => (h2 e he).b) (by omega)
    have r1 : (r.map fun e => (e.1, e.2 * 1)) = r := by
      have : (fun e : Wd × Int => (e.1, e.2 * 1)) = id := by funext e; simp
      rw [this, List.map_id]
    rw [r1] at gk
    obtain ⟨T, β', x3', x5', x6', g3, l3, h3, h4, h5, e3⟩ := st_loop (x1 := x1) ds m β2 (S ++ [r]) (l - ((r.length : Nat) : Int)) (some (.fz d)) (some (.fz (eR false r))) (by omega) (by omega) g2 (by rw [List.length_append, List.length_singleton]; omega)
    refine ⟨r :: T, β', x3', x5', x6', g3, by rw [List.length_cons, List.length_cons, l3], ?_, ?_, ?_, ?_⟩
    · intro q hq
      rcases List.mem_cons.mp hq with rfl | hq
      · exact h2
      · exact h3 q hq
    · intro q hq
      rcases List.mem_cons.mp hq with rfl | hq
      · omega
      · exact h4 q hq
    · show (((r.length :: lsts T).sum : Nat) : Int) ≤ l
      rw [List.sum_cons]
      omega
    · have b1 := sb1_v (x6 := x6) (x4 := rws S) e1 (by omega) (by omega) e2 (frz_ev r) (tup_ev r)
      have b2 := sb2_v (x0 := some (bx β2)) (x1 := x1) (x3 := some (.fz d)) (x4 := rws S) (x5 := some (.fz (.int l))) gk (by rw [List.length_map]; omega)
      have b3 := sb3_v (l := l) (x0 := some (bx β2)) (x1 := x1) (x2 := some (.fz (.int 1))) (x3 := some (.fz d)) (x4 := some (.lst (rws S ++ [.fz (eR false r)]))) (len_R (k := false) (r := r))
      rw [rws_snoc] at b2 b3
      rw [List.append_assoc] at e3
      exact for_nx rfl (seqN b1 (seqN b2 b3)) e3
theorem ss1_v {x0 : Option W} {x2 : Option W} : cPar2 4 5 (cCons true (cLst true cNil) (cCons true (cVar 1) cNil)) [x0, some (.fz (.int 8)), x2, none, none, none, none, none] = .ok (.nx, [x0, some (.fz (.int 8)), x2, none, some (.lst []), some (.fz (.int 8)), none, none]) := by
  simp only [Bq,v_forc,v_lcc,pend,cont,take,frz,frzs,getP,setP,Res.of,boolOf,isPl,mutS,mutP,intOf,move,retOf,backs1,put1,fzT,ioOf,chk,early,shut,isTmp,flatB,scal,List.map_cons,List.map_nil,List.cons_append,List.nil_append,List.append_nil,List.replicate_succ,List.replicate_zero,List.replicate,List.length_cons,List.length_nil,List.getElem?_cons_zero,List.getElem?_cons_succ,List.set_cons_zero,List.set_cons_succ,List.all_cons,List.all_nil,List.contains_cons,List.contains_nil,List.elem_cons,List.elem_nil,List.isEmpty_nil,List.isEmpty_cons,Nat.reduceAdd,Nat.reduceSub,Nat.reduceBEq,Nat.reduceLT,Nat.reduceLeDiff,Nat.reduceEqDiff,decide_true,decide_false,Bool.and_true,Bool.true_and,Bool.or_true,Bool.true_or,Bool.or_false,Bool.false_or,Bool.and_false,Bool.false_and,Bool.not_true,Bool.not_false,Bool.false_eq_true,reduceIte,ite_true,ite_false,beq_self_eq_true,Nat.zero_add,reduceCtorEq,and_self,true_and,and_true,ge_iff_le,gt_iff_lt,Nat.succ_eq_add_one,Nat.add_one_sub_one,Nat.zero_lt_succ,Nat.lt_add_left_iff_pos,wipeE,restE,pick,List.filterMap_cons,List.filterMap_nil,Int.reduceLE,Int.reduceLT,Int.reduceNeg,decide_eq_true_eq,Bool.not_eq_true',decide_eq_false_iff_not,isT,seqV,tupV,lstV,Option.getD]
theorem ss2_v {β β1 : Bx} {n : Int} {ρ : En} (e : F_law_of [bx β, .fz (.lst [.int 1, .int 2, .int 2, .int 3])] = .ok (.fz (.int n), [bx β1, .fz (.lst [.int 1, .int 2, .int 2, .int 3])])) (hn : -1000000 ≤ n ∧ n ≤ 1000000) (hl : (rangeD 0 n.toNat).length ≤ 1000000) {x1 x2 x3 x4 x5 x6 : Option W} (lp : forL (gSet 3) L_law_streams_1 (rangeD 0 n.toNat) [some (bx β1), x1, x2, x3, x4, x5, x6, none] = .ok (.nx, ρ)) :
    cFor (iRange1 (cCallIO F_law_of (ioOf [0]) (cCons true (cVar 0) (cCons true (cLst true (cCons true (cC (.int 1)) (cCons true (cC (.int 2)) (cCons true (cC (.int 2)) (cCons true (cC (.int 3)) cNil))))) cNil)))) (gSet 3) L_law_streams_1 [some (bx β), x1, x2, x3, x4, x5, x6, none] = .ok (.nx, ρ) := by
  simp only [Bq,v_lcc,pend,cont,take,frz,frzs,getP,setP,Res.of,boolOf,isPl,mutS,mutP,intOf,move,retOf,backs1,put1,fzT,ioOf,chk,early,shut,isTmp,flatB,scal,List.map_cons,List.map_nil,List.cons_append,List.nil_append,List.append_nil,List.replicate_succ,List.replicate_zero,List.replicate,List.length_cons,List.length_nil,List.getElem?_cons_zero,List.getElem?_cons_succ,List.set_cons_zero,List.set_cons_succ,List.all_cons,List.all_nil,List.contains_cons,List.contains_nil,List.elem_cons,List.elem_nil,List.isEmpty_nil,List.isEmpty_cons,Nat.reduceAdd,Nat.reduceSub,Nat.reduceBEq,Nat.reduceLT,Nat.reduceLeDiff,Nat.reduceEqDiff,decide_true,decide_false,Bool.and_true,Bool.true_and,Bool.or_true,Bool.true_or,Bool.or_false,Bool.false_or,Bool.and_false,Bool.false_and,Bool.not_true,Bool.not_false,Bool.false_eq_true,reduceIte,ite_true,ite_false,beq_self_eq_true,Nat.zero_add,reduceCtorEq,and_self,true_and,and_true,ge_iff_le,gt_iff_lt,Nat.succ_eq_add_one,Nat.add_one_sub_one,Nat.zero_lt_succ,Nat.lt_add_left_iff_pos,wipeE,restE,pick,List.filterMap_cons,List.filterMap_nil,Int.reduceLE,Int.reduceLT,Int.reduceNeg,decide_eq_true_eq,Bool.not_eq_true',decide_eq_false_iff_not,isT,seqV,tupV,lstV,Option.getD,e,hn,hl,lp]
theorem ss3_v {M : List W} {MD : List D} {x0 x1 x2 x3 x5 x6 : Option W} (u : unfz M = some MD) (fr : frzs M = MD) : cRet (cCallB fTuple (cCons true (cVar 4) cNil)) [x0, x1, x2, x3, some (.lst M), x5, x6, none] = .ok (.ret (.fz (.tup MD)), [x0, x1, x2, x3, some (.lst M), x5, x6, none]) := by
  have tp : fTuple [.lst M] = .ok (.fz (.tup MD)) := by
    show (match unfz M with | some ds => Res.ok (W.fz (.tup ds)) | none => .err) = _
    rw [u]
  have tp2 : fTuple [.fz (.lst MD)] = .ok (.fz (.tup MD)) := rfl
  simp only [Bq,v_forc,v_lcc,pend,cont,take,frz,frzs,getP,setP,Res.of,boolOf,isPl,mutS,mutP,intOf,move,retOf,backs1,put1,fzT,ioOf,chk,early,shut,isTmp,flatB,scal,List.map_cons,List.map_nil,List.cons_append,List.nil_append,List.append_nil,List.replicate_succ,List.replicate_zero,List.replicate,List.length_cons,List.length_nil,List.getElem?_cons_zero,List.getElem?_cons_succ,List.set_cons_zero,List.set_cons_succ,List.all_cons,List.all_nil,List.contains_cons,List.contains_nil,List.elem_cons,List.elem_nil,List.isEmpty_nil,List.isEmpty_cons,Nat.reduceAdd,Nat.reduceSub,Nat.reduceBEq,Nat.reduceLT,Nat.reduceLeDiff,Nat.reduceEqDiff,decide_true,decide_false,Bool.and_true,Bool.true_and,Bool.or_true,Bool.true_or,Bool.or_false,Bool.false_or,Bool.and_false,Bool.false_and,Bool.not_true,Bool.not_false,Bool.false_eq_true,reduceIte,ite_true,ite_false,beq_self_eq_true,Nat.zero_add,reduceCtorEq,and_self,true_and,and_true,ge_iff_le,gt_iff_lt,Nat.succ_eq_add_one,Nat.add_one_sub_one,Nat.zero_lt_succ,Nat.lt_add_left_iff_pos,wipeE,restE,pick,List.filterMap_cons,List.filterMap_nil,Int.reduceLE,Int.reduceLT,Int.reduceNeg,decide_eq_true_eq,Bool.not_eq_true',decide_eq_false_iff_not,isT,seqV,tupV,lstV,Option.getD,fr,tp,tp2]
theorem rws_eq (S : List Rw) : rws S = (S.map (eR false)).map W.fz := by unfold rws; rw [List.map_map]; rfl
theorem rws_un (S : List Rw) : unfz (rws S) = some (S.map (eR false)) := by rw [rws_eq, unfz_fz]
theorem rws_fr (S : List Rw) : frzs (rws S) = S.map (eR false) := frzs_fz _ _
theorem streams_ok {m : Nat} {β : Bx} (g : Gd (m + 28) β) : ∃ (S : List Rw) (β' : Bx), Gd m β' ∧ S ≠ [] ∧ S.length ≤ 3 ∧ (∀ r ∈ S, ∀ e ∈ r, smA e) ∧ (∀ r ∈ S, r.length ≤ 4) ∧ (lsts S).sum ≤ 8 ∧
    F_law_streams [bx β, .fz (.int 8), .fz (.int 1)] = .ok (.fz (sD false S), [bx β', .fz (.int 8), .fz (.int 1)]) := by
  obtain ⟨d, β1, hd, g1, e1⟩ := of_ok (m := m + 27) (ds := [.int 1, .int 2, .int 2, .int 3]) g (by simp) (by simp)
  have : ∃ n : Nat, 0 < n ∧ n ≤ 3 ∧ d = .int (n : Int) := by
    simp only [List.mem_cons, List.not_mem_nil, or_false] at hd
    rcases hd with rfl | rfl | rfl | rfl
    · exact ⟨1, by omega, by omega, rfl⟩
    · exact ⟨2, by omega, by omega, rfl⟩
    · exact ⟨2, by omega, by omega, rfl⟩
    · exact ⟨3, by omega, by omega, rfl⟩
  obtain ⟨n, n0, n1, rfl⟩ := this
  have hl : (rangeD 0 (n : Int).toNat).length = n := by simp [rangeD]
  obtain ⟨S, β', x3', x5', x6', g2, l2, h2, h3, h4, e2⟩ := st_loop (x1 := some (.fz (.int 8))) (rangeD 0 (n : Int).toNat) m β1 [] 8 none none (by omega) (by omega) (g1.le (by rw [hl]; omega)) (by rw [hl]; simp only [List.length_nil]; omega)
  rw [hl] at l2
  refine ⟨S, β', g2, fun e => by subst e; simp at l2; omega, by omega, h2, h3, by omega, ?_⟩
  rw [List.nil_append] at e2
  have h : m_law_streams ([bx β, .fz (.int 8), .fz (.int 1)].map some ++ List.replicate (8 - 3) none) = .ok (.ret (.fz (.tup (S.map (eR false)))), [some (bx β'), some (.fz (.int 8)), some (.fz (.int 1)), x3', some (.lst (rws S)), x5', x6', none]) :=
    seqN ss1_v (seqN (ss2_v e1 (by omega) (by omega) e2) (ss3_v (rws_un S) (rws_fr S)))
  unfold F_law_streams
  rw [v_def, show chk (([bx β, W.fz (.int 8), W.fz (.int 1)] : List W).length == 3) = .ok () from rfl, v_ok, v_def1, h, v_ok, v_def2]
  rfl
end Gn
namespace Gn
open Mi PySem
abbrev nw (p : List Nat) : List W := p.map fun k => W.fz (.int (k : Nat))
theorem nw_eq (p : List Nat) : nw p = (nD p).map W.fz := by show _ = (p.map _).map _; rw [List.map_map]; rfl
theorem unfz_nw (p : List Nat) : unfz (nw p) = some (nD p) := by rw [nw_eq]; exact unfz_fz _
theorem len_nw (p : List Nat) : fLen [.lst (nw p)] = .ok (.fz (.int (p.length : Nat))) := by
  show (match unfz (nw p) with | some ds => Res.ok (W.fz (.int ds.length)) | none => .err) = _
  rw [unfz_nw]
  show Res.ok (W.fz (.int (nD p).length)) = _
  rw [nD_len]
theorem map_erase : ∀ (p : List Nat) (j : Nat), (nw p).eraseIdx j = nw (p.eraseIdx j)
  | [], _ => rfl
  | x :: p, 0 => rfl
  | x :: p, j + 1 => by
    show _ :: (nw p).eraseIdx j = _ :: nw (p.eraseIdx j)
    rw [map_erase p j]
theorem pop_ok {i : Nat} {ci : CE} {ρ ρ1 : En} {p : List Nat} {q : List W} {j : Nat} (h0 : ρ[i]? = some (some (.lst q))) (h : ci ρ = .ok (.tmp (.fz (.int (j : Nat))), ρ1)) (h1 : ρ1[i]? = some (some (.lst (nw p)))) (hj : j < p.length) (hp : p.length ≤ 1000) :
    cPop i ci ρ = .ok (.tmp (.fz (.int ((p.getD j 0 : Nat)))), ρ1.set i (some (.lst (nw (p.eraseIdx j))))) := by
  have lh : ∀ (ρ : En) (q : List W), ρ[i]? = some (some (.lst q)) → lstAt i ρ = .ok q := fun ρ q h => by unfold lstAt; rw [h]
  have el : elAt (nw p) (j : Nat) = .ok (.int (p.getD j 0 : Nat), j) := by
    have l : (nw p).length = p.length := List.length_map _
    unfold elAt
    rw [l, ixN_pos (by omega) (by omega)]
    show (match (nw p)[j]? with | some (.fz d) => Res.ok (d, j) | _ => .err) = _
    rw [show (nw p)[j]? = some (.fz (.int (p.getD j 0 : Nat))) by
      show (p.map _)[j]? = _
      rw [List.getElem?_map, List.getD_eq_getElem?_getD, List.getElem?_eq_getElem hj]; rfl]
  have er : (nw p).eraseIdx j = nw (p.eraseIdx j) := map_erase p j
  unfold cPop
  rw [lh ρ q h0, v_ok, h, v_ok]
  show (Res.ok (j : Int)).bind _ = _
  rw [v_ok, show chk (decide (-(2 ^ 62) ≤ (j : Int) ∧ (j : Int) < 2 ^ 62)) = .ok () by rw [decide_eq_true (by omega)]; rfl, v_ok, lh ρ1 _ h1, v_ok, el, v_ok]
  show Res.ok (_, _) = _
  rw [er]
theorem erase_perm : ∀ {p : List Nat} {j : Nat}, j < p.length → (p.getD j 0 :: p.eraseIdx j).Perm p
  | [], _, h => absurd h (by simp)
  | x :: p, 0, _ => .refl _
  | x :: p, j + 1, h => by
    have ih := erase_perm (p := p) (j := j) (by simpa using h)
    show (p.getD j 0 :: x :: p.eraseIdx j).Perm (x :: p)
    exact (List.Perm.swap _ _ _).trans (ih.cons x)
theorem pk_body {m : Nat} {β : Bx} {p q : List Nat} {a1 a2 a3 : Option W} (g : Gd (m + 1) β) (hp : 0 < p.length) (hz : p.length + q.length ≤ 1000) : ∃ (x : Nat) (p2 : List Nat) (β' : Bx), Gd m β' ∧ (x :: p2).Perm p ∧
    L_law_pick_1 [some (bx β), a1, a2, a3, some (.lst (nw p)), some (.lst (nw q))] = .ok (.nx, [some (bx β'), a1, a2, a3, some (.lst (nw p2)), some (.lst (nw (q ++ [x])))]) := by
  obtain ⟨r, β', r0, r1, g', e⟩ := take_ok (m := m) (n := (p.length : Nat)) g (by omega) (by omega)
  obtain ⟨j, rfl⟩ : ∃ j : Nat, r = j := ⟨r.toNat, by omega⟩
  have hj : j < p.length := by omega
  refine ⟨p.getD j 0, p.eraseIdx j, β', g', erase_perm hj, ?_⟩
  have ln := len_nw p
  have ct : (cCallIO F_law_take (ioOf [0]) (cCons true (cVar 0) (cCons true (cCallB fLen (cCons true (cVar 4) cNil)) cNil))) [some (bx β), a1, a2, a3, some (.lst (nw p)), some (.lst (nw q))] = .ok (.tmp (.fz (.int (j : Nat))), [some (bx β'), a1, a2, a3, some (.lst (nw p)), some (.lst (nw q))]) := by
    generalize nw p = P at *
    generalize nw q = Q at *
    simp only [Bq,v_forc,v_lcc,pend,cont,take,frz,frzs,getP,setP,Res.of,boolOf,isPl,mutS,mutP,intOf,move,retOf,backs1,put1,fzT,ioOf,chk,early,shut,isTmp,flatB,scal,List.map_cons,List.map_nil,List.cons_append,List.nil_append,List.append_nil,List.replicate_succ,List.replicate_zero,List.replicate,List.length_cons,List.length_nil,List.getElem?_cons_zero,List.getElem?_cons_succ,List.set_cons_zero,List.set_cons_succ,List.all_cons,List.all_nil,List.contains_cons,List.contains_nil,List.elem_cons,List.elem_nil,List.isEmpty_nil,List.isEmpty_cons,Nat.reduceAdd,Nat.reduceSub,Nat.reduceBEq,Nat.reduceLT,Nat.reduceLeDiff,Nat.reduceEqDiff,decide_true,decide_false,Bool.and_true,Bool.true_and,Bool.or_true,Bool.true_or,Bool.or_false,Bool.false_or,Bool.and_false,Bool.false_and,Bool.not_true,Bool.not_false,Bool.false_eq_true,reduceIte,ite_true,ite_false,beq_self_eq_true,Nat.zero_add,reduceCtorEq,and_self,true_and,and_true,ge_iff_le,gt_iff_lt,Nat.succ_eq_add_one,Nat.add_one_sub_one,Nat.zero_lt_succ,Nat.lt_add_left_iff_pos,wipeE,restE,pick,List.filterMap_cons,List.filterMap_nil,Int.reduceLE,Int.reduceLT,Int.reduceNeg,decide_eq_true_eq,Bool.not_eq_true',decide_eq_false_iff_not,isT,seqV,tupV,lstV,Option.getD,ln,e]
  have po := pop_ok (i := 4) (q := nw p) rfl ct rfl hj (by omega)
  have ap : nw (q ++ [p.getD j 0]) = nw q ++ [.fz (.int (p.getD j 0 : Nat))] := List.map_append
  have lz : (nw q).length ≤ 1000000 := by show (List.map _ _).length ≤ _; rw [List.length_map]; omega
  rw [ap]
  unfold L_law_pick_1
  simp only [List.set_cons_succ, List.set_cons_zero] at po
  generalize nw (p.eraseIdx j) = P2 at *
  generalize nw p = P at *
  generalize nw q = Q at *
  generalize cPop 4 (cCallIO F_law_take (ioOf [0]) (cCons true (cVar 0) (cCons true (cCallB fLen (cCons true (cVar 4) cNil)) cNil))) = CP at *
  generalize p.getD j 0 = x at *
  simp only [Bq,v_forc,v_lcc,pend,cont,take,frz,frzs,getP,setP,Res.of,boolOf,isPl,mutS,mutP,intOf,move,retOf,backs1,put1,fzT,ioOf,chk,early,shut,isTmp,flatB,scal,List.map_cons,List.map_nil,List.cons_append,List.nil_append,List.append_nil,List.replicate_succ,List.replicate_zero,List.replicate,List.length_cons,List.length_nil,List.getElem?_cons_zero,List.getElem?_cons_succ,List.set_cons_zero,List.set_cons_succ,List.all_cons,List.all_nil,List.contains_cons,List.contains_nil,List.elem_cons,List.elem_nil,List.isEmpty_nil,List.isEmpty_cons,Nat.reduceAdd,Nat.reduceSub,Nat.reduceBEq,Nat.reduceLT,Nat.reduceLeDiff,Nat.reduceEqDiff,decide_true,decide_false,Bool.and_true,Bool.true_and,Bool.or_true,Bool.true_or,Bool.or_false,Bool.false_or,Bool.and_false,Bool.false_and,Bool.not_true,Bool.not_false,Bool.false_eq_true,reduceIte,ite_true,ite_false,beq_self_eq_true,Nat.zero_add,reduceCtorEq,and_self,true_and,and_true,ge_iff_le,gt_iff_lt,Nat.succ_eq_add_one,Nat.add_one_sub_one,Nat.zero_lt_succ,Nat.lt_add_left_iff_pos,wipeE,restE,pick,List.filterMap_cons,List.filterMap_nil,Int.reduceLE,Int.reduceLT,Int.reduceNeg,decide_eq_true_eq,Bool.not_eq_true',decide_eq_false_iff_not,isT,seqV,tupV,lstV,Option.getD,po,lz]
theorem pk_loop {a1 a2 : Option W} : ∀ (l : List D) (m : Nat) (β : Bx) (p q : List Nat) (a3 : Option W), Gd (m + l.length) β → p.length = l.length → p.length + q.length ≤ 1000 → ∃ (q2 : List Nat) (β' : Bx) (b3 : Option W), Gd m β' ∧ q2.Perm (q ++ p) ∧
    forL (gSet 3) L_law_pick_1 l [some (bx β), a1, a2, a3, some (.lst (nw p)), some (.lst (nw q))] = .ok (.nx, [some (bx β'), a1, a2, b3, some (.lst []), some (.lst (nw q2))])
  | [], m, β, p, q, a3, g, hp, hz => by
    have : p = [] := List.length_eq_zero_iff.mp hp
    subst this
    exact ⟨q, β, a3, g, by rw [List.append_nil], rfl⟩
  | d :: l, m, β, p, q, a3, g, hp, hz => by
    rw [List.length_cons] at g hp
    obtain ⟨x, p2, β1, g1, h1, e1⟩ := pk_body (m := m + l.length) (a1 := a1) (a2 := a2) (a3 := some (.fz d)) (g.le (by omega)) (by omega) hz
    have l1 := h1.length_eq
    rw [List.length_cons] at l1
    obtain ⟨q2, β', b3, g', h2, e2⟩ := pk_loop l m β1 p2 (q ++ [x]) (some (.fz d)) g1 (by omega) (by rw [List.length_append, List.length_cons, List.length_nil]; omega)
    refine ⟨q2, β', b3, g', ?_, for_nx rfl e1 e2⟩
    refine h2.trans ?_
    rw [List.append_assoc]
    exact List.Perm.append_left q h1
theorem pk_s1 {n : D} {β : Bx} {ND : List D} {NW : List W} (ls : fList [.fz (.lst ND)] = .ok (.lst NW)) : cPar2 4 5 (cCons true (cCallB fList (cCons true (cVar 1) cNil)) (cCons true (cLst true cNil) cNil)) [some (bx β), some (.fz (.lst ND)), some (.fz n), none, none, none] = .ok (.nx, [some (bx β), some (.fz (.lst ND)), some (.fz n), none, some (.lst NW), some (.lst [])]) := by
  simp only [Bq,v_forc,v_lcc,pend,cont,take,frz,frzs,getP,setP,Res.of,boolOf,isPl,mutS,mutP,intOf,move,retOf,backs1,put1,fzT,ioOf,chk,early,shut,isTmp,flatB,scal,List.map_cons,List.map_nil,List.cons_append,List.nil_append,List.append_nil,List.replicate_succ,List.replicate_zero,List.replicate,List.length_cons,List.length_nil,List.getElem?_cons_zero,List.getElem?_cons_succ,List.set_cons_zero,List.set_cons_succ,List.all_cons,List.all_nil,List.contains_cons,List.contains_nil,List.elem_cons,List.elem_nil,List.isEmpty_nil,List.isEmpty_cons,Nat.reduceAdd,Nat.reduceSub,Nat.reduceBEq,Nat.reduceLT,Nat.reduceLeDiff,Nat.reduceEqDiff,decide_true,decide_false,Bool.and_true,Bool.true_and,Bool.or_true,Bool.true_or,Bool.or_false,Bool.false_or,Bool.and_false,Bool.false_and,Bool.not_true,Bool.not_false,Bool.false_eq_true,reduceIte,ite_true,ite_false,beq_self_eq_true,Nat.zero_add,reduceCtorEq,and_self,true_and,and_true,ge_iff_le,gt_iff_lt,Nat.succ_eq_add_one,Nat.add_one_sub_one,Nat.zero_lt_succ,Nat.lt_add_left_iff_pos,wipeE,restE,pick,List.filterMap_cons,List.filterMap_nil,Int.reduceLE,Int.reduceLT,Int.reduceNeg,decide_eq_true_eq,Bool.not_eq_true',decide_eq_false_iff_not,isT,seqV,tupV,lstV,Option.getD,ls]
theorem pk_s2 {N : Int} {ND : List D} {NW : List W} {L : CS} {a0 a1 a3 : Option W} {ρ : En} (ln : fLen [.lst NW] = .ok (.fz (.int N))) (hr : -1000000 ≤ N ∧ N ≤ 1000000) (rg : rangeD 0 N.toNat = ND) (z : ND.length ≤ 1000000) (e : forL (gSet 3) L ND [a0, a1, some (.fz (.int N)), a3, some (.lst NW), some (.lst [])] = .ok (.nx, ρ)) :
    cFor (iRange1 (cCallB fMin2 (cCons true (cCallB fInt (cCons true (cVar 2) cNil)) (cCons true (cCallB fLen (cCons true (cVar 4) cNil)) cNil)))) (gSet 3) L [a0, a1, some (.fz (.int N)), a3, some (.lst NW), some (.lst [])] = .ok (.nx, ρ) := by
  have mn : min N N = N := by omega
  simp only [Bq,v_lcc,pend,cont,take,frz,frzs,getP,setP,Res.of,boolOf,isPl,mutS,mutP,intOf,move,retOf,backs1,put1,fzT,ioOf,chk,early,shut,isTmp,flatB,scal,List.map_cons,List.map_nil,List.cons_append,List.nil_append,List.append_nil,List.replicate_succ,List.replicate_zero,List.replicate,List.length_cons,List.length_nil,List.getElem?_cons_zero,List.getElem?_cons_succ,List.set_cons_zero,List.set_cons_succ,List.all_cons,List.all_nil,List.contains_cons,List.contains_nil,List.elem_cons,List.elem_nil,List.isEmpty_nil,List.isEmpty_cons,Nat.reduceAdd,Nat.reduceSub,Nat.reduceBEq,Nat.reduceLT,Nat.reduceLeDiff,Nat.reduceEqDiff,decide_true,decide_false,Bool.and_true,Bool.true_and,Bool.or_true,Bool.true_or,Bool.or_false,Bool.false_or,Bool.and_false,Bool.false_and,Bool.not_true,Bool.not_false,Bool.false_eq_true,reduceIte,ite_true,ite_false,beq_self_eq_true,Nat.zero_add,reduceCtorEq,and_self,true_and,and_true,ge_iff_le,gt_iff_lt,Nat.succ_eq_add_one,Nat.add_one_sub_one,Nat.zero_lt_succ,Nat.lt_add_left_iff_pos,wipeE,restE,pick,List.filterMap_cons,List.filterMap_nil,Int.reduceLE,Int.reduceLT,Int.reduceNeg,decide_eq_true_eq,Bool.not_eq_true',decide_eq_false_iff_not,isT,seqV,tupV,lstV,Option.getD,ln,mn,hr,rg,z,e]
theorem pk_s3 {a0 a1 a2 a3 a4 : Option W} {Q : List W} : cRet (cVar 5) [a0, a1, a2, a3, a4, some (.lst Q)] = .ok (.ret (.lst Q), [a0, a1, a2, a3, a4, none]) := by
  simp only [Bq,v_forc,v_lcc,pend,cont,take,frz,frzs,getP,setP,Res.of,boolOf,isPl,mutS,mutP,intOf,move,retOf,backs1,put1,fzT,ioOf,chk,early,shut,isTmp,flatB,scal,List.map_cons,List.map_nil,List.cons_append,List.nil_append,List.append_nil,List.replicate_succ,List.replicate_zero,List.replicate,List.length_cons,List.length_nil,List.getElem?_cons_zero,List.getElem?_cons_succ,List.set_cons_zero,List.set_cons_succ,List.all_cons,List.all_nil,List.contains_cons,List.contains_nil,List.elem_cons,List.elem_nil,List.isEmpty_nil,List.isEmpty_cons,Nat.reduceAdd,Nat.reduceSub,Nat.reduceBEq,Nat.reduceLT,Nat.reduceLeDiff,Nat.reduceEqDiff,decide_true,decide_false,Bool.and_true,Bool.true_and,Bool.or_true,Bool.true_or,Bool.or_false,Bool.false_or,Bool.and_false,Bool.false_and,Bool.not_true,Bool.not_false,Bool.false_eq_true,reduceIte,ite_true,ite_false,beq_self_eq_true,Nat.zero_add,reduceCtorEq,and_self,true_and,and_true,ge_iff_le,gt_iff_lt,Nat.succ_eq_add_one,Nat.add_one_sub_one,Nat.zero_lt_succ,Nat.lt_add_left_iff_pos,wipeE,restE,pick,List.filterMap_cons,List.filterMap_nil,Int.reduceLE,Int.reduceLT,Int.reduceNeg,decide_eq_true_eq,Bool.not_eq_true',decide_eq_false_iff_not,isT,seqV,tupV,lstV,Option.getD]
theorem pick_ok {m : Nat} {p : List Nat} {β : Bx} (hn : p.length ≤ 900) (g : Gd (m + p.length) β) : ∃ (q : List Nat) (β' : Bx), Gd m β' ∧ q.Perm p ∧ F_law_pick [bx β, .fz (.lst (nD p)), .fz (.int (p.length : Nat))] = .ok (.lst (nw q), [bx β', .fz (.lst (nD p)), .fz (.int (p.length : Nat))]) := by
  have rl : (rangeD 0 p.length).length = p.length := by simp [rangeD]
  obtain ⟨q, β', b3, g', hq, e⟩ := pk_loop (a1 := some (.fz (.lst (nD p)))) (a2 := some (.fz (.int (p.length : Nat)))) (rangeD 0 p.length) m β p [] none (g.le (by rw [rl]; omega)) rl.symm (by simp only [List.length_nil]; omega)
  refine ⟨q, β', g', hq, ?_⟩
  have ls : fList [.fz (.lst (nD p))] = .ok (.lst (nw p)) := by
    show Res.ok (W.lst ((nD p).map W.fz)) = _
    rw [nw_eq]
  have ln := len_nw p
  have rg : rangeD 0 ((p.length : Nat) : Int).toNat = rangeD 0 p.length := by rw [Int.toNat_natCast]
  have z : (rangeD 0 p.length).length ≤ 1000000 := by rw [rl]; omega
  have h2 : m_law_pick ([bx β, .fz (.lst (nD p)), .fz (.int (p.length : Nat))].map some ++ List.replicate (6 - 3) none) = .ok (.ret (.lst (nw q)), [some (bx β'), some (.fz (.lst (nD p))), some (.fz (.int (p.length : Nat))), b3, some (.lst []), none]) :=
    seqN (pk_s1 ls) (seqN (pk_s2 ln (by omega) rg z e) pk_s3)
  unfold F_law_pick
  rw [v_def, show chk (([bx β, W.fz (.lst (nD p)), W.fz (.int (p.length : Nat))] : List W).length == 3) = .ok () from rfl, v_ok, v_def1, h2, v_ok, v_def2]
  rfl
end Gn
namespace Gn
open Mi PySem
def remL : List Rw → List Nat → List Nat
  | r :: S, n :: s => (r.length - n) :: remL S s
  | _, _ => []
theorem remL_at : ∀ {S : List Rw} {s : List Nat} {k : Nat}, Sp S s → (0 < (remL S s).getD k 0 ↔ ∃ e, evat S s k = some e)
  | [], [], k, _ => by simp [remL, evat]
  | r :: S, n :: s, 0, h => by
    show 0 < r.length - n ↔ ∃ e, r[n]? = some e
    constructor
    · intro z
      exact ⟨r[n]'(by omega), List.getElem?_eq_getElem _⟩
    · rintro ⟨e, he⟩
      have := (List.getElem?_eq_some_iff.mp he).1
      omega
  | r :: S, n :: s, k + 1, h => by
    have := remL_at (k := k) h.2
    simpa [remL, evat] using this
  | [], _ :: _, _, h => h.elim
  | _ :: _, [], _, h => h.elim
theorem remL_inc : ∀ {S : List Rw} {s : List Nat} {k : Nat} {e : Wd × Int}, Sp S s → evat S s k = some e → remL S (inc s k) = (remL S s).set k ((remL S s).getD k 0 - 1)
  | [], s, k, e, _, h => by simp [evat] at h
  | r :: S, [], k, e, hs, h => hs.elim
  | r :: S, n :: s, 0, e, hs, h => by
    show (r.length - (n + 1)) :: remL S s = (r.length - n - 1) :: remL S s
    congr 1
  | r :: S, n :: s, k + 1, e, hs, h => by
    have h : evat S s k = some e := h
    have := remL_inc (k := k) hs.2 h
    show (r.length - n) :: remL S (inc s k) = (r.length - n) :: (remL S s).set k ((remL S s).getD k 0 - 1)
    rw [this]
theorem z0_at : ∀ S : List Rw, remL S (z0 S) = lsts S
  | [] => rfl
  | r :: S => by
    show (r.length - 0) :: remL S (z0 S) = r.length :: lsts S
    rw [z0_at S]; rfl
def numF : Nat → List Rw → List Nat
  | _, [] => []
  | k, r :: S => List.replicate r.length k ++ numF (k + 1) S
theorem numF_len : ∀ (S : List Rw) (k : Nat), (numF k S).length = (lsts S).sum
  | [], _ => rfl
  | r :: S, k => by
    show (List.replicate r.length k ++ numF (k + 1) S).length = (r.length :: lsts S).sum
    rw [List.length_append, List.length_replicate, List.sum_cons, numF_len S (k + 1)]
theorem numF_mem : ∀ (S : List Rw) (i k : Nat), k ∈ numF i S → i ≤ k ∧ k < i + S.length
  | [], _, _, h => by cases h
  | r :: S, i, k, h => by
    have h : k ∈ List.replicate r.length i ++ numF (i + 1) S := h
    rw [List.length_cons]
    rcases List.mem_append.mp h with h | h
    · have := (List.mem_replicate.mp h).2; omega
    · have := numF_mem S (i + 1) k h; omega
theorem numF_count : ∀ (S : List Rw) (i j : Nat), (numF i S).count (i + j) = (lsts S).getD j 0
  | [], i, j => by simp [numF]
  | r :: S, i, 0 => by
    show (List.replicate r.length i ++ numF (i + 1) S).count (i + 0) = r.length
    have h0 : (numF (i + 1) S).count i = 0 := List.count_eq_zero.mpr fun h => by have := numF_mem S (i + 1) i h; omega
    rw [Nat.add_zero, List.count_append, List.count_replicate_self, h0]; rfl
  | r :: S, i, j + 1 => by
    show (List.replicate r.length i ++ numF (i + 1) S).count (i + (j + 1)) = (lsts S).getD j 0
    have h0 : (List.replicate r.length i).count (i + (j + 1)) = 0 := List.count_eq_zero.mpr fun h => by have := (List.mem_replicate.mp h).2; omega
    rw [List.count_append, h0, Nat.zero_add, ← numF_count S (i + 1) j]
    congr 1; omega
theorem vw_of {S : List Rw} : ∀ (w s : List Nat), Sp S s → (∀ k, w.count k ≤ (remL S s).getD k 0) → VW S s w
  | [], _, _, _ => trivial
  | k :: w, s, hs, h => by
    have hk := h k
    rw [List.count_cons_self] at hk
    obtain ⟨e, he⟩ := (remL_at hs).mp (by omega : 0 < (remL S s).getD k 0)
    refine ⟨⟨e, he⟩, vw_of w (inc s k) (inc_ok hs he).1 fun j => ?_⟩
    rw [remL_inc hs he]
    by_cases c : j = k
    · subst c
      have hl : j < (remL S s).length := by
        by_cases z : j < (remL S s).length
        · exact z
        · rw [List.getD_eq_getElem?_getD, List.getElem?_eq_none (by omega)] at hk; simp at hk
      rw [List.getD_eq_getElem?_getD, List.getElem?_set_self hl]
      show w.count j ≤ _ - 1
      omega
    · have hj := h j
      rw [List.count_cons_of_ne (fun z => c z.symm)] at hj
      rw [List.getD_eq_getElem?_getD, List.getElem?_set_ne (fun z => c z.symm), ← List.getD_eq_getElem?_getD]
      exact hj
theorem vw_perm {S : List Rw} {q : List Nat} (h : q.Perm (numF 0 S)) : VW S (z0 S) q := vw_of q (z0 S) (zero_sp S) fun k => by
  rw [z0_at, h.count_eq k]
  have := numF_count S 0 k
  rw [Nat.zero_add] at this
  omega
abbrev cI (l : List Nat) : List Int := l.map fun k : Nat => (k : Int)
theorem cI_count : ∀ (l : List Nat) (k : Nat), (cI l).countP (· == (k : Int)) = l.count k
  | [], _ => rfl
  | x :: l, k => by
    show ((x : Int) :: cI l).countP (· == (k : Int)) = (x :: l).count k
    rw [List.countP_cons, List.count_cons, cI_count l k]
    by_cases c : x = k
    · subst c; simp
    · have c2 : ¬ (x : Int) = (k : Int) := by omega
      simp [c, c2]
theorem numF_asc : ∀ (S : List Rw) (i : Nat), (cI (numF i S)).Pairwise (· ≤ ·)
  | [], _ => .nil
  | r :: S, i => by
    show (cI (List.replicate r.length i ++ numF (i + 1) S)).Pairwise (· ≤ ·)
    refine List.pairwise_map.mpr (List.pairwise_append.mpr ⟨?_, List.pairwise_map.mp (numF_asc S (i + 1)), fun a ha b hb => ?_⟩)
    · exact List.pairwise_replicate.mpr (.inr (Int.le_refl _))
    · have h1 := (List.mem_replicate.mp ha).2
      have h2 := numF_mem S (i + 1) b hb
      omega
theorem perm_of_cnt : ∀ {a b : List Int}, (∀ x, a.count x ≤ b.count x) → b.length ≤ a.length → b.Perm a
  | [], b, _, h => by
    have : b = [] := List.length_eq_zero_iff.mp (by simpa using h)
    rw [this]
  | x :: a, b, hs, h => by
    have hx : x ∈ b := by
      have := hs x
      rw [List.count_cons_self] at this
      exact List.count_pos_iff.mp (by omega)
    have p1 := List.perm_cons_erase hx
    have hlen := List.length_erase_of_mem hx
    have ih := perm_of_cnt (a := a) (b := b.erase x) (fun y => by
      have h1 := hs y
      have h2 := p1.count_eq y
      rw [List.count_cons] at h1 h2
      omega) (by rw [hlen]; simp only [List.length_cons] at h; omega)
    exact p1.trans (ih.cons x)
def wvI (S : List Rw) (q : List Int) : Bool := decide (isort q = cI (numF 0 S))
def cntsI (S : List Rw) (q : List Int) : List Int := (List.range S.length).map fun k : Nat => ((q.countP (· == (k : Int)) : Nat) : Int)
theorem wv_iff (S : List Rw) (q : List Int) : wvI S q = (decide ((q.length : Int) = ((lsts S).sum : Nat)) && decide (cntsI S q = cI (lsts S))) := by
  unfold wvI
  rw [Bool.eq_iff_iff, Bool.and_eq_true, decide_eq_true_eq, decide_eq_true_eq, decide_eq_true_eq]
  have nl : (cI (numF 0 S)).length = (lsts S).sum := by rw [List.length_map, numF_len]
  have nc : ∀ k : Nat, (cI (numF 0 S)).countP (· == (k : Int)) = (lsts S).getD k 0 := fun k => by
    rw [cI_count]
    have := numF_count S 0 k
    rw [Nat.zero_add] at this
    exact this
  have ge : ∀ k : Nat, k < S.length → (cI (lsts S))[k]? = some (((lsts S).getD k 0 : Nat) : Int) := fun k hk => by
    have hl : k < (lsts S).length := by rw [List.length_map]; exact hk
    rw [List.getElem?_map, List.getD_eq_getElem?_getD, List.getElem?_eq_getElem hl]; rfl
  have gc : ∀ k : Nat, k < S.length → (cntsI S q)[k]? = some ((q.countP (· == (k : Int)) : Nat) : Int) := fun k hk => by
    unfold cntsI
    rw [List.getElem?_map, List.getElem?_range hk]; rfl
  constructor
  · intro h
    have p := isort_perm q
    rw [h] at p
    refine ⟨by rw [← p.length_eq, nl], List.ext_getElem? fun k => ?_⟩
    by_cases hk : k < S.length
    · rw [gc k hk, ge k hk, ← nc k, ← p.countP_eq]
    · rw [List.getElem?_eq_none (by unfold cntsI; rw [List.length_map, List.length_range]; omega), List.getElem?_eq_none (by rw [List.length_map, List.length_map]; omega)]
  · rintro ⟨h1, h2⟩
    have p := perm_of_cnt (a := cI (numF 0 S)) (b := q) (fun x => by
      by_cases hx : x ∈ cI (numF 0 S)
      · obtain ⟨k, hk, rfl⟩ := List.mem_map.mp hx
        have hk2 := (numF_mem S 0 k hk).2
        have e := gc k (by omega)
        rw [h2, ge k (by omega)] at e
        have e2 := Option.some.inj e
        have e3 := nc k
        show List.countP (· == (k : Int)) _ ≤ List.countP (· == (k : Int)) _
        omega
      · rw [List.count_eq_zero.mpr hx]; omega) (by rw [nl]; omega)
    exact asc_eq (isort_asc q) (numF_asc S 0) ((isort_perm q).trans p)
end Gn
namespace Gn
open Mi PySem
def isI : D → Bool
  | .int _ => true
  | _ => false
def okF (d : D) : Prop := (∃ i, d = .int i) ∨ (∃ b, d = .bl b) ∨ d = .non ∨ d = .str "0" ∨ ∃ q : List Nat, q.length ≤ 900 ∧ d = tS q
theorem i_i_b {b : Bool} : fIsi ["int"] (.fz (.bl b)) = .ok (.fz (.bl true)) := by kernel_rfl
theorem i_i_s {s : Str} : fIsi ["int"] (.fz (.str s)) = .ok (.fz (.bl false)) := by kernel_rfl
theorem i_i_t {s : List D} : fIsi ["int"] (.fz (.tup s)) = .ok (.fz (.bl false)) := by kernel_rfl
theorem i_b_t {s : List D} : fIsi ["bool"] (.fz (.tup s)) = .ok (.fz (.bl false)) := by kernel_rfl
theorem isnum_d {d : D} (h : okF d) : Fis_number [.fz d] = .ok (.fz (.bl (isI d)), [.fz d]) := by
  rcases h with ⟨i, rfl⟩ | ⟨b, rfl⟩ | rfl | rfl | ⟨q, _, rfl⟩
  · simp only [Bq,Fis_number,mis_number,isI,v_forc,v_lcc,pend,cont,take,frz,frzs,getP,setP,Res.of,boolOf,isPl,mutS,mutP,intOf,move,retOf,backs1,put1,fzT,ioOf,chk,early,shut,isTmp,flatB,scal,List.map_cons,List.map_nil,List.cons_append,List.nil_append,List.append_nil,List.replicate_succ,List.replicate_zero,List.replicate,List.length_cons,List.length_nil,List.getElem?_cons_zero,List.getElem?_cons_succ,List.set_cons_zero,List.set_cons_succ,List.all_cons,List.all_nil,List.contains_cons,List.contains_nil,List.elem_cons,List.elem_nil,List.isEmpty_nil,List.isEmpty_cons,Nat.reduceAdd,Nat.reduceSub,Nat.reduceBEq,Nat.reduceLT,Nat.reduceLeDiff,Nat.reduceEqDiff,decide_true,decide_false,Bool.and_true,Bool.true_and,Bool.or_true,Bool.true_or,Bool.or_false,Bool.false_or,Bool.and_false,Bool.false_and,Bool.not_true,Bool.not_false,Bool.false_eq_true,reduceIte,ite_true,ite_false,beq_self_eq_true,Nat.zero_add,reduceCtorEq,and_self,true_and,and_true,ge_iff_le,gt_iff_lt,Nat.succ_eq_add_one,Nat.add_one_sub_one,Nat.zero_lt_succ,Nat.lt_add_left_iff_pos,wipeE,restE,pick,List.filterMap_cons,List.filterMap_nil,Int.reduceLE,Int.reduceLT,Int.reduceNeg,decide_eq_true_eq,Bool.not_eq_true',decide_eq_false_iff_not,isT,seqV,tupV,lstV,Option.getD,i_i_i,i_b_i]
  · simp only [Bq,Fis_number,mis_number,isI,v_forc,v_lcc,pend,cont,take,frz,frzs,getP,setP,Res.of,boolOf,isPl,mutS,mutP,intOf,move,retOf,backs1,put1,fzT,ioOf,chk,early,shut,isTmp,flatB,scal,List.map_cons,List.map_nil,List.cons_append,List.nil_append,List.append_nil,List.replicate_succ,List.replicate_zero,List.replicate,List.length_cons,List.length_nil,List.getElem?_cons_zero,List.getElem?_cons_succ,List.set_cons_zero,List.set_cons_succ,List.all_cons,List.all_nil,List.contains_cons,List.contains_nil,List.elem_cons,List.elem_nil,List.isEmpty_nil,List.isEmpty_cons,Nat.reduceAdd,Nat.reduceSub,Nat.reduceBEq,Nat.reduceLT,Nat.reduceLeDiff,Nat.reduceEqDiff,decide_true,decide_false,Bool.and_true,Bool.true_and,Bool.or_true,Bool.true_or,Bool.or_false,Bool.false_or,Bool.and_false,Bool.false_and,Bool.not_true,Bool.not_false,Bool.false_eq_true,reduceIte,ite_true,ite_false,beq_self_eq_true,Nat.zero_add,reduceCtorEq,and_self,true_and,and_true,ge_iff_le,gt_iff_lt,Nat.succ_eq_add_one,Nat.add_one_sub_one,Nat.zero_lt_succ,Nat.lt_add_left_iff_pos,wipeE,restE,pick,List.filterMap_cons,List.filterMap_nil,Int.reduceLE,Int.reduceLT,Int.reduceNeg,decide_eq_true_eq,Bool.not_eq_true',decide_eq_false_iff_not,isT,seqV,tupV,lstV,Option.getD,i_i_b,i_b_b]
  · simp only [Bq,Fis_number,mis_number,isI,v_forc,v_lcc,pend,cont,take,frz,frzs,getP,setP,Res.of,boolOf,isPl,mutS,mutP,intOf,move,retOf,backs1,put1,fzT,ioOf,chk,early,shut,isTmp,flatB,scal,List.map_cons,List.map_nil,List.cons_append,List.nil_append,List.append_nil,List.replicate_succ,List.replicate_zero,List.replicate,List.length_cons,List.length_nil,List.getElem?_cons_zero,List.getElem?_cons_succ,List.set_cons_zero,List.set_cons_succ,List.all_cons,List.all_nil,List.contains_cons,List.contains_nil,List.elem_cons,List.elem_nil,List.isEmpty_nil,List.isEmpty_cons,Nat.reduceAdd,Nat.reduceSub,Nat.reduceBEq,Nat.reduceLT,Nat.reduceLeDiff,Nat.reduceEqDiff,decide_true,decide_false,Bool.and_true,Bool.true_and,Bool.or_true,Bool.true_or,Bool.or_false,Bool.false_or,Bool.and_false,Bool.false_and,Bool.not_true,Bool.not_false,Bool.false_eq_true,reduceIte,ite_true,ite_false,beq_self_eq_true,Nat.zero_add,reduceCtorEq,and_self,true_and,and_true,ge_iff_le,gt_iff_lt,Nat.succ_eq_add_one,Nat.add_one_sub_one,Nat.zero_lt_succ,Nat.lt_add_left_iff_pos,wipeE,restE,pick,List.filterMap_cons,List.filterMap_nil,Int.reduceLE,Int.reduceLT,Int.reduceNeg,decide_eq_true_eq,Bool.not_eq_true',decide_eq_false_iff_not,isT,seqV,tupV,lstV,Option.getD,i_i_n,i_b_n]
  · simp only [Bq,Fis_number,mis_number,isI,v_forc,v_lcc,pend,cont,take,frz,frzs,getP,setP,Res.of,boolOf,isPl,mutS,mutP,intOf,move,retOf,backs1,put1,fzT,ioOf,chk,early,shut,isTmp,flatB,scal,List.map_cons,List.map_nil,List.cons_append,List.nil_append,List.append_nil,List.replicate_succ,List.replicate_zero,List.replicate,List.length_cons,List.length_nil,List.getElem?_cons_zero,List.getElem?_cons_succ,List.set_cons_zero,List.set_cons_succ,List.all_cons,List.all_nil,List.contains_cons,List.contains_nil,List.elem_cons,List.elem_nil,List.isEmpty_nil,List.isEmpty_cons,Nat.reduceAdd,Nat.reduceSub,Nat.reduceBEq,Nat.reduceLT,Nat.reduceLeDiff,Nat.reduceEqDiff,decide_true,decide_false,Bool.and_true,Bool.true_and,Bool.or_true,Bool.true_or,Bool.or_false,Bool.false_or,Bool.and_false,Bool.false_and,Bool.not_true,Bool.not_false,Bool.false_eq_true,reduceIte,ite_true,ite_false,beq_self_eq_true,Nat.zero_add,reduceCtorEq,and_self,true_and,and_true,ge_iff_le,gt_iff_lt,Nat.succ_eq_add_one,Nat.add_one_sub_one,Nat.zero_lt_succ,Nat.lt_add_left_iff_pos,wipeE,restE,pick,List.filterMap_cons,List.filterMap_nil,Int.reduceLE,Int.reduceLT,Int.reduceNeg,decide_eq_true_eq,Bool.not_eq_true',decide_eq_false_iff_not,isT,seqV,tupV,lstV,Option.getD,i_i_s,i_b_s]
  · unfold tS
    generalize nD q = Q
    simp only [Bq,Fis_number,mis_number,isI,v_forc,v_lcc,pend,cont,take,frz,frzs,getP,setP,Res.of,boolOf,isPl,mutS,mutP,intOf,move,retOf,backs1,put1,fzT,ioOf,chk,early,shut,isTmp,flatB,scal,List.map_cons,List.map_nil,List.cons_append,List.nil_append,List.append_nil,List.replicate_succ,List.replicate_zero,List.replicate,List.length_cons,List.length_nil,List.getElem?_cons_zero,List.getElem?_cons_succ,List.set_cons_zero,List.set_cons_succ,List.all_cons,List.all_nil,List.contains_cons,List.contains_nil,List.elem_cons,List.elem_nil,List.isEmpty_nil,List.isEmpty_cons,Nat.reduceAdd,Nat.reduceSub,Nat.reduceBEq,Nat.reduceLT,Nat.reduceLeDiff,Nat.reduceEqDiff,decide_true,decide_false,Bool.and_true,Bool.true_and,Bool.or_true,Bool.true_or,Bool.or_false,Bool.false_or,Bool.and_false,Bool.false_and,Bool.not_true,Bool.not_false,Bool.false_eq_true,reduceIte,ite_true,ite_false,beq_self_eq_true,Nat.zero_add,reduceCtorEq,and_self,true_and,and_true,ge_iff_le,gt_iff_lt,Nat.succ_eq_add_one,Nat.add_one_sub_one,Nat.zero_lt_succ,Nat.lt_add_left_iff_pos,wipeE,restE,pick,List.filterMap_cons,List.filterMap_nil,Int.reduceLE,Int.reduceLT,Int.reduceNeg,decide_eq_true_eq,Bool.not_eq_true',decide_eq_false_iff_not,isT,seqV,tupV,lstV,Option.getD,i_i_t,i_b_t]
theorem iw_lc {A B C E : Option W} : ∀ ds : List D, (∀ d ∈ ds, okF d) → lcL [3] (gSet 3) cYes Eis_weaving_1 ds [A, B, C, none, E] = .ok (ds.map fun d => W.fz (.bl (isI d)), [A, B, C, none, E])
  | [], _ => rfl
  | d :: ds, h => by
    have ih := iw_lc (A := A) (B := B) (C := C) (E := E) ds fun e he => h e (by simp [he])
    have n := isnum_d (h d (by simp))
    rw [List.map_cons]
    generalize ds.map (fun d => W.fz (.bl (isI d))) = Z at *
    generalize isI d = b at *
    simp only [Bq,Eis_weaving_1,v_forc,v_lcc,pend,cont,take,frz,frzs,getP,setP,Res.of,boolOf,isPl,mutS,mutP,intOf,move,retOf,backs1,put1,fzT,ioOf,chk,early,shut,isTmp,flatB,scal,List.map_cons,List.map_nil,List.cons_append,List.nil_append,List.append_nil,List.replicate_succ,List.replicate_zero,List.replicate,List.length_cons,List.length_nil,List.getElem?_cons_zero,List.getElem?_cons_succ,List.set_cons_zero,List.set_cons_succ,List.all_cons,List.all_nil,List.contains_cons,List.contains_nil,List.elem_cons,List.elem_nil,List.isEmpty_nil,List.isEmpty_cons,Nat.reduceAdd,Nat.reduceSub,Nat.reduceBEq,Nat.reduceLT,Nat.reduceLeDiff,Nat.reduceEqDiff,decide_true,decide_false,Bool.and_true,Bool.true_and,Bool.or_true,Bool.true_or,Bool.or_false,Bool.false_or,Bool.and_false,Bool.false_and,Bool.not_true,Bool.not_false,Bool.false_eq_true,reduceIte,ite_true,ite_false,beq_self_eq_true,Nat.zero_add,reduceCtorEq,and_self,true_and,and_true,ge_iff_le,gt_iff_lt,Nat.succ_eq_add_one,Nat.add_one_sub_one,Nat.zero_lt_succ,Nat.lt_add_left_iff_pos,wipeE,restE,pick,List.filterMap_cons,List.filterMap_nil,Int.reduceLE,Int.reduceLT,Int.reduceNeg,decide_eq_true_eq,Bool.not_eq_true',decide_eq_false_iff_not,isT,seqV,tupV,lstV,Option.getD,n,ih]
theorem blsP {α : Type} (P : α → Bool) : ∀ l : List α, blsD (l.map fun x => D.bl (P x)) = some (l.map P)
  | [] => rfl
  | a :: l => by show (match blsD (l.map fun x => D.bl (P x)) with | some ns => some (P a :: ns) | none => none) = _; rw [blsP P l]; rfl
theorem all_P {α : Type} (P : α → Bool) (l : List α) : fAll [.fz (.lst (l.map fun x => D.bl (P x)))] = .ok (.fz (.bl (l.all P))) := by
  show (match blsD (l.map fun x => D.bl (P x)) with | some ns => Res.ok (W.fz (.bl (ns.all id))) | none => .err) = _
  rw [blsP]
  show Res.ok (W.fz (.bl ((l.map P).all id))) = _
  rw [List.all_map]; rfl
theorem pys_ints : ∀ a : List Int, pys (a.map D.int) = some (a.map PyData.int)
  | [] => rfl
  | x :: a => by
    simp only [List.map_cons, pys, py, pys_ints a]
theorem eqv_ints : ∀ a b : List Int, PyData.eqvAll (a.map PyData.int) (b.map PyData.int) = decide (a = b)
  | [], [] => by simp [PyData.eqvAll]
  | [], y :: b => by simp [PyData.eqvAll]
  | x :: a, [] => by simp [PyData.eqvAll]
  | x :: a, y :: b => by
    have ih := eqv_ints a b
    have e : (x == y) = decide (x = y) := by rw [Bool.eq_iff_iff]; simp
    rw [List.map_cons, List.map_cons, PyData.eqvAll, ih]
    simp [PyData.eqv, e]
theorem eq_LL (a b : List Int) : fEq (.fz (.lst (a.map D.int))) (.fz (.lst (b.map D.int))) = .ok (.fz (.bl (decide (a = b)))) := by
  have sh : ∀ a : List Int, SeqAt.shaped (.list (a.map PyData.int)) = true := fun a => by
    obtain ⟨ps, h1, h2, h3, _⟩ := pln_pys 1 (a.map D.int) (fun d hd => by obtain ⟨x, _, rfl⟩ := List.mem_map.mp hd; trivial)
    rw [pys_ints] at h1
    cases h1
    exact shp (n := 2) (by simp only [PyData.canLay0, h2]) (by simp only [PyData.depth]; omega) (by omega)
  have pl : ∀ a : List Int, py (.lst (a.map D.int)) = some (.list (a.map PyData.int)) := fun a => by
    show (match pys (a.map D.int) with | some ps => some (PyData.list ps) | none => none) = _
    rw [pys_ints]
  have ev : PyData.eqv (.list (a.map PyData.int)) (.list (b.map PyData.int)) = decide (a = b) := by
    rw [← eqv_ints]; simp only [PyData.eqv]
  unfold fEq eqW
  simp only [frz, pl, sh, ev, Bool.and_self, if_true, v_ok]
theorem ne_of {x y : W} {b : Bool} (h : fEq x y = .ok (.fz (.bl b))) : fNe x y = .ok (.fz (.bl (!b))) := by
  unfold fEq at h
  unfold fNe
  cases e : eqW x y with
  | ok c => rw [e] at h; cases h; rfl
  | err => rw [e] at h; cases h
theorem all_isI : ∀ ds : List D, (∀ d ∈ ds, okF d) → (ds.all isI = true → ∃ q : List Int, ds = q.map D.int) ∧ (ds.all isI = false → intsD ds = none)
  | [], _ => ⟨fun _ => ⟨[], rfl⟩, fun h => by cases h⟩
  | d :: ds, h => by
    obtain ⟨h1, h2⟩ := all_isI ds fun e he => h e (by simp [he])
    rw [List.all_cons]
    rcases h d (by simp) with ⟨i, rfl⟩ | ⟨b, rfl⟩ | rfl | rfl | ⟨q, _, rfl⟩
    · refine ⟨fun e => ?_, fun e => ?_⟩
      · obtain ⟨q, rfl⟩ := h1 (by simpa [isI] using e)
        exact ⟨i :: q, rfl⟩
      · have e2 := h2 (by simpa [isI] using e)
        show (match intsD ds with | some ns => some (i :: ns) | none => none) = _
        rw [e2]
    · exact ⟨fun e => by simp [isI] at e, fun _ => rfl⟩
    · exact ⟨fun e => by simp [isI] at e, fun _ => rfl⟩
    · exact ⟨fun e => by simp [isI] at e, fun _ => rfl⟩
    · exact ⟨fun e => by simp [isI] at e, fun _ => rfl⟩
def wvQ (S : List Rw) (ds : List D) : Bool := match intsD ds with
  | some q => wvI S q
  | none => false
theorem ni_lc {A B : Option W} {i : Nat} {R : Option W} : ∀ r : List D, lcL [2] (gSet 2) cYes Eis_weaving_2 r [A, B, none, some (.fz (.int (i : Nat))), R] = .ok (iws (List.replicate r.length i), [A, B, none, some (.fz (.int (i : Nat))), R])
  | [] => rfl
  | d :: r => by
    have ih := ni_lc (A := A) (B := B) (i := i) (R := R) r
    have e : iws (List.replicate (d :: r).length i) = W.fz (.int ((i : Nat) : Int)) :: iws (List.replicate r.length i) := by rw [List.length_cons, List.replicate_succ]; rfl
    rw [e]
    generalize iws (List.replicate r.length i) = Z at *
    generalize ((i : Nat) : Int) = N at *
    simp only [Bq,Eis_weaving_2,v_forc,v_lcc,pend,cont,take,frz,frzs,getP,setP,Res.of,boolOf,isPl,mutS,mutP,intOf,move,retOf,backs1,put1,fzT,ioOf,chk,early,shut,isTmp,flatB,scal,List.map_cons,List.map_nil,List.cons_append,List.nil_append,List.append_nil,List.replicate_succ,List.replicate_zero,List.replicate,List.length_cons,List.length_nil,List.getElem?_cons_zero,List.getElem?_cons_succ,List.set_cons_zero,List.set_cons_succ,List.all_cons,List.all_nil,List.contains_cons,List.contains_nil,List.elem_cons,List.elem_nil,List.isEmpty_nil,List.isEmpty_cons,Nat.reduceAdd,Nat.reduceSub,Nat.reduceBEq,Nat.reduceLT,Nat.reduceLeDiff,Nat.reduceEqDiff,decide_true,decide_false,Bool.and_true,Bool.true_and,Bool.or_true,Bool.true_or,Bool.or_false,Bool.false_or,Bool.and_false,Bool.false_and,Bool.not_true,Bool.not_false,Bool.false_eq_true,reduceIte,ite_true,ite_false,beq_self_eq_true,Nat.zero_add,reduceCtorEq,and_self,true_and,and_true,ge_iff_le,gt_iff_lt,Nat.succ_eq_add_one,Nat.add_one_sub_one,Nat.zero_lt_succ,Nat.lt_add_left_iff_pos,wipeE,restE,pick,List.filterMap_cons,List.filterMap_nil,Int.reduceLE,Int.reduceLT,Int.reduceNeg,decide_eq_true_eq,Bool.not_eq_true',decide_eq_false_iff_not,isT,seqV,tupV,lstV,Option.getD,ih]
theorem is4 {A B C E : Option W} {R : D} {l : List D} (h : srcV (.fz R) = some l) : iSeq (cVar 4) [A, B, C, E, some (.fz R)] = .ok (l, [A, B, C, E, some (.fz R)]) := by
  simp only [Bq,v_forc,v_lcc,pend,cont,take,frz,frzs,getP,setP,Res.of,boolOf,isPl,mutS,mutP,intOf,move,retOf,backs1,put1,fzT,ioOf,chk,early,shut,isTmp,flatB,scal,List.map_cons,List.map_nil,List.cons_append,List.nil_append,List.append_nil,List.replicate_succ,List.replicate_zero,List.replicate,List.length_cons,List.length_nil,List.getElem?_cons_zero,List.getElem?_cons_succ,List.set_cons_zero,List.set_cons_succ,List.all_cons,List.all_nil,List.contains_cons,List.contains_nil,List.elem_cons,List.elem_nil,List.isEmpty_nil,List.isEmpty_cons,Nat.reduceAdd,Nat.reduceSub,Nat.reduceBEq,Nat.reduceLT,Nat.reduceLeDiff,Nat.reduceEqDiff,decide_true,decide_false,Bool.and_true,Bool.true_and,Bool.or_true,Bool.true_or,Bool.or_false,Bool.false_or,Bool.and_false,Bool.false_and,Bool.not_true,Bool.not_false,Bool.false_eq_true,reduceIte,ite_true,ite_false,beq_self_eq_true,Nat.zero_add,reduceCtorEq,and_self,true_and,and_true,ge_iff_le,gt_iff_lt,Nat.succ_eq_add_one,Nat.add_one_sub_one,Nat.zero_lt_succ,Nat.lt_add_left_iff_pos,wipeE,restE,pick,List.filterMap_cons,List.filterMap_nil,Int.reduceLE,Int.reduceLT,Int.reduceNeg,decide_eq_true_eq,Bool.not_eq_true',decide_eq_false_iff_not,isT,seqV,tupV,lstV,Option.getD,h]
section
variable {vs vs1 : List Nat} {ci ci1 : CI} {g g1 : CG} {ct ct1 : CT} {ce : CE} {ρ ρ1 ρ2 ρa ρb ρc ρd ρ' : En} {ds es : List D} {d : D} {ws ws' : List W}
theorem lc2_ok (h1 : ci ρ = .ok (ds, ρ1)) (hv : (vs.all fun v => decide (v < ρ1.length)) = true) (h2 : lcL2 vs vs1 g ct ci1 g1 ct1 ce ds (wipeE ρ1 vs) = .ok (ws, ρ2)) (hl : ws.length ≤ 1000000) : cLc2 vs vs1 ci g ct ci1 g1 ct1 ce ρ = .ok (.tmp (.lst ws), restE ρ1 vs ρ2) := by
  have hz : decide (ws.length ≤ 16777216) = true := decide_eq_true (by omega)
  unfold cLc2
  simp only [h1, Res.bind_ok, hv, chk_true, h2, hz]
theorem lcL2_cons (hg : g (.fz d) ρ = .ok ρa) (ht : ct ρa = .ok (true, ρb)) (hi : ci1 ρb = .ok (es, ρc)) (hv : (vs1.all fun v => decide (v < ρc.length)) = true) (hl : lcL vs1 g1 ct1 ce es (wipeE ρc vs1) = .ok (ws, ρd)) (hr : lcL2 vs vs1 g ct ci1 g1 ct1 ce ds (wipeE ρd vs) = .ok (ws', ρ')) :
    lcL2 vs vs1 g ct ci1 g1 ct1 ce (d :: ds) ρ = .ok (ws ++ ws', ρ') := by
  unfold lcL2
  simp only [hg, Res.bind_ok, ht, if_true, hi, hv, chk_true, hl, hr]
end
theorem nm_lc {A B : Option W} {k : Bool} : ∀ (S : List Rw) (i : Nat), lcL2 [3, 4, 2] [2] (gUnp (gsCons (gSet 3) (gsCons (gSet 4) gsNil))) cYes (iSeq (cVar 4)) (gSet 2) cYes Eis_weaving_2 (enumD i (S.map (eR k))) [A, B, none, none, none] = .ok (iws (numF i S), [A, B, none, none, none])
  | [], _ => rfl
  | r :: S, i => by
    have ih := nm_lc (A := A) (B := B) (k := k) S (i + 1)
    have e : iws (numF i (r :: S)) = iws (List.replicate (r.map (eE k)).length i) ++ iws (numF (i + 1) S) := by
      show iws (List.replicate r.length i ++ numF (i + 1) S) = _
      rw [List.length_map]
      exact List.map_append
    rw [e]
    show lcL2 _ _ _ _ _ _ _ _ (.tup [.int ((i : Nat) : Int), eR k r] :: enumD (i + 1) (S.map (eR k))) _ = _
    exact lcL2_cons (ρa := [A, B, none, some (.fz (.int ((i : Nat) : Int))), some (.fz (eR k r))]) (ρb := [A, B, none, some (.fz (.int ((i : Nat) : Int))), some (.fz (eR k r))]) rfl rfl (is4 src_R) rfl (ni_lc (r.map (eE k))) ih
theorem ie0 {SD : D} {B C E F : Option W} {l : List D} {n : Nat} (h : srcV (.fz SD) = some l) (hl : (enumD 0 l).length ≤ 1000000) : iEnumM (cVar 0) [some (.fz SD), B, C, E, F] = .ok (enumD 0 l, [some (.fz SD), B, C, E, F]) := by
  generalize hE : enumD 0 l = EN at *
  simp only [Bq,v_forc,v_lcc,pend,cont,take,frz,frzs,getP,setP,Res.of,boolOf,isPl,mutS,mutP,intOf,move,retOf,backs1,put1,fzT,ioOf,chk,early,shut,isTmp,flatB,scal,List.map_cons,List.map_nil,List.cons_append,List.nil_append,List.append_nil,List.replicate_succ,List.replicate_zero,List.replicate,List.length_cons,List.length_nil,List.getElem?_cons_zero,List.getElem?_cons_succ,List.set_cons_zero,List.set_cons_succ,List.all_cons,List.all_nil,List.contains_cons,List.contains_nil,List.elem_cons,List.elem_nil,List.isEmpty_nil,List.isEmpty_cons,Nat.reduceAdd,Nat.reduceSub,Nat.reduceBEq,Nat.reduceLT,Nat.reduceLeDiff,Nat.reduceEqDiff,decide_true,decide_false,Bool.and_true,Bool.true_and,Bool.or_true,Bool.true_or,Bool.or_false,Bool.false_or,Bool.and_false,Bool.false_and,Bool.not_true,Bool.not_false,Bool.false_eq_true,reduceIte,ite_true,ite_false,beq_self_eq_true,Nat.zero_add,reduceCtorEq,and_self,true_and,and_true,ge_iff_le,gt_iff_lt,Nat.succ_eq_add_one,Nat.add_one_sub_one,Nat.zero_lt_succ,Nat.lt_add_left_iff_pos,wipeE,restE,pick,List.filterMap_cons,List.filterMap_nil,Int.reduceLE,Int.reduceLT,Int.reduceNeg,decide_eq_true_eq,Bool.not_eq_true',decide_eq_false_iff_not,isT,seqV,tupV,lstV,Option.getD,h,hE,hl]
theorem enumD_len : ∀ (i : Nat) (ds : List D), (enumD i ds).length = ds.length
  | _, [] => rfl
  | i, d :: ds => by show (enumD (i + 1) ds).length + 1 = _; rw [enumD_len (i + 1) ds]; rfl
theorem nums_ok {k : Bool} {S : List Rw} {B : Option W} (hS : S.length ≤ 1000) (hz : (lsts S).sum ≤ 1000) : cLc2 [3, 4, 2] [2] (iEnumM (cVar 0)) (gUnp (gsCons (gSet 3) (gsCons (gSet 4) gsNil))) cYes (iSeq (cVar 4)) (gSet 2) cYes Eis_weaving_2 [some (.fz (sD k S)), B, none, none, none] = .ok (.tmp (.lst (iws (numF 0 S))), [some (.fz (sD k S)), B, none, none, none]) :=
  lc2_ok (ie0 (n := 0) src_S (by rw [enumD_len, List.length_map]; omega)) rfl (nm_lc S 0) (by rw [List.length_map, numF_len]; omega)
theorem fr_iws : ∀ l : List Nat, frzs (iws l) = (cI l).map D.int
  | [] => rfl
  | k :: l => by show D.int (k : Int) :: frzs (iws l) = _; rw [fr_iws l]; rfl
theorem srt_fr (q : List Int) : frzs ((isort q).map fun n => W.fz (.int n)) = (isort q).map D.int := frzs_cw _
section
variable {SD T : D} {ds : List D} {BW : List W} {BD : List D} {b : Bool}
theorem w1 (it : fIsi ["tuple"] (.fz T) = .ok (.fz (.bl true))) (sr : srcV (.fz T) = some ds) (z : ds.length ≤ 1000000) (lc : lcL [3] (gSet 3) cYes Eis_weaving_1 ds [some (.fz SD), some (.fz T), none, none, none] = .ok (BW, [some (.fz SD), some (.fz T), none, none, none])) (fr : frzs BW = BD) (a : fAll [.fz (.lst BD)] = .ok (.fz (.bl b))) :
    (cIfS (cOrT (cNotT (cTest (cUn (fIsi ["tuple"]) (cVar 1)))) (cNotT (cTest (cCallB fAll (cCons true (cLc [3] (iSeq (cVar 1)) (gSet 3) cYes Eis_weaving_1) cNil))))) (cRet (cC (.bl false))) cNext) [some (.fz SD), some (.fz T), none, none, none] = .ok (if b = true then .nx else .ret (.fz (.bl false)), [some (.fz SD), some (.fz T), none, none, none]) := by
  generalize Eis_weaving_1 = E1 at *
  cases b <;> simp only [Bq,v_forc,pend,cont,take,frz,frzs,getP,setP,Res.of,boolOf,isPl,mutS,mutP,intOf,move,retOf,backs1,put1,fzT,ioOf,chk,early,shut,isTmp,flatB,scal,List.map_cons,List.map_nil,List.cons_append,List.nil_append,List.append_nil,List.replicate_succ,List.replicate_zero,List.replicate,List.length_cons,List.length_nil,List.getElem?_cons_zero,List.getElem?_cons_succ,List.set_cons_zero,List.set_cons_succ,List.all_cons,List.all_nil,List.contains_cons,List.contains_nil,List.elem_cons,List.elem_nil,List.isEmpty_nil,List.isEmpty_cons,Nat.reduceAdd,Nat.reduceSub,Nat.reduceBEq,Nat.reduceLT,Nat.reduceLeDiff,Nat.reduceEqDiff,decide_true,decide_false,Bool.and_true,Bool.true_and,Bool.or_true,Bool.true_or,Bool.or_false,Bool.false_or,Bool.and_false,Bool.false_and,Bool.not_true,Bool.not_false,Bool.false_eq_true,reduceIte,ite_true,ite_false,beq_self_eq_true,Nat.zero_add,reduceCtorEq,and_self,true_and,and_true,ge_iff_le,gt_iff_lt,Nat.succ_eq_add_one,Nat.add_one_sub_one,Nat.zero_lt_succ,Nat.lt_add_left_iff_pos,wipeE,restE,pick,List.filterMap_cons,List.filterMap_nil,Int.reduceLE,Int.reduceLT,Int.reduceNeg,decide_eq_true_eq,Bool.not_eq_true',decide_eq_false_iff_not,isT,seqV,tupV,lstV,Option.getD,it,sr,z,lc,fr,a]
theorem w0 (it : fIsi ["tuple"] (.fz T) = .ok (.fz (.bl false))) : (cIfS (cOrT (cNotT (cTest (cUn (fIsi ["tuple"]) (cVar 1)))) (cNotT (cTest (cCallB fAll (cCons true (cLc [3] (iSeq (cVar 1)) (gSet 3) cYes Eis_weaving_1) cNil))))) (cRet (cC (.bl false))) cNext) [some (.fz SD), some (.fz T), none, none, none] = .ok (.ret (.fz (.bl false)), [some (.fz SD), some (.fz T), none, none, none]) := by
  simp only [Bq,v_forc,pend,cont,take,frz,frzs,getP,setP,Res.of,boolOf,isPl,mutS,mutP,intOf,move,retOf,backs1,put1,fzT,ioOf,chk,early,shut,isTmp,flatB,scal,List.map_cons,List.map_nil,List.cons_append,List.nil_append,List.append_nil,List.replicate_succ,List.replicate_zero,List.replicate,List.length_cons,List.length_nil,List.getElem?_cons_zero,List.getElem?_cons_succ,List.set_cons_zero,List.set_cons_succ,List.all_cons,List.all_nil,List.contains_cons,List.contains_nil,List.elem_cons,List.elem_nil,List.isEmpty_nil,List.isEmpty_cons,Nat.reduceAdd,Nat.reduceSub,Nat.reduceBEq,Nat.reduceLT,Nat.reduceLeDiff,Nat.reduceEqDiff,decide_true,decide_false,Bool.and_true,Bool.true_and,Bool.or_true,Bool.true_or,Bool.or_false,Bool.false_or,Bool.and_false,Bool.false_and,Bool.not_true,Bool.not_false,Bool.false_eq_true,reduceIte,ite_true,ite_false,beq_self_eq_true,Nat.zero_add,reduceCtorEq,and_self,true_and,and_true,ge_iff_le,gt_iff_lt,Nat.succ_eq_add_one,Nat.add_one_sub_one,Nat.zero_lt_succ,Nat.lt_add_left_iff_pos,wipeE,restE,pick,List.filterMap_cons,List.filterMap_nil,Int.reduceLE,Int.reduceLT,Int.reduceNeg,decide_eq_true_eq,Bool.not_eq_true',decide_eq_false_iff_not,isT,seqV,tupV,lstV,Option.getD,it]
theorem w2 {SW NW : List W} {SL NL : List D} {C2 : CE} (so : fSortTu [.fz T] = .ok (.lst SW)) (f2 : frzs SW = SL) (c : C2 [some (.fz SD), some (.fz T), none, none, none] = .ok (.tmp (.lst NW), [some (.fz SD), some (.fz T), none, none, none])) (f3 : frzs NW = NL) (eq : fEq (.fz (.lst SL)) (.fz (.lst NL)) = .ok (.fz (.bl b))) :
    cRet (cBin fEq false (cCallB fSortTu (cCons true (cVar 1) cNil)) C2) [some (.fz SD), some (.fz T), none, none, none] = .ok (.ret (.fz (.bl b)), [some (.fz SD), some (.fz T), none, none, none]) := by
  simp only [Bq,v_forc,v_lcc,pend,cont,take,frz,frzs,getP,setP,Res.of,boolOf,isPl,mutS,mutP,intOf,move,retOf,backs1,put1,fzT,ioOf,chk,early,shut,isTmp,flatB,scal,List.map_cons,List.map_nil,List.cons_append,List.nil_append,List.append_nil,List.replicate_succ,List.replicate_zero,List.replicate,List.length_cons,List.length_nil,List.getElem?_cons_zero,List.getElem?_cons_succ,List.set_cons_zero,List.set_cons_succ,List.all_cons,List.all_nil,List.contains_cons,List.contains_nil,List.elem_cons,List.elem_nil,List.isEmpty_nil,List.isEmpty_cons,Nat.reduceAdd,Nat.reduceSub,Nat.reduceBEq,Nat.reduceLT,Nat.reduceLeDiff,Nat.reduceEqDiff,decide_true,decide_false,Bool.and_true,Bool.true_and,Bool.or_true,Bool.true_or,Bool.or_false,Bool.false_or,Bool.and_false,Bool.false_and,Bool.not_true,Bool.not_false,Bool.false_eq_true,reduceIte,ite_true,ite_false,beq_self_eq_true,Nat.zero_add,reduceCtorEq,and_self,true_and,and_true,ge_iff_le,gt_iff_lt,Nat.succ_eq_add_one,Nat.add_one_sub_one,Nat.zero_lt_succ,Nat.lt_add_left_iff_pos,wipeE,restE,pick,List.filterMap_cons,List.filterMap_nil,Int.reduceLE,Int.reduceLT,Int.reduceNeg,decide_eq_true_eq,Bool.not_eq_true',decide_eq_false_iff_not,isT,seqV,tupV,lstV,Option.getD,so,f2,c,f3,eq]
end
theorem isw_ok {k : Bool} {S : List Rw} {ds : List D} (hS : S.length ≤ 1000) (hz : (lsts S).sum ≤ 1000) (hl : ds.length ≤ 900) (h : ∀ d ∈ ds, okF d) : Fis_weaving [.fz (sD k S), .fz (.tup ds)] = .ok (.fz (.bl (wvQ S ds)), [.fz (sD k S), .fz (.tup ds)]) := by
  have sa := w1 (SD := sD k S) (i_t_t (ds := ds)) (show srcV (.fz (.tup ds)) = some ds from rfl) (by omega) (iw_lc ds h) (frzs_fz (fun d => D.bl (isI d)) ds) (all_P isI ds)
  obtain ⟨h1, h2⟩ := all_isI ds h
  cases hb : ds.all isI with
  | true =>
    obtain ⟨q, hq⟩ := h1 hb
    have iq : intsD ds = some q := by rw [hq]; exact intsD_int q
    have e : wvQ S ds = wvI S q := by unfold wvQ; rw [iq]
    rw [e]
    rw [hb] at sa
    exact run2 (n := 3) (seqN sa (w2 (v_sortTu iq) (srt_fr q) (nums_ok hS hz) (fr_iws _) (eq_LL _ _)))
  | false =>
    have iq := h2 hb
    have e : wvQ S ds = false := by unfold wvQ; rw [iq]
    rw [e]
    rw [hb] at sa
    exact run2 (n := 3) (seqR sa)
theorem isw_n {SD X : D} (it : fIsi ["tuple"] (.fz X) = .ok (.fz (.bl false))) : Fis_weaving [.fz SD, .fz X] = .ok (.fz (.bl false), [.fz SD, .fz X]) := run2 (n := 3) (seqR (w0 it))
end Gn
namespace Gn
open Mi PySem
section
variable {R X U : D} {a2 a3 a4 a5 : Option W}
theorem uk (h : unkD X = U) {a : Option W} {ρ : En} : cUnk (cVar 1) (a :: some (.fz X) :: ρ) = .ok (.tmp (.fz U), a :: some (.fz X) :: ρ) := by
  subst h; rfl
theorem m1 (h : unkD X = U) {b : Bool} (it : fIsi ["tuple"] (.fz U) = .ok (.fz (.bl b))) : (cIfS (cNotT (cTest (cUn (fIsi ["tuple"]) (cUnk (cVar 1))))) (cRet (cC (.bl false))) cNext) [some (.fz R), some (.fz X), a2, a3, a4, a5] = .ok (if b = true then .nx else .ret (.fz (.bl false)), [some (.fz R), some (.fz X), a2, a3, a4, a5]) := by
  have k := fun (a : Option W) (ρ : En) => uk h (a := a) (ρ := ρ)
  cases b <;> simp only [Bq,v_forc,v_lcc,pend,cont,take,frz,frzs,getP,setP,Res.of,boolOf,isPl,mutS,mutP,intOf,move,retOf,backs1,put1,fzT,ioOf,chk,early,shut,isTmp,flatB,scal,List.map_cons,List.map_nil,List.cons_append,List.nil_append,List.append_nil,List.replicate_succ,List.replicate_zero,List.replicate,List.length_cons,List.length_nil,List.getElem?_cons_zero,List.getElem?_cons_succ,List.set_cons_zero,List.set_cons_succ,List.all_cons,List.all_nil,List.contains_cons,List.contains_nil,List.elem_cons,List.elem_nil,List.isEmpty_nil,List.isEmpty_cons,Nat.reduceAdd,Nat.reduceSub,Nat.reduceBEq,Nat.reduceLT,Nat.reduceLeDiff,Nat.reduceEqDiff,decide_true,decide_false,Bool.and_true,Bool.true_and,Bool.or_true,Bool.true_or,Bool.or_false,Bool.false_or,Bool.and_false,Bool.false_and,Bool.not_true,Bool.not_false,Bool.false_eq_true,reduceIte,ite_true,ite_false,beq_self_eq_true,Nat.zero_add,reduceCtorEq,and_self,true_and,and_true,ge_iff_le,gt_iff_lt,Nat.succ_eq_add_one,Nat.add_one_sub_one,Nat.zero_lt_succ,Nat.lt_add_left_iff_pos,wipeE,restE,pick,List.filterMap_cons,List.filterMap_nil,Int.reduceLE,Int.reduceLT,Int.reduceNeg,decide_eq_true_eq,Bool.not_eq_true',decide_eq_false_iff_not,isT,seqV,tupV,lstV,Option.getD,k,it]
theorem m2 (h : unkD X = U) {ds : List D} {FW : List W} {FD : List D} {b : Bool} (sr : srcV (.fz U) = some ds) (z : ds.length ≤ 1000000) (lc : lcL [4] (gSet 4) T_law_is_meant_1 E_law_is_meant_1 ds [some (.fz R), some (.fz X), none, none, none, none] = .ok (FW, [some (.fz R), some (.fz X), none, none, none, none])) (fr : frzs FW = FD) (ne : fNe (.fz (.lst FD)) (.fz (.lst [])) = .ok (.fz (.bl b))) :
    (cIfS (cTest (cBin fNe true (cLc [4] (iSeq (cUnk (cVar 1))) (gSet 4) T_law_is_meant_1 E_law_is_meant_1) (cLst true cNil))) (cRet (cC (.bl false))) cNext) [some (.fz R), some (.fz X), none, none, none, none] = .ok (if b = true then .ret (.fz (.bl false)) else .nx, [some (.fz R), some (.fz X), none, none, none, none]) := by
  have k := fun (a : Option W) (ρ : En) => uk h (a := a) (ρ := ρ)
  generalize E_law_is_meant_1 = E1 at *
  generalize T_law_is_meant_1 = T1 at *
  cases b <;> simp only [Bq,v_forc,pend,cont,take,frz,frzs,getP,setP,Res.of,boolOf,isPl,mutS,mutP,intOf,move,retOf,backs1,put1,fzT,ioOf,chk,early,shut,isTmp,flatB,scal,List.map_cons,List.map_nil,List.cons_append,List.nil_append,List.append_nil,List.replicate_succ,List.replicate_zero,List.replicate,List.length_cons,List.length_nil,List.getElem?_cons_zero,List.getElem?_cons_succ,List.set_cons_zero,List.set_cons_succ,List.all_cons,List.all_nil,List.contains_cons,List.contains_nil,List.elem_cons,List.elem_nil,List.isEmpty_nil,List.isEmpty_cons,Nat.reduceAdd,Nat.reduceSub,Nat.reduceBEq,Nat.reduceLT,Nat.reduceLeDiff,Nat.reduceEqDiff,decide_true,decide_false,Bool.and_true,Bool.true_and,Bool.or_true,Bool.true_or,Bool.or_false,Bool.false_or,Bool.and_false,Bool.false_and,Bool.not_true,Bool.not_false,Bool.false_eq_true,reduceIte,ite_true,ite_false,beq_self_eq_true,Nat.zero_add,reduceCtorEq,and_self,true_and,and_true,ge_iff_le,gt_iff_lt,Nat.succ_eq_add_one,Nat.add_one_sub_one,Nat.zero_lt_succ,Nat.lt_add_left_iff_pos,wipeE,restE,pick,List.filterMap_cons,List.filterMap_nil,Int.reduceLE,Int.reduceLT,Int.reduceNeg,decide_eq_true_eq,Bool.not_eq_true',decide_eq_false_iff_not,isT,seqV,tupV,lstV,Option.getD,k,sr,z,lc,fr,ne]
theorem m3 {l : List D} {LW : List W} (sr : srcV (.fz R) = some l) (z : l.length ≤ 1000000) (lc : lcL [3] (gSet 3) cYes E_law_is_meant_2 l [some (.fz R), some (.fz X), none, none, none, none] = .ok (LW, [some (.fz R), some (.fz X), none, none, none, none])) :
    (cAsg (gSet 2) (cLc [3] (iSeq (cVar 0)) (gSet 3) cYes E_law_is_meant_2)) [some (.fz R), some (.fz X), none, none, none, none] = .ok (.nx, [some (.fz R), some (.fz X), some (.lst LW), none, none, none]) := by
  generalize E_law_is_meant_2 = E1 at *
  simp only [Bq,v_forc,pend,cont,take,frz,frzs,getP,setP,Res.of,boolOf,isPl,mutS,mutP,intOf,move,retOf,backs1,put1,fzT,ioOf,chk,early,shut,isTmp,flatB,scal,List.map_cons,List.map_nil,List.cons_append,List.nil_append,List.append_nil,List.replicate_succ,List.replicate_zero,List.replicate,List.length_cons,List.length_nil,List.getElem?_cons_zero,List.getElem?_cons_succ,List.set_cons_zero,List.set_cons_succ,List.all_cons,List.all_nil,List.contains_cons,List.contains_nil,List.elem_cons,List.elem_nil,List.isEmpty_nil,List.isEmpty_cons,Nat.reduceAdd,Nat.reduceSub,Nat.reduceBEq,Nat.reduceLT,Nat.reduceLeDiff,Nat.reduceEqDiff,decide_true,decide_false,Bool.and_true,Bool.true_and,Bool.or_true,Bool.true_or,Bool.or_false,Bool.false_or,Bool.and_false,Bool.false_and,Bool.not_true,Bool.not_false,Bool.false_eq_true,reduceIte,ite_true,ite_false,beq_self_eq_true,Nat.zero_add,reduceCtorEq,and_self,true_and,and_true,ge_iff_le,gt_iff_lt,Nat.succ_eq_add_one,Nat.add_one_sub_one,Nat.zero_lt_succ,Nat.lt_add_left_iff_pos,wipeE,restE,pick,List.filterMap_cons,List.filterMap_nil,Int.reduceLE,Int.reduceLT,Int.reduceNeg,decide_eq_true_eq,Bool.not_eq_true',decide_eq_false_iff_not,isT,seqV,tupV,lstV,Option.getD,sr,z,lc]
theorem m4 (h : unkD X = U) {LW CW : List W} {CD RG : List D} {L M N : Int} {b1 b2 : Bool} (ln : fLen [.fz U] = .ok (.fz (.int L))) (sm : fSum [.lst LW] = .ok (.fz (.int M))) (e1 : fEq (.fz (.int L)) (.fz (.int M)) = .ok (.fz (.bl b1))) (ln2 : fLen [.lst LW] = .ok (.fz (.int N))) (hN : -1000000 ≤ N ∧ N ≤ 1000000) (rg : rangeD 0 N.toNat = RG) (z : RG.length ≤ 1000000)
    (lc : lcL [5] (gSet 5) cYes E_law_is_meant_3 RG [some (.fz R), some (.fz X), some (.lst LW), none, none, none] = .ok (CW, [some (.fz R), some (.fz X), some (.lst LW), none, none, none])) (fr : frzs CW = CD) (e2 : fEq (.fz (.lst CD)) (.lst LW) = .ok (.fz (.bl b2))) :
    (cRet (cAnd (cBin fEq true (cCallB fLen (cCons true (cUnk (cVar 1)) cNil)) (cCallB fSum (cCons true (cVar 2) cNil))) (cBin fEq true (cLc [5] (iRange1 (cCallB fLen (cCons true (cVar 2) cNil))) (gSet 5) cYes E_law_is_meant_3) (cVar 2)))) [some (.fz R), some (.fz X), some (.lst LW), none, none, none] = .ok (.ret (.fz (.bl (b1 && b2))), [some (.fz R), some (.fz X), some (.lst LW), none, none, none]) := by
  have k := fun (a : Option W) (ρ : En) => uk h (a := a) (ρ := ρ)
  generalize E_law_is_meant_3 = E1 at *
  cases b1 <;> simp only [Bq,v_forc,pend,cont,take,frz,frzs,getP,setP,Res.of,boolOf,isPl,mutS,mutP,intOf,move,retOf,backs1,put1,fzT,ioOf,chk,early,shut,isTmp,flatB,scal,List.map_cons,List.map_nil,List.cons_append,List.nil_append,List.append_nil,List.replicate_succ,List.replicate_zero,List.replicate,List.length_cons,List.length_nil,List.getElem?_cons_zero,List.getElem?_cons_succ,List.set_cons_zero,List.set_cons_succ,List.all_cons,List.all_nil,List.contains_cons,List.contains_nil,List.elem_cons,List.elem_nil,List.isEmpty_nil,List.isEmpty_cons,Nat.reduceAdd,Nat.reduceSub,Nat.reduceBEq,Nat.reduceLT,Nat.reduceLeDiff,Nat.reduceEqDiff,decide_true,decide_false,Bool.and_true,Bool.true_and,Bool.or_true,Bool.true_or,Bool.or_false,Bool.false_or,Bool.and_false,Bool.false_and,Bool.not_true,Bool.not_false,Bool.false_eq_true,reduceIte,ite_true,ite_false,beq_self_eq_true,Nat.zero_add,reduceCtorEq,and_self,true_and,and_true,ge_iff_le,gt_iff_lt,Nat.succ_eq_add_one,Nat.add_one_sub_one,Nat.zero_lt_succ,Nat.lt_add_left_iff_pos,wipeE,restE,pick,List.filterMap_cons,List.filterMap_nil,Int.reduceLE,Int.reduceLT,Int.reduceNeg,decide_eq_true_eq,Bool.not_eq_true',decide_eq_false_iff_not,isT,seqV,tupV,lstV,Option.getD,k,ln,sm,e1,ln2,hN,rg,z,lc,fr,e2]
end
theorem me_lc {A B C E F : Option W} : ∀ ds : List D, (∀ d ∈ ds, okF d) → lcL [4] (gSet 4) T_law_is_meant_1 E_law_is_meant_1 ds [A, B, C, E, none, F] = .ok ((ds.filter fun d => !isI d).map W.fz, [A, B, C, E, none, F])
  | [], _ => rfl
  | d :: ds, h => by
    have ih := me_lc (A := A) (B := B) (C := C) (E := E) (F := F) ds fun e he => h e (by simp [he])
    rcases h d (by simp) with ⟨i, rfl⟩ | ⟨b, rfl⟩ | rfl | rfl | ⟨q, _, rfl⟩
    · have e : ((D.int i :: ds).filter fun d => !isI d) = ds.filter fun d => !isI d := List.filter_cons_of_neg (by simp [isI])
      rw [e]
      generalize (ds.filter fun d => !isI d).map W.fz = Z at *
      simp only [Bq,T_law_is_meant_1,E_law_is_meant_1,v_forc,v_lcc,pend,cont,take,frz,frzs,getP,setP,Res.of,boolOf,isPl,mutS,mutP,intOf,move,retOf,backs1,put1,fzT,ioOf,chk,early,shut,isTmp,flatB,scal,List.map_cons,List.map_nil,List.cons_append,List.nil_append,List.append_nil,List.replicate_succ,List.replicate_zero,List.replicate,List.length_cons,List.length_nil,List.getElem?_cons_zero,List.getElem?_cons_succ,List.set_cons_zero,List.set_cons_succ,List.all_cons,List.all_nil,List.contains_cons,List.contains_nil,List.elem_cons,List.elem_nil,List.isEmpty_nil,List.isEmpty_cons,Nat.reduceAdd,Nat.reduceSub,Nat.reduceBEq,Nat.reduceLT,Nat.reduceLeDiff,Nat.reduceEqDiff,decide_true,decide_false,Bool.and_true,Bool.true_and,Bool.or_true,Bool.true_or,Bool.or_false,Bool.false_or,Bool.and_false,Bool.false_and,Bool.not_true,Bool.not_false,Bool.false_eq_true,reduceIte,ite_true,ite_false,beq_self_eq_true,Nat.zero_add,reduceCtorEq,and_self,true_and,and_true,ge_iff_le,gt_iff_lt,Nat.succ_eq_add_one,Nat.add_one_sub_one,Nat.zero_lt_succ,Nat.lt_add_left_iff_pos,wipeE,restE,pick,List.filterMap_cons,List.filterMap_nil,Int.reduceLE,Int.reduceLT,Int.reduceNeg,decide_eq_true_eq,Bool.not_eq_true',decide_eq_false_iff_not,isT,seqV,tupV,lstV,Option.getD,i_i_i,i_b_i,ih]
    · have e : ((D.bl b :: ds).filter fun d => !isI d).map W.fz = W.fz (.bl b) :: (ds.filter fun d => !isI d).map W.fz := by rw [List.filter_cons_of_pos (by simp [isI])]; rfl
      rw [e]
      generalize (ds.filter fun d => !isI d).map W.fz = Z at *
      simp only [Bq,T_law_is_meant_1,E_law_is_meant_1,v_forc,v_lcc,pend,cont,take,frz,frzs,getP,setP,Res.of,boolOf,isPl,mutS,mutP,intOf,move,retOf,backs1,put1,fzT,ioOf,chk,early,shut,isTmp,flatB,scal,List.map_cons,List.map_nil,List.cons_append,List.nil_append,List.append_nil,List.replicate_succ,List.replicate_zero,List.replicate,List.length_cons,List.length_nil,List.getElem?_cons_zero,List.getElem?_cons_succ,List.set_cons_zero,List.set_cons_succ,List.all_cons,List.all_nil,List.contains_cons,List.contains_nil,List.elem_cons,List.elem_nil,List.isEmpty_nil,List.isEmpty_cons,Nat.reduceAdd,Nat.reduceSub,Nat.reduceBEq,Nat.reduceLT,Nat.reduceLeDiff,Nat.reduceEqDiff,decide_true,decide_false,Bool.and_true,Bool.true_and,Bool.or_true,Bool.true_or,Bool.or_false,Bool.false_or,Bool.and_false,Bool.false_and,Bool.not_true,Bool.not_false,Bool.false_eq_true,reduceIte,ite_true,ite_false,beq_self_eq_true,Nat.zero_add,reduceCtorEq,and_self,true_and,and_true,ge_iff_le,gt_iff_lt,Nat.succ_eq_add_one,Nat.add_one_sub_one,Nat.zero_lt_succ,Nat.lt_add_left_iff_pos,wipeE,restE,pick,List.filterMap_cons,List.filterMap_nil,Int.reduceLE,Int.reduceLT,Int.reduceNeg,decide_eq_true_eq,Bool.not_eq_true',decide_eq_false_iff_not,isT,seqV,tupV,lstV,Option.getD,i_i_b,i_b_b,ih]
    · have e : ((D.non :: ds).filter fun d => !isI d).map W.fz = W.fz .non :: (ds.filter fun d => !isI d).map W.fz := by rw [List.filter_cons_of_pos (by simp [isI])]; rfl
      rw [e]
      generalize (ds.filter fun d => !isI d).map W.fz = Z at *
      simp only [Bq,T_law_is_meant_1,E_law_is_meant_1,v_forc,v_lcc,pend,cont,take,frz,frzs,getP,setP,Res.of,boolOf,isPl,mutS,mutP,intOf,move,retOf,backs1,put1,fzT,ioOf,chk,early,shut,isTmp,flatB,scal,List.map_cons,List.map_nil,List.cons_append,List.nil_append,List.append_nil,List.replicate_succ,List.replicate_zero,List.replicate,List.length_cons,List.length_nil,List.getElem?_cons_zero,List.getElem?_cons_succ,List.set_cons_zero,List.set_cons_succ,List.all_cons,List.all_nil,List.contains_cons,List.contains_nil,List.elem_cons,List.elem_nil,List.isEmpty_nil,List.isEmpty_cons,Nat.reduceAdd,Nat.reduceSub,Nat.reduceBEq,Nat.reduceLT,Nat.reduceLeDiff,Nat.reduceEqDiff,decide_true,decide_false,Bool.and_true,Bool.true_and,Bool.or_true,Bool.true_or,Bool.or_false,Bool.false_or,Bool.and_false,Bool.false_and,Bool.not_true,Bool.not_false,Bool.false_eq_true,reduceIte,ite_true,ite_false,beq_self_eq_true,Nat.zero_add,reduceCtorEq,and_self,true_and,and_true,ge_iff_le,gt_iff_lt,Nat.succ_eq_add_one,Nat.add_one_sub_one,Nat.zero_lt_succ,Nat.lt_add_left_iff_pos,wipeE,restE,pick,List.filterMap_cons,List.filterMap_nil,Int.reduceLE,Int.reduceLT,Int.reduceNeg,decide_eq_true_eq,Bool.not_eq_true',decide_eq_false_iff_not,isT,seqV,tupV,lstV,Option.getD,i_i_n,i_b_n,ih]
    · have e : ((D.str "0" :: ds).filter fun d => !isI d).map W.fz = W.fz (.str "0") :: (ds.filter fun d => !isI d).map W.fz := by rw [List.filter_cons_of_pos (by simp [isI])]; rfl
      rw [e]
      generalize (ds.filter fun d => !isI d).map W.fz = Z at *
      simp only [Bq,T_law_is_meant_1,E_law_is_meant_1,v_forc,v_lcc,pend,cont,take,frz,frzs,getP,setP,Res.of,boolOf,isPl,mutS,mutP,intOf,move,retOf,backs1,put1,fzT,ioOf,chk,early,shut,isTmp,flatB,scal,List.map_cons,List.map_nil,List.cons_append,List.nil_append,List.append_nil,List.replicate_succ,List.replicate_zero,List.replicate,List.length_cons,List.length_nil,List.getElem?_cons_zero,List.getElem?_cons_succ,List.set_cons_zero,List.set_cons_succ,List.all_cons,List.all_nil,List.contains_cons,List.contains_nil,List.elem_cons,List.elem_nil,List.isEmpty_nil,List.isEmpty_cons,Nat.reduceAdd,Nat.reduceSub,Nat.reduceBEq,Nat.reduceLT,Nat.reduceLeDiff,Nat.reduceEqDiff,decide_true,decide_false,Bool.and_true,Bool.true_and,Bool.or_true,Bool.true_or,Bool.or_false,Bool.false_or,Bool.and_false,Bool.false_and,Bool.not_true,Bool.not_false,Bool.false_eq_true,reduceIte,ite_true,ite_false,beq_self_eq_true,Nat.zero_add,reduceCtorEq,and_self,true_and,and_true,ge_iff_le,gt_iff_lt,Nat.succ_eq_add_one,Nat.add_one_sub_one,Nat.zero_lt_succ,Nat.lt_add_left_iff_pos,wipeE,restE,pick,List.filterMap_cons,List.filterMap_nil,Int.reduceLE,Int.reduceLT,Int.reduceNeg,decide_eq_true_eq,Bool.not_eq_true',decide_eq_false_iff_not,isT,seqV,tupV,lstV,Option.getD,i_i_s,i_b_s,ih]
    · have e : ((tS q :: ds).filter fun d => !isI d).map W.fz = W.fz (tS q) :: (ds.filter fun d => !isI d).map W.fz := by rw [List.filter_cons_of_pos (by simp [isI, tS])]; rfl
      rw [e]
      generalize (ds.filter fun d => !isI d).map W.fz = Z at *
      unfold tS
      generalize nD q = Q at *
      simp only [Bq,T_law_is_meant_1,E_law_is_meant_1,v_forc,v_lcc,pend,cont,take,frz,frzs,getP,setP,Res.of,boolOf,isPl,mutS,mutP,intOf,move,retOf,backs1,put1,fzT,ioOf,chk,early,shut,isTmp,flatB,scal,List.map_cons,List.map_nil,List.cons_append,List.nil_append,List.append_nil,List.replicate_succ,List.replicate_zero,List.replicate,List.length_cons,List.length_nil,List.getElem?_cons_zero,List.getElem?_cons_succ,List.set_cons_zero,List.set_cons_succ,List.all_cons,List.all_nil,List.contains_cons,List.contains_nil,List.elem_cons,List.elem_nil,List.isEmpty_nil,List.isEmpty_cons,Nat.reduceAdd,Nat.reduceSub,Nat.reduceBEq,Nat.reduceLT,Nat.reduceLeDiff,Nat.reduceEqDiff,decide_true,decide_false,Bool.and_true,Bool.true_and,Bool.or_true,Bool.true_or,Bool.or_false,Bool.false_or,Bool.and_false,Bool.false_and,Bool.not_true,Bool.not_false,Bool.false_eq_true,reduceIte,ite_true,ite_false,beq_self_eq_true,Nat.zero_add,reduceCtorEq,and_self,true_and,and_true,ge_iff_le,gt_iff_lt,Nat.succ_eq_add_one,Nat.add_one_sub_one,Nat.zero_lt_succ,Nat.lt_add_left_iff_pos,wipeE,restE,pick,List.filterMap_cons,List.filterMap_nil,Int.reduceLE,Int.reduceLT,Int.reduceNeg,decide_eq_true_eq,Bool.not_eq_true',decide_eq_false_iff_not,isT,seqV,tupV,lstV,Option.getD,i_i_t,i_b_t,ih]
theorem sz_lc {B C E F G : Option W} : ∀ S : List Rw, lcL [3] (gSet 3) cYes E_law_is_meant_2 (S.map (eR false)) [B, C, E, none, F, G] = .ok (iws (lsts S), [B, C, E, none, F, G])
  | [] => rfl
  | r :: S => by
    have ih := sz_lc (B := B) (C := C) (E := E) (F := F) (G := G) S
    have ln := len_R (k := false) (r := r)
    have e : iws (lsts (r :: S)) = W.fz (.int ((r.length : Nat) : Int)) :: iws (lsts S) := rfl
    rw [e, List.map_cons (f := eR false)]
    generalize iws (lsts S) = Z at *
    generalize S.map (eR false) = M at *
    generalize eR false r = R at *
    generalize ((r.length : Nat) : Int) = N at *
    simp only [Bq,E_law_is_meant_2,v_forc,v_lcc,pend,cont,take,frz,frzs,getP,setP,Res.of,boolOf,isPl,mutS,mutP,intOf,move,retOf,backs1,put1,fzT,ioOf,chk,early,shut,isTmp,flatB,scal,List.map_cons,List.map_nil,List.cons_append,List.nil_append,List.append_nil,List.replicate_succ,List.replicate_zero,List.replicate,List.length_cons,List.length_nil,List.getElem?_cons_zero,List.getElem?_cons_succ,List.set_cons_zero,List.set_cons_succ,List.all_cons,List.all_nil,List.contains_cons,List.contains_nil,List.elem_cons,List.elem_nil,List.isEmpty_nil,List.isEmpty_cons,Nat.reduceAdd,Nat.reduceSub,Nat.reduceBEq,Nat.reduceLT,Nat.reduceLeDiff,Nat.reduceEqDiff,decide_true,decide_false,Bool.and_true,Bool.true_and,Bool.or_true,Bool.true_or,Bool.or_false,Bool.false_or,Bool.and_false,Bool.false_and,Bool.not_true,Bool.not_false,Bool.false_eq_true,reduceIte,ite_true,ite_false,beq_self_eq_true,Nat.zero_add,reduceCtorEq,and_self,true_and,and_true,ge_iff_le,gt_iff_lt,Nat.succ_eq_add_one,Nat.add_one_sub_one,Nat.zero_lt_succ,Nat.lt_add_left_iff_pos,wipeE,restE,pick,List.filterMap_cons,List.filterMap_nil,Int.reduceLE,Int.reduceLT,Int.reduceNeg,decide_eq_true_eq,Bool.not_eq_true',decide_eq_false_iff_not,isT,seqV,tupV,lstV,Option.getD,ln,ih]
theorem cnt1 {A C E F : Option W} {q : List Int} {k : Int} : cTCnt true (cVar 1) (cVar 5) [A, some (.fz (.tpn (q.map D.int))), C, E, F, some (.fz (.int k))] = .ok (.tmp (.fz (.int ((q.countP (· == k) : Nat) : Int))), [A, some (.fz (.tpn (q.map D.int))), C, E, F, some (.fz (.int k))]) := by
  have f : fCnt (.fz (.tpn (q.map D.int))) (.fz (.int k)) = .ok (.fz (.int ((q.countP (· == k) : Nat) : Int))) := by
    show (match intsD (q.map D.int) with | some ns => Res.ok (W.fz (.int (ns.countP (· == k) : Nat))) | none => .err) = _
    rw [intsD_int]
  have c : cBin fCnt true (cVar 1) (cVar 5) [A, some (.fz (.tpn (q.map D.int))), C, E, F, some (.fz (.int k))] = .ok (.tmp (.fz (.int ((q.countP (· == k) : Nat) : Int))), [A, some (.fz (.tpn (q.map D.int))), C, E, F, some (.fz (.int k))]) := by
    generalize ((q.countP (· == k) : Nat) : Int) = N at *
    generalize D.tpn (q.map D.int) = T at *
    simp only [Bq,v_forc,v_lcc,pend,cont,take,frz,frzs,getP,setP,Res.of,boolOf,isPl,mutS,mutP,intOf,move,retOf,backs1,put1,fzT,ioOf,chk,early,shut,isTmp,flatB,scal,List.map_cons,List.map_nil,List.cons_append,List.nil_append,List.append_nil,List.replicate_succ,List.replicate_zero,List.replicate,List.length_cons,List.length_nil,List.getElem?_cons_zero,List.getElem?_cons_succ,List.set_cons_zero,List.set_cons_succ,List.all_cons,List.all_nil,List.contains_cons,List.contains_nil,List.elem_cons,List.elem_nil,List.isEmpty_nil,List.isEmpty_cons,Nat.reduceAdd,Nat.reduceSub,Nat.reduceBEq,Nat.reduceLT,Nat.reduceLeDiff,Nat.reduceEqDiff,decide_true,decide_false,Bool.and_true,Bool.true_and,Bool.or_true,Bool.true_or,Bool.or_false,Bool.false_or,Bool.and_false,Bool.false_and,Bool.not_true,Bool.not_false,Bool.false_eq_true,reduceIte,ite_true,ite_false,beq_self_eq_true,Nat.zero_add,reduceCtorEq,and_self,true_and,and_true,ge_iff_le,gt_iff_lt,Nat.succ_eq_add_one,Nat.add_one_sub_one,Nat.zero_lt_succ,Nat.lt_add_left_iff_pos,wipeE,restE,pick,List.filterMap_cons,List.filterMap_nil,Int.reduceLE,Int.reduceLT,Int.reduceNeg,decide_eq_true_eq,Bool.not_eq_true',decide_eq_false_iff_not,isT,seqV,tupV,lstV,Option.getD,f]
  exact c
theorem ct_lc {A C E F : Option W} {q : List Int} : ∀ l : List Nat, lcL [5] (gSet 5) cYes E_law_is_meant_3 (nD l) [A, some (.fz (.tpn (q.map D.int))), C, E, F, none] = .ok (l.map fun k : Nat => W.fz (.int ((q.countP (· == (k : Int)) : Nat) : Int)), [A, some (.fz (.tpn (q.map D.int))), C, E, F, none])
  | [] => rfl
  | k :: l => by
    have ih := ct_lc (A := A) (C := C) (E := E) (F := F) (q := q) l
    have c := cnt1 (A := A) (C := C) (E := E) (F := F) (q := q) (k := (k : Int))
    have e : ((k :: l).map fun k : Nat => W.fz (.int ((q.countP (· == (k : Int)) : Nat) : Int))) = W.fz (.int ((q.countP (· == (k : Int)) : Nat) : Int)) :: l.map fun k : Nat => W.fz (.int ((q.countP (· == (k : Int)) : Nat) : Int)) := rfl
    have e2 : nD (k :: l) = D.int (k : Int) :: nD l := rfl
    rw [e, e2]
    generalize (l.map fun k : Nat => W.fz (.int ((q.countP (· == (k : Int)) : Nat) : Int))) = Z at *
    generalize nD l = NL at *
    generalize ((q.countP (· == (k : Int)) : Nat) : Int) = N at *
    generalize D.tpn (q.map D.int) = T at *
    generalize (k : Int) = K at *
    simp only [Bq,E_law_is_meant_3,v_forc,v_lcc,pend,cont,take,frz,frzs,getP,setP,Res.of,boolOf,isPl,mutS,mutP,intOf,move,retOf,backs1,put1,fzT,ioOf,chk,early,shut,isTmp,flatB,scal,List.map_cons,List.map_nil,List.cons_append,List.nil_append,List.append_nil,List.replicate_succ,List.replicate_zero,List.replicate,List.length_cons,List.length_nil,List.getElem?_cons_zero,List.getElem?_cons_succ,List.set_cons_zero,List.set_cons_succ,List.all_cons,List.all_nil,List.contains_cons,List.contains_nil,List.elem_cons,List.elem_nil,List.isEmpty_nil,List.isEmpty_cons,Nat.reduceAdd,Nat.reduceSub,Nat.reduceBEq,Nat.reduceLT,Nat.reduceLeDiff,Nat.reduceEqDiff,decide_true,decide_false,Bool.and_true,Bool.true_and,Bool.or_true,Bool.true_or,Bool.or_false,Bool.false_or,Bool.and_false,Bool.false_and,Bool.not_true,Bool.not_false,Bool.false_eq_true,reduceIte,ite_true,ite_false,beq_self_eq_true,Nat.zero_add,reduceCtorEq,and_self,true_and,and_true,ge_iff_le,gt_iff_lt,Nat.succ_eq_add_one,Nat.add_one_sub_one,Nat.zero_lt_succ,Nat.lt_add_left_iff_pos,wipeE,restE,pick,List.filterMap_cons,List.filterMap_nil,Int.reduceLE,Int.reduceLT,Int.reduceNeg,decide_eq_true_eq,Bool.not_eq_true',decide_eq_false_iff_not,isT,seqV,tupV,lstV,Option.getD,c,ih]
theorem rg_nD (n : Nat) : rangeD 0 n = nD (List.range n) := by
  unfold rangeD
  refine List.map_congr_left fun k _ => ?_
  show D.int (0 + (k : Int)) = D.int k
  rw [Int.zero_add]
theorem len_iws (l : List Nat) : fLen [.lst (iws l)] = .ok (.fz (.int ((l.length : Nat) : Int))) := len_nw l
theorem iws_cw (l : List Nat) : iws l = (cI l).map fun n => W.fz (.int n) := by show _ = (l.map _).map _; rw [List.map_map]; rfl
theorem sum_iws (l : List Nat) : fSum [.lst (iws l)] = .ok (.fz (.int ((l.sum : Nat) : Int))) := by
  have s : (cI l).sum = ((l.sum : Nat) : Int) := by
    induction l with
    | nil => rfl
    | cons k l ih =>
      show (k : Int) + (cI l).sum = _
      rw [ih, List.sum_cons]; omega
  have e : lsV (.lst (iws l)) = some ((cI l).map D.int) := by rw [iws_cw]; exact unfz_cw _
  unfold fSum; dsimp only; rw [e]; dsimp only; rw [intsD_int]
  show Res.ok (W.fz (.int (cI l).sum)) = _
  rw [s]
theorem eq_LW (a : List Int) (l : List Nat) : fEq (.fz (.lst (a.map D.int))) (.lst (iws l)) = .ok (.fz (.bl (decide (a = cI l)))) := by
  have h := eq_LL a (cI l)
  have e : frz (.lst (iws l)) = .lst ((cI l).map D.int) := by show D.lst (frzs (iws l)) = _; rw [fr_iws]
  have e2 : fEq (.fz (.lst (a.map D.int))) (.lst (iws l)) = fEq (.fz (.lst (a.map D.int))) (.fz (.lst ((cI l).map D.int))) := by
    unfold fEq eqW
    rw [e]; rfl
  rw [e2, h]
theorem fr_cnt (S : List Rw) (q : List Int) : frzs ((List.range S.length).map fun k : Nat => W.fz (.int ((q.countP (· == (k : Int)) : Nat) : Int))) = (cntsI S q).map D.int := by
  rw [frzs_fz (fun k : Nat => D.int ((q.countP (· == (k : Int)) : Nat) : Int))]
  unfold cntsI
  rw [List.map_map]; rfl
theorem pln_F {d : D} (h : okF d) : pln 2 d := by
  rcases h with ⟨i, rfl⟩ | ⟨b, rfl⟩ | rfl | rfl | ⟨q, hq, rfl⟩
  · trivial
  · trivial
  · trivial
  · show PyData.strOk "0" = true
    decide +kernel
  · refine ⟨by rw [nD_len]; omega, fun d hd => ?_⟩
    obtain ⟨k, _, rfl⟩ := List.mem_map.mp hd
    trivial
theorem meant_ok {S : List Rw} {X : D} {ds : List D} (hX : unkD X = .tup ds) (hq : X = .tpn ds ∨ intsD ds = none) (hS : S.length ≤ 900) (hl : ds.length ≤ 900) (h : ∀ d ∈ ds, okF d) : F_law_is_meant [.fz (sD false S), .fz X] = .ok (.fz (.bl (wvQ S ds)), [.fz (sD false S), .fz X]) := by
  have s1 := m1 (R := sD false S) (a2 := none) (a3 := none) (a4 := none) (a5 := none) hX (i_t_t (ds := ds))
  have s2 := m2 (R := sD false S) hX (show srcV (.fz (.tup ds)) = some ds from rfl) (by omega) (me_lc (A := some (.fz (sD false S))) (B := some (.fz X)) (C := none) (E := none) (F := none) ds h) (Mi.frzs_fz (ds.filter fun d => !isI d)) (ne_of (eq_nil (n := 2) (ds := ds.filter fun d => !isI d) (fun d hd => pln_F (h d (List.mem_filter.mp hd).1)) (by decide)))
  obtain ⟨h1, h2⟩ := all_isI ds h
  cases hb : ds.all isI with
  | true =>
    obtain ⟨q, hq2⟩ := h1 hb
    have iq : intsD ds = some q := by rw [hq2]; exact intsD_int q
    have hX2 : X = .tpn ds := by
      rcases hq with e | e
      · exact e
      · rw [iq] at e; cases e
    subst hX2
    have e0 : ds.filter (fun d => !isI d) = [] := List.filter_eq_nil_iff.mpr fun d hd => by
      have := List.all_eq_true.mp hb d hd
      simp [this]
    rw [e0] at s2
    have e : wvQ S ds = (decide ((q.length : Int) = ((lsts S).sum : Nat)) && decide (cntsI S q = cI (lsts S))) := by
      unfold wvQ; rw [iq]; exact wv_iff S q
    rw [e]
    have ql : ds.length = q.length := by rw [hq2, List.length_map]
    have s3 := m3 (R := sD false S) (X := .tpn ds) (src_S (k := false) (S := S)) (by rw [List.length_map]; omega) (sz_lc S)
    have lz : (lsts S).length = S.length := List.length_map ..
    have ct := ct_lc (A := some (.fz (sD false S))) (C := some (.lst (iws (lsts S)))) (E := none) (F := none) (q := q) (List.range S.length)
    rw [← hq2] at ct
    have ln : fLen [.fz (.tup ds)] = .ok (.fz (.int ((q.length : Nat) : Int))) := by rw [len_t, ql]
    have s4 := m4 (R := sD false S) hX ln (sum_iws (lsts S)) e_int (len_iws (lsts S)) (by rw [lz]; omega) (show rangeD 0 (((lsts S).length : Nat) : Int).toNat = nD (List.range S.length) by rw [Int.toNat_natCast, lz]; exact rg_nD _) (by rw [nD_len, List.length_range]; omega) ct (fr_cnt S q) (eq_LW _ _)
    exact run2 (n := 4) (seqN s1 (seqN s2 (seqN s3 s4)))
  | false =>
    have iq := h2 hb
    have e : wvQ S ds = false := by unfold wvQ; rw [iq]
    rw [e]
    have e0 : (ds.filter (fun d => !isI d)).isEmpty = false := by
      cases hc : ds.filter (fun d => !isI d) with
      | cons a l => rfl
      | nil =>
        exfalso
        have := List.filter_eq_nil_iff.mp hc
        have a : ds.all isI = true := List.all_eq_true.mpr fun d hd => by simpa using this d hd
        rw [a] at hb; cases hb
    rw [e0] at s2
    exact run2 (n := 4) (seqN s1 (seqR s2))
theorem meant_n {R X : D} (hX : unkD X = X) (it : fIsi ["tuple"] (.fz X) = .ok (.fz (.bl false))) : F_law_is_meant [.fz R, .fz X] = .ok (.fz (.bl false), [.fz R, .fz X]) := run2 (n := 4) (seqR (m1 (a2 := none) (a3 := none) (a4 := none) (a5 := none) hX it))
end Gn
namespace Gn
open Mi PySem
theorem zr_l (m : Nat) : (List.replicate m [D.int 0]).flatten.map W.fz = iws (List.replicate m 0) := by
  induction m with
  | zero => rfl
  | succ m ih => rw [List.replicate_succ, List.flatten_cons, List.map_append, ih, List.replicate_succ]; rfl
theorem tp_row (r : Rw) : fTuple [.lst (r.map fun e => W.fz (eE false e))] = .ok (.fz (eR false r)) := by
  show (match unfz (r.map fun e => W.fz (eE false e)) with | some ds => Res.ok (W.fz (.tup ds)) | none => .err) = _
  rw [show (r.map fun e => W.fz (eE false e)) = (r.map (eE false)).map W.fz by rw [List.map_map]; rfl, unfz_fz]; rfl
section
variable {S : List Rw}
theorem mul0 (hS : S.length ≤ 1000) : fMul (.lst [.fz (.int 0)]) (.fz (.int ((S.length : Nat) : Int))) = .ok (.lst (iws (z0 S))) := by
  rw [mul_l hS, zr_l]
theorem made_ok {w : List Nat} (h0 : S ≠ []) (hS : S.length ≤ 1000) (hv : VW S (z0 S) w) (hl : w.length ≤ 1000) : F_law_made [.fz (sD false S), .fz (tS w)] = .ok (.fz (eR false (mk S (z0 S) w)), [.fz (sD false S), .fz (tS w)]) := by
  obtain ⟨a', s', e⟩ := made_loop (w0 := tS w) hS w (z0 S) [] none (zero_sp S) hv (by simpa using hl)
  rw [List.nil_append] at e
  have ln := zero_k (k := false) h0 hS
  have mu := mul0 hS
  have mu2 : fMul (.fz (.lst [.int 0])) (.fz (.int ((S.length : Nat) : Int))) = .ok (.lst (iws (z0 S))) := mu
  have hl2 : (nD w).length ≤ 1000000 := by rw [nD_len]; omega
  exact run2 (n := 3) (seqN (md1_ok ln mu mu2) (seqN (md2_ok rfl hl2 e) (md3_ok (tp_row _))))
theorem augS_ev {i : Nat} {f : Int → Int → Int} {ci ce : CE} {ρ : En} {ws : List W} {k n m : Int} {j : Nat} (h0 : ρ[i]? = some (some (.lst ws))) (h1 : ci ρ = .ok (.tmp (.fz (.int k)), ρ)) (hj : L2.ixN ws.length k = some j) (hn : ws[j]? = some (.fz (.int n))) (h2 : ce ρ = .ok (.tmp (.fz (.int m)), ρ)) :
    cAugS i f ci ce ρ = .ok (.nx, ρ.set i (some (.lst (ws.set j (.fz (.int (f n m))))))) := by
  unfold cAugS Mi.lstAt Mi.intAt
  simp only [h0, h1, h2, hj, hn, v_ok, intOf, Res.of]
abbrev NE (A B : D) (S : List Rw) (a : Option W) (f : Rw) (s : List Nat) : En := [some (.fz A), some (.fz B), some (.lst (iws s)), a, some (.fz (sD false S)), some (.lst (f.map fun e => W.fz (eE false e)))]
theorem wv_app {A B R E SS : D} {F I : List W} {K N : Int} (i1 : fIdx (.fz SS) (.fz (.int K)) = .ok (.fz R)) (i2 : fIdx (.lst I) (.fz (.int K)) = .ok (.fz (.int N))) (i3 : fIdx (.fz R) (.fz (.int N)) = .ok (.fz E)) (hf : F.length ≤ 1000000) :
    cDrop (cApp true (cVar 5) (cBin fIdx true (cBin fIdx true (cVar 4) (cVar 3)) (cBin fIdx true (cVar 2) (cVar 3)))) [some (.fz A), some (.fz B), some (.lst I), some (.fz (.int K)), some (.fz SS), some (.lst F)] = .ok (.nx, [some (.fz A), some (.fz B), some (.lst I), some (.fz (.int K)), some (.fz SS), some (.lst (F ++ [.fz E]))]) := by
  simp only [Bq,v_forc,v_lcc,pend,cont,take,frz,frzs,getP,setP,Res.of,boolOf,isPl,mutS,mutP,intOf,move,retOf,backs1,put1,fzT,ioOf,chk,early,shut,isTmp,flatB,scal,List.map_cons,List.map_nil,List.cons_append,List.nil_append,List.append_nil,List.replicate_succ,List.replicate_zero,List.replicate,List.length_cons,List.length_nil,List.getElem?_cons_zero,List.getElem?_cons_succ,List.set_cons_zero,List.set_cons_succ,List.all_cons,List.all_nil,List.contains_cons,List.contains_nil,List.elem_cons,List.elem_nil,List.isEmpty_nil,List.isEmpty_cons,Nat.reduceAdd,Nat.reduceSub,Nat.reduceBEq,Nat.reduceLT,Nat.reduceLeDiff,Nat.reduceEqDiff,decide_true,decide_false,Bool.and_true,Bool.true_and,Bool.or_true,Bool.true_or,Bool.or_false,Bool.false_or,Bool.and_false,Bool.false_and,Bool.not_true,Bool.not_false,Bool.false_eq_true,reduceIte,ite_true,ite_false,beq_self_eq_true,Nat.zero_add,reduceCtorEq,and_self,true_and,and_true,ge_iff_le,gt_iff_lt,Nat.succ_eq_add_one,Nat.add_one_sub_one,Nat.zero_lt_succ,Nat.lt_add_left_iff_pos,wipeE,restE,pick,List.filterMap_cons,List.filterMap_nil,Int.reduceLE,Int.reduceLT,Int.reduceNeg,decide_eq_true_eq,Bool.not_eq_true',decide_eq_false_iff_not,isT,seqV,tupV,lstV,Option.getD,i1,i2,i3,hf]
theorem wv_body {A B : D} {s : List Nat} {f : Rw} {k : Nat} {e : Wd × Int} (h : evat S s k = some e) (hf : f.length ≤ 1000) (hl : s.length ≤ 1000) : Lwoven_row_1 (NE A B S (some (.fz (.int ((k : Nat) : Int)))) f s) = .ok (.nx, NE A B S (some (.fz (.int ((k : Nat) : Int)))) (f ++ [e]) (inc s k)) := by
  obtain ⟨r, n, h1, h2, h3⟩ := ev_parts h
  have i1 := ix_S h1
  have i2 := iw_ix h2
  have i3 := ix_R h3
  have hk := (List.getElem?_eq_some_iff.mp h2).1
  have e1 : ((f ++ [e]).map fun e => W.fz (eE false e)) = (f.map fun e => W.fz (eE false e)) ++ [W.fz (eE false e)] := by rw [List.map_append]; rfl
  have e2 : iws (inc s k) = (iws s).set k (.fz (.int (((n : Nat) : Int) + 1))) := by
    unfold inc iws
    rw [List.map_set, List.getD_eq_getElem?_getD, h2]; rfl
  have hx : L2.ixN (iws s).length ((k : Nat) : Int) = some k := by
    unfold iws
    rw [List.length_map, ixN_pos (by omega) (by omega)]; rfl
  have hn : (iws s)[k]? = some (.fz (.int ((n : Nat) : Int))) := by unfold iws; rw [List.getElem?_map, h2]; rfl
  have ap := wv_app (A := A) (B := B) (F := f.map fun e => W.fz (eE false e)) i1 i2 i3 (by rw [List.length_map]; omega)
  have au := augS_ev (i := 2) (f := fun i j => i + j) (ci := cVar 3) (ce := cC (.int 1)) (ρ := NE A B S (some (.fz (.int ((k : Nat) : Int)))) (f ++ [e]) s) rfl rfl hx hn rfl
  unfold NE at au ⊢
  rw [e1] at au
  rw [e1, e2]
  exact seqN ap au
theorem wv_loop {A B : D} (hS : S.length ≤ 1000) : ∀ (w : List Nat) (s : List Nat) (f : Rw) (a : Option W), Sp S s → VW S s w → f.length + w.length ≤ 1000 → ∃ (a' : Option W) (s' : List Nat), forL (gSet 3) Lwoven_row_1 (nD w) (NE A B S a f s) = .ok (.nx, NE A B S a' (f ++ mk S s w) s')
  | [], s, f, a, _, _, _ => ⟨a, s, by rw [show mk S s [] = [] from rfl, List.append_nil]; rfl⟩
  | k :: w, s, f, a, hs, hv, hl => by
    obtain ⟨⟨e, he⟩, h2⟩ := hv
    rw [List.length_cons] at hl
    obtain ⟨a', s', ih⟩ := wv_loop (A := A) (B := B) hS w (inc s k) (f ++ [e]) (some (.fz (.int ((k : Nat) : Int)))) (inc_ok hs he).1 h2 (by rw [List.length_append, List.length_singleton]; omega)
    refine ⟨a', s', ?_⟩
    have : mk S s (k :: w) = e :: mk S (inc s k) w := by show (match evat S s k with | some e => e :: mk S (inc s k) w | none => []) = _; rw [he]
    rw [this]
    rw [List.append_assoc, List.singleton_append] at ih
    exact for_nx rfl (wv_body he (by omega) (by rw [hs.len]; exact hS)) ih
theorem wv1 {A B T : D} (tp : Ftupled 40 [.fz A] = .ok (.fz T, [.fz A])) : (cPar2 4 5 (cCons true (cCallP false (Ftupled 40) (cCons true (cVar 0) cNil)) (cCons true (cLst true cNil) cNil))) [some (.fz A), some (.fz B), none, none, none, none] = .ok (.nx, [some (.fz A), some (.fz B), none, none, some (.fz T), some (.lst [])]) := by
  generalize Ftupled 40 = F0 at *
  simp only [Bq,v_forc,v_lcc,pend,cont,take,frz,frzs,getP,setP,Res.of,boolOf,isPl,mutS,mutP,intOf,move,retOf,backs1,put1,fzT,ioOf,chk,early,shut,isTmp,flatB,scal,List.map_cons,List.map_nil,List.cons_append,List.nil_append,List.append_nil,List.replicate_succ,List.replicate_zero,List.replicate,List.length_cons,List.length_nil,List.getElem?_cons_zero,List.getElem?_cons_succ,List.set_cons_zero,List.set_cons_succ,List.all_cons,List.all_nil,List.contains_cons,List.contains_nil,List.elem_cons,List.elem_nil,List.isEmpty_nil,List.isEmpty_cons,Nat.reduceAdd,Nat.reduceSub,Nat.reduceBEq,Nat.reduceLT,Nat.reduceLeDiff,Nat.reduceEqDiff,decide_true,decide_false,Bool.and_true,Bool.true_and,Bool.or_true,Bool.true_or,Bool.or_false,Bool.false_or,Bool.and_false,Bool.false_and,Bool.not_true,Bool.not_false,Bool.false_eq_true,reduceIte,ite_true,ite_false,beq_self_eq_true,Nat.zero_add,reduceCtorEq,and_self,true_and,and_true,ge_iff_le,gt_iff_lt,Nat.succ_eq_add_one,Nat.add_one_sub_one,Nat.zero_lt_succ,Nat.lt_add_left_iff_pos,wipeE,restE,pick,List.filterMap_cons,List.filterMap_nil,Int.reduceLE,Int.reduceLT,Int.reduceNeg,decide_eq_true_eq,Bool.not_eq_true',decide_eq_false_iff_not,isT,seqV,tupV,lstV,Option.getD,tp]
theorem wv2 {A B SS : D} {N : Int} {I : List W} (ln : fLen [.fz SS] = .ok (.fz (.int N))) (mu : fMul (.lst [.fz (.int 0)]) (.fz (.int N)) = .ok (.lst I)) (mu2 : fMul (.fz (.lst [.int 0])) (.fz (.int N)) = .ok (.lst I)) : (cAsg (gSet 2) (cBin fMul true (cLst true (cCons true (cC (.int 0)) cNil)) (cCallB fLen (cCons true (cVar 4) cNil)))) [some (.fz A), some (.fz B), none, none, some (.fz SS), some (.lst [])] = .ok (.nx, [some (.fz A), some (.fz B), some (.lst I), none, some (.fz SS), some (.lst [])]) := by
  simp only [Bq,v_forc,v_lcc,pend,cont,take,frz,frzs,getP,setP,Res.of,boolOf,isPl,mutS,mutP,intOf,move,retOf,backs1,put1,fzT,ioOf,chk,early,shut,isTmp,flatB,scal,List.map_cons,List.map_nil,List.cons_append,List.nil_append,List.append_nil,List.replicate_succ,List.replicate_zero,List.replicate,List.length_cons,List.length_nil,List.getElem?_cons_zero,List.getElem?_cons_succ,List.set_cons_zero,List.set_cons_succ,List.all_cons,List.all_nil,List.contains_cons,List.contains_nil,List.elem_cons,List.elem_nil,List.isEmpty_nil,List.isEmpty_cons,Nat.reduceAdd,Nat.reduceSub,Nat.reduceBEq,Nat.reduceLT,Nat.reduceLeDiff,Nat.reduceEqDiff,decide_true,decide_false,Bool.and_true,Bool.true_and,Bool.or_true,Bool.true_or,Bool.or_false,Bool.false_or,Bool.and_false,Bool.false_and,Bool.not_true,Bool.not_false,Bool.false_eq_true,reduceIte,ite_true,ite_false,beq_self_eq_true,Nat.zero_add,reduceCtorEq,and_self,true_and,and_true,ge_iff_le,gt_iff_lt,Nat.succ_eq_add_one,Nat.add_one_sub_one,Nat.zero_lt_succ,Nat.lt_add_left_iff_pos,wipeE,restE,pick,List.filterMap_cons,List.filterMap_nil,Int.reduceLE,Int.reduceLT,Int.reduceNeg,decide_eq_true_eq,Bool.not_eq_true',decide_eq_false_iff_not,isT,seqV,tupV,lstV,Option.getD,ln,mu,mu2]
theorem wv3 {A B SS : D} {M : List D} {I : List W} {ρ : En} (sr : srcV (.fz B) = some M) (hl2 : M.length ≤ 1000000) (e : forL (gSet 3) Lwoven_row_1 M [some (.fz A), some (.fz B), some (.lst I), none, some (.fz SS), some (.lst [])] = .ok (.nx, ρ)) : (cFor (iSeq (cVar 1)) (gSet 3) Lwoven_row_1) [some (.fz A), some (.fz B), some (.lst I), none, some (.fz SS), some (.lst [])] = .ok (.nx, ρ) := by
  generalize Lwoven_row_1 = L1 at *
  simp only [Bq,v_lcc,pend,cont,take,frz,frzs,getP,setP,Res.of,boolOf,isPl,mutS,mutP,intOf,move,retOf,backs1,put1,fzT,ioOf,chk,early,shut,isTmp,flatB,scal,List.map_cons,List.map_nil,List.cons_append,List.nil_append,List.append_nil,List.replicate_succ,List.replicate_zero,List.replicate,List.length_cons,List.length_nil,List.getElem?_cons_zero,List.getElem?_cons_succ,List.set_cons_zero,List.set_cons_succ,List.all_cons,List.all_nil,List.contains_cons,List.contains_nil,List.elem_cons,List.elem_nil,List.isEmpty_nil,List.isEmpty_cons,Nat.reduceAdd,Nat.reduceSub,Nat.reduceBEq,Nat.reduceLT,Nat.reduceLeDiff,Nat.reduceEqDiff,decide_true,decide_false,Bool.and_true,Bool.true_and,Bool.or_true,Bool.true_or,Bool.or_false,Bool.false_or,Bool.and_false,Bool.false_and,Bool.not_true,Bool.not_false,Bool.false_eq_true,reduceIte,ite_true,ite_false,beq_self_eq_true,Nat.zero_add,reduceCtorEq,and_self,true_and,and_true,ge_iff_le,gt_iff_lt,Nat.succ_eq_add_one,Nat.add_one_sub_one,Nat.zero_lt_succ,Nat.lt_add_left_iff_pos,wipeE,restE,pick,List.filterMap_cons,List.filterMap_nil,Int.reduceLE,Int.reduceLT,Int.reduceNeg,decide_eq_true_eq,Bool.not_eq_true',decide_eq_false_iff_not,isT,seqV,tupV,lstV,Option.getD,sr,hl2,e]
theorem wv4 {A B SS R : D} {F I : List W} {a : Option W} (tp : fTuple [.lst F] = .ok (.fz R)) : (cRet (cCallB fTuple (cCons true (cVar 5) cNil))) [some (.fz A), some (.fz B), some (.lst I), a, some (.fz SS), some (.lst F)] = .ok (.ret (.fz R), [some (.fz A), some (.fz B), some (.lst I), a, some (.fz SS), some (.lst F)]) := by
  simp only [Bq,v_forc,v_lcc,pend,cont,take,frz,frzs,getP,setP,Res.of,boolOf,isPl,mutS,mutP,intOf,move,retOf,backs1,put1,fzT,ioOf,chk,early,shut,isTmp,flatB,scal,List.map_cons,List.map_nil,List.cons_append,List.nil_append,List.append_nil,List.replicate_succ,List.replicate_zero,List.replicate,List.length_cons,List.length_nil,List.getElem?_cons_zero,List.getElem?_cons_succ,List.set_cons_zero,List.set_cons_succ,List.all_cons,List.all_nil,List.contains_cons,List.contains_nil,List.elem_cons,List.elem_nil,List.isEmpty_nil,List.isEmpty_cons,Nat.reduceAdd,Nat.reduceSub,Nat.reduceBEq,Nat.reduceLT,Nat.reduceLeDiff,Nat.reduceEqDiff,decide_true,decide_false,Bool.and_true,Bool.true_and,Bool.or_true,Bool.true_or,Bool.or_false,Bool.false_or,Bool.and_false,Bool.false_and,Bool.not_true,Bool.not_false,Bool.false_eq_true,reduceIte,ite_true,ite_false,beq_self_eq_true,Nat.zero_add,reduceCtorEq,and_self,true_and,and_true,ge_iff_le,gt_iff_lt,Nat.succ_eq_add_one,Nat.add_one_sub_one,Nat.zero_lt_succ,Nat.lt_add_left_iff_pos,wipeE,restE,pick,List.filterMap_cons,List.filterMap_nil,Int.reduceLE,Int.reduceLT,Int.reduceNeg,decide_eq_true_eq,Bool.not_eq_true',decide_eq_false_iff_not,isT,seqV,tupV,lstV,Option.getD,tp]
theorem woven_ok {k : Bool} {B : D} {w : List Nat} (h0 : S ≠ []) (hS : smS S) (hv : VW S (z0 S) w) (hl : w.length ≤ 1000) (sr : srcV (.fz B) = some (nD w)) : Fwoven_row [.fz (sD k S), .fz B] = .ok (.fz (eR false (mk S (z0 S) w)), [.fz (sD k S), .fz B]) := by
  obtain ⟨a', s', e⟩ := wv_loop (A := sD k S) (B := B) hS.1 w (z0 S) [] none (zero_sp S) hv (by simpa using hl)
  rw [List.nil_append] at e
  have ln := zero_k (k := false) h0 hS.1
  have mu := mul0 hS.1
  have mu2 : fMul (.fz (.lst [.int 0])) (.fz (.int ((S.length : Nat) : Int))) = .ok (.lst (iws (z0 S))) := mu
  have hl2 : (nD w).length ≤ 1000000 := by rw [nD_len]; omega
  exact run2 (n := 4) (seqN (wv1 (tupled_ok hS)) (seqN (wv2 ln mu mu2) (seqN (wv3 sr hl2 e) (wv4 (tp_row _)))))
end
end Gn
namespace Gn
open Mi PySem
theorem ifT {T : CT} {A B : CS} {ρ ρ1 : En} (h : T ρ = .ok (true, ρ1)) : cIfS T A B ρ = A ρ1 := by
  show (T ρ).bind (fun (k, ρ1) => if k = true then A ρ1 else B ρ1) = _
  rw [h]; rfl
theorem ifF {T : CT} {A B : CS} {ρ ρ1 : En} (h : T ρ = .ok (false, ρ1)) : cIfS T A B ρ = B ρ1 := by
  show (T ρ).bind (fun (k, ρ1) => if k = true then A ρ1 else B ρ1) = _
  rw [h]; rfl
theorem tq {a b c e f : Option W} {r n : Int} : cTest (cBin fEq true (cVar 3) (cC (.int n))) [a, b, c, some (.fz (.int r)), e, f] = .ok (decide (r = n), [a, b, c, some (.fz (.int r)), e, f]) := by
  simp only [Bq,v_forc,v_lcc,pend,cont,take,frz,frzs,getP,setP,Res.of,boolOf,isPl,mutS,mutP,intOf,move,retOf,backs1,put1,fzT,ioOf,chk,early,shut,isTmp,flatB,scal,List.map_cons,List.map_nil,List.cons_append,List.nil_append,List.append_nil,List.replicate_succ,List.replicate_zero,List.replicate,List.length_cons,List.length_nil,List.getElem?_cons_zero,List.getElem?_cons_succ,List.set_cons_zero,List.set_cons_succ,List.all_cons,List.all_nil,List.contains_cons,List.contains_nil,List.elem_cons,List.elem_nil,List.isEmpty_nil,List.isEmpty_cons,Nat.reduceAdd,Nat.reduceSub,Nat.reduceBEq,Nat.reduceLT,Nat.reduceLeDiff,Nat.reduceEqDiff,decide_true,decide_false,Bool.and_true,Bool.true_and,Bool.or_true,Bool.true_or,Bool.or_false,Bool.false_or,Bool.and_false,Bool.false_and,Bool.not_true,Bool.not_false,Bool.false_eq_true,reduceIte,ite_true,ite_false,beq_self_eq_true,Nat.zero_add,reduceCtorEq,and_self,true_and,and_true,ge_iff_le,gt_iff_lt,Nat.succ_eq_add_one,Nat.add_one_sub_one,Nat.zero_lt_succ,Nat.lt_add_left_iff_pos,wipeE,restE,pick,List.filterMap_cons,List.filterMap_nil,Int.reduceLE,Int.reduceLT,Int.reduceNeg,decide_eq_true_eq,Bool.not_eq_true',decide_eq_false_iff_not,isT,seqV,tupV,lstV,Option.getD]
theorem sl_nw {q : List Nat} {lo hi : Option Int} : fSl (.lst (nw q)) lo hi = .ok (.lst ((cutD (nD q) lo hi).map W.fz)) := by
  show (match lsV (.lst (nw q)) with | some ds => Res.ok (W.lst ((cutD ds lo hi).map W.fz)) | none => .err) = _
  rw [show lsV (.lst (nw q)) = some (nD q) from unfz_nw q]
theorem rev_nw {q : List Nat} : fRev (.lst (nw q)) = .ok (.lst ((nD q).reverse.map W.fz)) := by
  show (match lsV (.lst (nw q)) with | some ds => Res.ok (W.lst (ds.reverse.map W.fz)) | none => .err) = _
  rw [show lsV (.lst (nw q)) = some (nD q) from unfz_nw q]
theorem cut_mem {ds : List D} {lo hi : Option Int} {d : D} (h : d ∈ cutD ds lo hi) : d ∈ ds := List.mem_of_mem_drop (List.mem_of_mem_take h)
theorem cut_len {ds : List D} {lo hi : Option Int} : (cutD ds lo hi).length ≤ ds.length := by
  unfold cutD
  rw [List.length_take, List.length_drop]; omega
theorem add_fz {a b : List D} (h : a.length + b.length ≤ 100000) : fAdd (.fz (.lst a)) (.fz (.lst b)) = .ok (.lst ((a ++ b).map W.fz)) := by
  show (if a.length + b.length ≤ 16777216 then Res.ok (W.lst ((a ++ b).map W.fz)) else .err) = _
  rw [if_pos (by omega)]
theorem frz_mp (l : List D) : frzs (l.map W.fz) = l := by
  induction l with
  | nil => rfl
  | cons d l ih => show d :: frzs (l.map W.fz) = _; rw [ih]
section
variable {T : D} {β β1 : Bx} {r t n : Int} {Q QA QB AD RR : List W} {A B ADD : List D} {d : D} {a5 : Option W}
theorem b1 (e : F_law_take [bx β, .fz (.int 8)] = .ok (.fz (.int r), [bx β1, .fz (.int 8)])) (hX : unkD T = T) (ls : fList [.fz T] = .ok (.lst Q)) : (cPar2 3 4 (cCons true (cCallIO F_law_take (ioOf [0]) (cCons true (cVar 0) (cCons true (cC (.int 8)) cNil))) (cCons true (cCallB fList (cCons true (cUnk (cVar 1)) cNil)) cNil))) [some (bx β), some (.fz T), none, none, none, none] = .ok (.nx, [some (bx β1), some (.fz T), none, some (.fz (.int r)), some (.lst Q), none]) := by
  have k := fun (a : Option W) (ρ : En) => uk hX (a := a) (ρ := ρ)
  simp only [Bq,v_forc,v_lcc,pend,cont,take,frz,frzs,getP,setP,Res.of,boolOf,isPl,mutS,mutP,intOf,move,retOf,backs1,put1,fzT,ioOf,chk,early,shut,isTmp,flatB,scal,List.map_cons,List.map_nil,List.cons_append,List.nil_append,List.append_nil,List.replicate_succ,List.replicate_zero,List.replicate,List.length_cons,List.length_nil,List.getElem?_cons_zero,List.getElem?_cons_succ,List.set_cons_zero,List.set_cons_succ,List.all_cons,List.all_nil,List.contains_cons,List.contains_nil,List.elem_cons,List.elem_nil,List.isEmpty_nil,List.isEmpty_cons,Nat.reduceAdd,Nat.reduceSub,Nat.reduceBEq,Nat.reduceLT,Nat.reduceLeDiff,Nat.reduceEqDiff,decide_true,decide_false,Bool.and_true,Bool.true_and,Bool.or_true,Bool.true_or,Bool.or_false,Bool.false_or,Bool.and_false,Bool.false_and,Bool.not_true,Bool.not_false,Bool.false_eq_true,reduceIte,ite_true,ite_false,beq_self_eq_true,Nat.zero_add,reduceCtorEq,and_self,true_and,and_true,ge_iff_le,gt_iff_lt,Nat.succ_eq_add_one,Nat.add_one_sub_one,Nat.zero_lt_succ,Nat.lt_add_left_iff_pos,wipeE,restE,pick,List.filterMap_cons,List.filterMap_nil,Int.reduceLE,Int.reduceLT,Int.reduceNeg,decide_eq_true_eq,Bool.not_eq_true',decide_eq_false_iff_not,isT,seqV,tupV,lstV,Option.getD,e,k,ls]
theorem b2 (ln : fLen [.lst Q] = .ok (.fz (.int n))) (e : F_law_take [bx β, .fz (.int (n + 1))] = .ok (.fz (.int t), [bx β1, .fz (.int (n + 1))])) : (cAsg (gSet 2) (cCallIO F_law_take (ioOf [0]) (cCons true (cVar 0) (cCons true (cBin fAdd true (cCallB fLen (cCons true (cVar 4) cNil)) (cC (.int 1))) cNil)))) [some (bx β), some (.fz T), none, some (.fz (.int r)), some (.lst Q), none] = .ok (.nx, [some (bx β1), some (.fz T), some (.fz (.int t)), some (.fz (.int r)), some (.lst Q), none]) := by
  simp only [Bq,v_forc,v_lcc,pend,cont,take,frz,frzs,getP,setP,Res.of,boolOf,isPl,mutS,mutP,intOf,move,retOf,backs1,put1,fzT,ioOf,chk,early,shut,isTmp,flatB,scal,List.map_cons,List.map_nil,List.cons_append,List.nil_append,List.append_nil,List.replicate_succ,List.replicate_zero,List.replicate,List.length_cons,List.length_nil,List.getElem?_cons_zero,List.getElem?_cons_succ,List.set_cons_zero,List.set_cons_succ,List.all_cons,List.all_nil,List.contains_cons,List.contains_nil,List.elem_cons,List.elem_nil,List.isEmpty_nil,List.isEmpty_cons,Nat.reduceAdd,Nat.reduceSub,Nat.reduceBEq,Nat.reduceLT,Nat.reduceLeDiff,Nat.reduceEqDiff,decide_true,decide_false,Bool.and_true,Bool.true_and,Bool.or_true,Bool.true_or,Bool.or_false,Bool.false_or,Bool.and_false,Bool.false_and,Bool.not_true,Bool.not_false,Bool.false_eq_true,reduceIte,ite_true,ite_false,beq_self_eq_true,Nat.zero_add,reduceCtorEq,and_self,true_and,and_true,ge_iff_le,gt_iff_lt,Nat.succ_eq_add_one,Nat.add_one_sub_one,Nat.zero_lt_succ,Nat.lt_add_left_iff_pos,wipeE,restE,pick,List.filterMap_cons,List.filterMap_nil,Int.reduceLE,Int.reduceLT,Int.reduceNeg,decide_eq_true_eq,Bool.not_eq_true',decide_eq_false_iff_not,isT,seqV,tupV,lstV,Option.getD,e,ln]
theorem y0 (s1 : fSl (.lst Q) none (some t) = .ok (.lst QA)) (f1 : frzs QA = A) (o : F_law_of [bx β, .fz (.lst [.int 0, .int 1, .int 2, .int 3, .int (-1), .bl true, .non, .str "0"])] = .ok (.fz d, [bx β1, .fz (.lst [.int 0, .int 1, .int 2, .int 3, .int (-1), .bl true, .non, .str "0"])]))
    (ad : fAdd (.fz (.lst A)) (.fz (.lst [d])) = .ok (.lst AD)) (f2 : frzs AD = ADD) (s2 : fSl (.lst Q) (some t) none = .ok (.lst QB)) (f3 : frzs QB = B) (ad2 : fAdd (.fz (.lst ADD)) (.fz (.lst B)) = .ok (.lst RR)) :
    (cAsg (gSet 4) (cBin fAdd true (cBin fAdd false (cSl fSl true (cVar 4) oNone (oSome (cVar 2))) (cLst true (cCons true (cCallIO F_law_of (ioOf [0]) (cCons true (cVar 0) (cCons true (cLst true (cCons true (cC (.int 0)) (cCons true (cC (.int 1)) (cCons true (cC (.int 2)) (cCons true (cC (.int 3)) (cCons true (cUn fNeg (cC (.int 1))) (cCons true (cC (.bl true)) (cCons true (cC .non) (cCons true (cC (.str "0")) cNil))))))))) cNil))) cNil))) (cSl fSl true (cVar 4) (oSome (cVar 2)) oNone))) [some (bx β), some (.fz T), some (.fz (.int t)), some (.fz (.int r)), some (.lst Q), none] = .ok (.nx, [some (bx β1), some (.fz T), some (.fz (.int t)), some (.fz (.int r)), some (.lst RR), none]) := by
  simp only [Bq,v_forc,v_lcc,pend,cont,take,frz,frzs,getP,setP,Res.of,boolOf,isPl,mutS,mutP,intOf,move,retOf,backs1,put1,fzT,ioOf,chk,early,shut,isTmp,flatB,scal,List.map_cons,List.map_nil,List.cons_append,List.nil_append,List.append_nil,List.replicate_succ,List.replicate_zero,List.replicate,List.length_cons,List.length_nil,List.getElem?_cons_zero,List.getElem?_cons_succ,List.set_cons_zero,List.set_cons_succ,List.all_cons,List.all_nil,List.contains_cons,List.contains_nil,List.elem_cons,List.elem_nil,List.isEmpty_nil,List.isEmpty_cons,Nat.reduceAdd,Nat.reduceSub,Nat.reduceBEq,Nat.reduceLT,Nat.reduceLeDiff,Nat.reduceEqDiff,decide_true,decide_false,Bool.and_true,Bool.true_and,Bool.or_true,Bool.true_or,Bool.or_false,Bool.false_or,Bool.and_false,Bool.false_and,Bool.not_true,Bool.not_false,Bool.false_eq_true,reduceIte,ite_true,ite_false,beq_self_eq_true,Nat.zero_add,reduceCtorEq,and_self,true_and,and_true,ge_iff_le,gt_iff_lt,Nat.succ_eq_add_one,Nat.add_one_sub_one,Nat.zero_lt_succ,Nat.lt_add_left_iff_pos,wipeE,restE,pick,List.filterMap_cons,List.filterMap_nil,Int.reduceLE,Int.reduceLT,Int.reduceNeg,decide_eq_true_eq,Bool.not_eq_true',decide_eq_false_iff_not,isT,seqV,tupV,lstV,Option.getD,s1,f1,o,ad,f2,s2,f3,ad2]
theorem y1 (s1 : fSl (.lst Q) none (some t) = .ok (.lst QA)) (f1 : frzs QA = A) (s2 : fSl (.lst Q) (some (t + 1)) none = .ok (.lst QB)) (f3 : frzs QB = B) (ad2 : fAdd (.fz (.lst A)) (.fz (.lst B)) = .ok (.lst RR)) :
    (cAsg (gSet 4) (cBin fAdd true (cSl fSl true (cVar 4) oNone (oSome (cVar 2))) (cSl fSl true (cVar 4) (oSome (cBin fAdd true (cVar 2) (cC (.int 1)))) oNone))) [some (bx β), some (.fz T), some (.fz (.int t)), some (.fz (.int r)), some (.lst Q), none] = .ok (.nx, [some (bx β), some (.fz T), some (.fz (.int t)), some (.fz (.int r)), some (.lst RR), none]) := by
  simp only [Bq,v_forc,v_lcc,pend,cont,take,frz,frzs,getP,setP,Res.of,boolOf,isPl,mutS,mutP,intOf,move,retOf,backs1,put1,fzT,ioOf,chk,early,shut,isTmp,flatB,scal,List.map_cons,List.map_nil,List.cons_append,List.nil_append,List.append_nil,List.replicate_succ,List.replicate_zero,List.replicate,List.length_cons,List.length_nil,List.getElem?_cons_zero,List.getElem?_cons_succ,List.set_cons_zero,List.set_cons_succ,List.all_cons,List.all_nil,List.contains_cons,List.contains_nil,List.elem_cons,List.elem_nil,List.isEmpty_nil,List.isEmpty_cons,Nat.reduceAdd,Nat.reduceSub,Nat.reduceBEq,Nat.reduceLT,Nat.reduceLeDiff,Nat.reduceEqDiff,decide_true,decide_false,Bool.and_true,Bool.true_and,Bool.or_true,Bool.true_or,Bool.or_false,Bool.false_or,Bool.and_false,Bool.false_and,Bool.not_true,Bool.not_false,Bool.false_eq_true,reduceIte,ite_true,ite_false,beq_self_eq_true,Nat.zero_add,reduceCtorEq,and_self,true_and,and_true,ge_iff_le,gt_iff_lt,Nat.succ_eq_add_one,Nat.add_one_sub_one,Nat.zero_lt_succ,Nat.lt_add_left_iff_pos,wipeE,restE,pick,List.filterMap_cons,List.filterMap_nil,Int.reduceLE,Int.reduceLT,Int.reduceNeg,decide_eq_true_eq,Bool.not_eq_true',decide_eq_false_iff_not,isT,seqV,tupV,lstV,Option.getD,s1,f1,s2,f3,ad2]
theorem y2 (s1 : fSl (.lst Q) none (some t) = .ok (.lst QA)) (f1 : frzs QA = A) (o : F_law_of [bx β, .fz (.lst [.int 0, .int 1, .int 2, .bl false])] = .ok (.fz d, [bx β1, .fz (.lst [.int 0, .int 1, .int 2, .bl false])]))
    (ad : fAdd (.fz (.lst A)) (.fz (.lst [d])) = .ok (.lst AD)) (f2 : frzs AD = ADD) (s2 : fSl (.lst Q) (some (t + 1)) none = .ok (.lst QB)) (f3 : frzs QB = B) (ad2 : fAdd (.fz (.lst ADD)) (.fz (.lst B)) = .ok (.lst RR)) :
    (cAsg (gSet 4) (cBin fAdd true (cBin fAdd false (cSl fSl true (cVar 4) oNone (oSome (cVar 2))) (cLst true (cCons true (cCallIO F_law_of (ioOf [0]) (cCons true (cVar 0) (cCons true (cLst true (cCons true (cC (.int 0)) (cCons true (cC (.int 1)) (cCons true (cC (.int 2)) (cCons true (cC (.bl false)) cNil))))) cNil))) cNil))) (cSl fSl true (cVar 4) (oSome (cBin fAdd true (cVar 2) (cC (.int 1)))) oNone))) [some (bx β), some (.fz T), some (.fz (.int t)), some (.fz (.int r)), some (.lst Q), none] = .ok (.nx, [some (bx β1), some (.fz T), some (.fz (.int t)), some (.fz (.int r)), some (.lst RR), none]) := by
  simp only [Bq,v_forc,v_lcc,pend,cont,take,frz,frzs,getP,setP,Res.of,boolOf,isPl,mutS,mutP,intOf,move,retOf,backs1,put1,fzT,ioOf,chk,early,shut,isTmp,flatB,scal,List.map_cons,List.map_nil,List.cons_append,List.nil_append,List.append_nil,List.replicate_succ,List.replicate_zero,List.replicate,List.length_cons,List.length_nil,List.getElem?_cons_zero,List.getElem?_cons_succ,List.set_cons_zero,List.set_cons_succ,List.all_cons,List.all_nil,List.contains_cons,List.contains_nil,List.elem_cons,List.elem_nil,List.isEmpty_nil,List.isEmpty_cons,Nat.reduceAdd,Nat.reduceSub,Nat.reduceBEq,Nat.reduceLT,Nat.reduceLeDiff,Nat.reduceEqDiff,decide_true,decide_false,Bool.and_true,Bool.true_and,Bool.or_true,Bool.true_or,Bool.or_false,Bool.false_or,Bool.and_false,Bool.false_and,Bool.not_true,Bool.not_false,Bool.false_eq_true,reduceIte,ite_true,ite_false,beq_self_eq_true,Nat.zero_add,reduceCtorEq,and_self,true_and,and_true,ge_iff_le,gt_iff_lt,Nat.succ_eq_add_one,Nat.add_one_sub_one,Nat.zero_lt_succ,Nat.lt_add_left_iff_pos,wipeE,restE,pick,List.filterMap_cons,List.filterMap_nil,Int.reduceLE,Int.reduceLT,Int.reduceNeg,decide_eq_true_eq,Bool.not_eq_true',decide_eq_false_iff_not,isT,seqV,tupV,lstV,Option.getD,s1,f1,o,ad,f2,s2,f3,ad2]
theorem y3 (s1 : fRev (.lst Q) = .ok (.lst RR)) :
    (cAsg (gSet 4) (cUn fRev (cVar 4))) [some (bx β), some (.fz T), some (.fz (.int t)), some (.fz (.int r)), some (.lst Q), none] = .ok (.nx, [some (bx β), some (.fz T), some (.fz (.int t)), some (.fz (.int r)), some (.lst RR), none]) := by
  simp only [Bq,v_forc,v_lcc,pend,cont,take,frz,frzs,getP,setP,Res.of,boolOf,isPl,mutS,mutP,intOf,move,retOf,backs1,put1,fzT,ioOf,chk,early,shut,isTmp,flatB,scal,List.map_cons,List.map_nil,List.cons_append,List.nil_append,List.append_nil,List.replicate_succ,List.replicate_zero,List.replicate,List.length_cons,List.length_nil,List.getElem?_cons_zero,List.getElem?_cons_succ,List.set_cons_zero,List.set_cons_succ,List.all_cons,List.all_nil,List.contains_cons,List.contains_nil,List.elem_cons,List.elem_nil,List.isEmpty_nil,List.isEmpty_cons,Nat.reduceAdd,Nat.reduceSub,Nat.reduceBEq,Nat.reduceLT,Nat.reduceLeDiff,Nat.reduceEqDiff,decide_true,decide_false,Bool.and_true,Bool.true_and,Bool.or_true,Bool.true_or,Bool.or_false,Bool.false_or,Bool.and_false,Bool.false_and,Bool.not_true,Bool.not_false,Bool.false_eq_true,reduceIte,ite_true,ite_false,beq_self_eq_true,Nat.zero_add,reduceCtorEq,and_self,true_and,and_true,ge_iff_le,gt_iff_lt,Nat.succ_eq_add_one,Nat.add_one_sub_one,Nat.zero_lt_succ,Nat.lt_add_left_iff_pos,wipeE,restE,pick,List.filterMap_cons,List.filterMap_nil,Int.reduceLE,Int.reduceLT,Int.reduceNeg,decide_eq_true_eq,Bool.not_eq_true',decide_eq_false_iff_not,isT,seqV,tupV,lstV,Option.getD,s1]
theorem y4 {SW : List W} {SL QD : List D} {s : Str} (hX : unkD T = T) (fq : frzs Q = QD) (z : QD.length ≤ 1000000) (lc : lcL [5] (gSet 5) cYes E_law_bent_1 QD [some (bx β), some (.fz T), some (.fz (.int t)), some (.fz (.int r)), some (.fz (.lst QD)), none] = .ok (SW, [some (bx β), some (.fz T), some (.fz (.int t)), some (.fz (.int r)), some (.fz (.lst QD)), none])) (z2 : SW.length ≤ 1000000) (fs : frzs SW = SL) (j : joinV "" (.fz (.lst SL)) = .ok (.fz (.str s)))
    (o : F_law_of [bx β, .fz (.lst [.lst QD, .non, .int 0, .str "", .tup [T], .str s])] = .ok (.fz d, [bx β1, .fz (.lst [.lst QD, .non, .int 0, .str "", .tup [T], .str s])])) :
    ∃ b4 : Option W, (cRet (cCallIO F_law_of (ioOf [0]) (cCons false (cVar 0) (cCons true (cLst false (cCons false (cVar 4) (cCons false (cC .non) (cCons false (cC (.int 0)) (cCons false (cC (.str "")) (cCons false (cTup false (cCons true (cUnk (cVar 1)) cNil)) (cCons true (cJoin (cC (.str "")) (cLc [5] (iSeq (cVar 4)) (gSet 5) cYes E_law_bent_1)) cNil))))))) cNil)))) [some (bx β), some (.fz T), some (.fz (.int t)), some (.fz (.int r)), some (.lst Q), none] = .ok (.ret (.fz d), [some (bx β1), some (.fz T), some (.fz (.int t)), some (.fz (.int r)), b4, none]) := by
  have k := fun (a : Option W) (ρ : En) => uk hX (a := a) (ρ := ρ)
  generalize E_law_bent_1 = E1 at *
  refine ⟨some (.fz (.lst QD)), ?_⟩
  simp only [Bq,v_forc,pend,cont,take,frz,frzs,getP,setP,Res.of,boolOf,isPl,mutS,mutP,intOf,move,retOf,backs1,put1,fzT,ioOf,chk,early,shut,isTmp,flatB,scal,List.map_cons,List.map_nil,List.cons_append,List.nil_append,List.append_nil,List.replicate_succ,List.replicate_zero,List.replicate,List.length_cons,List.length_nil,List.getElem?_cons_zero,List.getElem?_cons_succ,List.set_cons_zero,List.set_cons_succ,List.all_cons,List.all_nil,List.contains_cons,List.contains_nil,List.elem_cons,List.elem_nil,List.isEmpty_nil,List.isEmpty_cons,Nat.reduceAdd,Nat.reduceSub,Nat.reduceBEq,Nat.reduceLT,Nat.reduceLeDiff,Nat.reduceEqDiff,decide_true,decide_false,Bool.and_true,Bool.true_and,Bool.or_true,Bool.true_or,Bool.or_false,Bool.false_or,Bool.and_false,Bool.false_and,Bool.not_true,Bool.not_false,Bool.false_eq_true,reduceIte,ite_true,ite_false,beq_self_eq_true,Nat.zero_add,reduceCtorEq,and_self,true_and,and_true,ge_iff_le,gt_iff_lt,Nat.succ_eq_add_one,Nat.add_one_sub_one,Nat.zero_lt_succ,Nat.lt_add_left_iff_pos,wipeE,restE,pick,List.filterMap_cons,List.filterMap_nil,Int.reduceLE,Int.reduceLT,Int.reduceNeg,decide_eq_true_eq,Bool.not_eq_true',decide_eq_false_iff_not,isT,seqV,tupV,lstV,Option.getD,cJoin,strOf,k,fq,z,z2,lc,fs,j,o]
theorem b4 (tp : fTupleN [.lst RR] = .ok (.fz (.tpn A))) {a2 a3 : Option W} : (cRet (cCallB fTupleN (cCons true (cVar 4) cNil))) [some (bx β), some (.fz T), a2, a3, some (.lst RR), a5] = .ok (.ret (.fz (.tpn A)), [some (bx β), some (.fz T), a2, a3, some (.lst RR), a5]) := by
  simp only [Bq,v_forc,v_lcc,pend,cont,take,frz,frzs,getP,setP,Res.of,boolOf,isPl,mutS,mutP,intOf,move,retOf,backs1,put1,fzT,ioOf,chk,early,shut,isTmp,flatB,scal,List.map_cons,List.map_nil,List.cons_append,List.nil_append,List.append_nil,List.replicate_succ,List.replicate_zero,List.replicate,List.length_cons,List.length_nil,List.getElem?_cons_zero,List.getElem?_cons_succ,List.set_cons_zero,List.set_cons_succ,List.all_cons,List.all_nil,List.contains_cons,List.contains_nil,List.elem_cons,List.elem_nil,List.isEmpty_nil,List.isEmpty_cons,Nat.reduceAdd,Nat.reduceSub,Nat.reduceBEq,Nat.reduceLT,Nat.reduceLeDiff,Nat.reduceEqDiff,decide_true,decide_false,Bool.and_true,Bool.true_and,Bool.or_true,Bool.true_or,Bool.or_false,Bool.false_or,Bool.and_false,Bool.false_and,Bool.not_true,Bool.not_false,Bool.false_eq_true,reduceIte,ite_true,ite_false,beq_self_eq_true,Nat.zero_add,reduceCtorEq,and_self,true_and,and_true,ge_iff_le,gt_iff_lt,Nat.succ_eq_add_one,Nat.add_one_sub_one,Nat.zero_lt_succ,Nat.lt_add_left_iff_pos,wipeE,restE,pick,List.filterMap_cons,List.filterMap_nil,Int.reduceLE,Int.reduceLT,Int.reduceNeg,decide_eq_true_eq,Bool.not_eq_true',decide_eq_false_iff_not,isT,seqV,tupV,lstV,Option.getD,tp]
end
end Gn
namespace Gn
open Mi PySem
theorem tqT {a b c e f : Option W} {n : Int} : cTest (cBin fEq true (cVar 3) (cC (.int n))) [a, b, c, some (.fz (.int n)), e, f] = .ok (true, [a, b, c, some (.fz (.int n)), e, f]) := by
  rw [tq, decide_eq_true rfl]
theorem tqF {a b c e f : Option W} {r n : Int} (h : r ≠ n) : cTest (cBin fEq true (cVar 3) (cC (.int n))) [a, b, c, some (.fz (.int r)), e, f] = .ok (false, [a, b, c, some (.fz (.int r)), e, f]) := by
  rw [tq, decide_eq_false h]
def MatX (X : D) : Prop := (∃ ds, unkD X = .tup ds ∧ (X = .tpn ds ∨ intsD ds = none) ∧ ds.length ≤ 900 ∧ ∀ d ∈ ds, okF d) ∨ (unkD X = X ∧ fIsi ["tuple"] (.fz X) = .ok (.fz (.bl false)))
theorem MatX.tp {ds : List D} (h : ds.length ≤ 900) (h2 : ∀ d ∈ ds, okF d) : MatX (.tpn ds) := .inl ⟨ds, rfl, .inl rfl, h, h2⟩
theorem okF_n {q : List Nat} : ∀ d ∈ nD q, okF d := fun d hd => by obtain ⟨j, _, rfl⟩ := List.mem_map.mp hd; exact .inl ⟨_, rfl⟩
theorem runB {β β' : Bx} {T X : D} {x2 x3 x4 x5 : Option W} (h : m_law_bent [some (bx β), some (.fz T), none, none, none, none] = .ok (.ret (.fz X), [some (bx β'), some (.fz T), x2, x3, x4, x5])) : F_law_bent [bx β, .fz T] = .ok (.fz X, [bx β', .fz T]) := by
  have h2 : m_law_bent ([bx β, .fz T].map some ++ List.replicate (6 - 2) none) = .ok (.ret (.fz X), [some (bx β'), some (.fz T), x2, x3, x4, x5]) := h
  unfold F_law_bent
  rw [v_def, show chk (([bx β, W.fz T] : List W).length == 2) = .ok () from rfl, v_ok, v_def1, h2, v_ok, v_def2]
  rfl
theorem tpN {A : List D} : fTupleN [.lst (A.map W.fz)] = .ok (.fz (.tpn A)) := by
  show (match lsV (.lst (A.map W.fz)) with | some ds => Res.ok (W.fz (.tpn ds)) | none => .err) = _
  rw [show lsV (.lst (A.map W.fz)) = some A from unfz_fz A]
theorem str_lc {A B C E F : Option W} : ∀ q : List Nat, (∀ k ∈ q, k < 3) → lcL [5] (gSet 5) cYes E_law_bent_1 (nD q) [A, B, C, E, F, none] = .ok (q.map fun k : Nat => W.fz (.str (toString (k : Int))), [A, B, C, E, F, none])
  | [], _ => rfl
  | k :: q, h => by
    have ih := str_lc (A := A) (B := B) (C := C) (E := E) (F := F) q fun x hx => h x (by simp [hx])
    have hk := h k (by simp)
    have lg : ((k : Nat) : Int).natAbs.log2 < 1920 := by
      have : k = 0 ∨ k = 1 ∨ k = 2 := by omega
      rcases this with rfl | rfl | rfl <;> decide +kernel
    have st : fStr [.fz (.int (k : Int))] = .ok (.fz (.str (toString (k : Int)))) := by
      show (if ((k : Nat) : Int).natAbs.log2 < 1920 then Res.ok (W.fz (.str (toString ((k : Nat) : Int)))) else .err) = _
      rw [if_pos lg]
    have e : ((k :: q).map fun k : Nat => W.fz (.str (toString (k : Int)))) = W.fz (.str (toString (k : Int))) :: q.map fun k : Nat => W.fz (.str (toString (k : Int))) := rfl
    have e2 : nD (k :: q) = D.int (k : Int) :: nD q := rfl
    rw [e, e2]
    generalize (q.map fun k : Nat => W.fz (.str (toString (k : Int)))) = Z at *
    generalize nD q = NL at *
    generalize D.str (toString ((k : Nat) : Int)) = s at *
    generalize (k : Int) = K at *
    simp only [Bq,E_law_bent_1,v_forc,v_lcc,pend,cont,take,frz,frzs,getP,setP,Res.of,boolOf,isPl,mutS,mutP,intOf,move,retOf,backs1,put1,fzT,ioOf,chk,early,shut,isTmp,flatB,scal,List.map_cons,List.map_nil,List.cons_append,List.nil_append,List.append_nil,List.replicate_succ,List.replicate_zero,List.replicate,List.length_cons,List.length_nil,List.getElem?_cons_zero,List.getElem?_cons_succ,List.set_cons_zero,List.set_cons_succ,List.all_cons,List.all_nil,List.contains_cons,List.contains_nil,List.elem_cons,List.elem_nil,List.isEmpty_nil,List.isEmpty_cons,Nat.reduceAdd,Nat.reduceSub,Nat.reduceBEq,Nat.reduceLT,Nat.reduceLeDiff,Nat.reduceEqDiff,decide_true,decide_false,Bool.and_true,Bool.true_and,Bool.or_true,Bool.true_or,Bool.or_false,Bool.false_or,Bool.and_false,Bool.false_and,Bool.not_true,Bool.not_false,Bool.false_eq_true,reduceIte,ite_true,ite_false,beq_self_eq_true,Nat.zero_add,reduceCtorEq,and_self,true_and,and_true,ge_iff_le,gt_iff_lt,Nat.succ_eq_add_one,Nat.add_one_sub_one,Nat.zero_lt_succ,Nat.lt_add_left_iff_pos,wipeE,restE,pick,List.filterMap_cons,List.filterMap_nil,Int.reduceLE,Int.reduceLT,Int.reduceNeg,decide_eq_true_eq,Bool.not_eq_true',decide_eq_false_iff_not,isT,seqV,tupV,lstV,Option.getD,st,ih]
abbrev tsN (q : List Nat) : List Str := q.map fun k : Nat => (toString (k : Int) : String)
theorem strsD_ts : ∀ ys : List Str, strsD (ys.map D.str) = some ys
  | [] => rfl
  | y :: ys => by show (match strsD (ys.map D.str) with | some zs => some (y :: zs) | none => none) = _; rw [strsD_ts ys]
theorem ts_sum : ∀ q : List Nat, (∀ k ∈ q, k < 3) → ((tsN q).map fun s : Str => s.length).sum ≤ 10 * q.length
  | [], _ => by simp
  | k :: q, h => by
    have ih := ts_sum q fun x hx => h x (by simp [hx])
    have hk := h k (by simp)
    have l1 : (Str.ofString (toString (k : Int))).length ≤ 10 := by
      have : k = 0 ∨ k = 1 ∨ k = 2 := by omega
      rcases this with rfl | rfl | rfl <;> decide +kernel
    show (Str.ofString (toString (k : Int))).length + ((tsN q).map fun s : Str => s.length).sum ≤ _
    rw [List.length_cons]; omega
theorem join_ts {q : List Nat} (h : ∀ k ∈ q, k < 3) (hq : q.length ≤ 900) : ∃ s, joinV "" (.fz (.lst ((tsN q).map D.str))) = .ok (.fz (.str s)) := by
  refine ⟨Txt.join "" (tsN q), ?_⟩
  show (match strsD ((tsN q).map D.str) with | some (ys : List Str) => (if (ys.map fun s : Str => s.length).sum + ys.length * (Str.ofString "").length ≤ 16777216 then Res.ok (W.fz (.str (Txt.join "" ys))) else .err) | none => .err) = _
  rw [strsD_ts]
  have h1 := ts_sum q h
  have h2 : (Str.ofString "").length = 0 := by decide +kernel
  show (if ((tsN q).map fun s : Str => s.length).sum + (tsN q).length * (Str.ofString "").length ≤ 16777216 then _ else _) = _
  rw [if_pos (by rw [h2]; omega)]
theorem bent_ok {q : List Nat} {m : Nat} {β : Bx} (hq : q.length ≤ 100) (h3 : ∀ k ∈ q, k < 3) (g : Gd (m + 3) β) : ∃ (X : D) (β' : Bx), Gd m β' ∧ MatX X ∧ F_law_bent [bx β, .fz (tS q)] = .ok (.fz X, [bx β', .fz (tS q)]) := by
  obtain ⟨r, β1, r0, r1, g1, e1⟩ := take_ok (m := m + 2) (n := 8) g (by omega) (by omega)
  have ls : fList [.fz (tS q)] = .ok (.lst (nw q)) := by
    show Res.ok (W.lst ((nD q).map W.fz)) = _
    rw [nw_eq]
  obtain ⟨t, β2, t0, t1, g2, e2⟩ := take_ok (m := m + 1) (n := ((q.length : Nat) : Int) + 1) g1 (by omega) (by omega)
  have s1 := b1 e1 (show unkD (tS q) = tS q from rfl) ls
  have s2 := b2 (T := tS q) (r := r) (len_nw q) e2
  have lq : (nD q).length = q.length := nD_len q
  have ca : (cutD (nD q) none (some t)).length ≤ q.length := lq ▸ cut_len
  have cb : ∀ u, (cutD (nD q) (some u) none).length ≤ q.length := fun u => lq ▸ cut_len
  have all3 : ∀ (d : D) (u : Int), okF d → ∀ x ∈ cutD (nD q) none (some t) ++ [d] ++ cutD (nD q) (some u) none, okF x := fun d u hd x hx => by
    rcases List.mem_append.mp hx with hx | hx
    · rcases List.mem_append.mp hx with hx | hx
      · exact okF_n x (cut_mem hx)
      · rw [List.mem_singleton.mp hx]; exact hd
    · exact okF_n x (cut_mem hx)
  have len3 : ∀ (d : D) (u : Int), (cutD (nD q) none (some t) ++ [d] ++ cutD (nD q) (some u) none).length ≤ 900 := fun d u => by
    rw [List.length_append, List.length_append, List.length_singleton]
    have := cb u; omega
  have ad1 : ∀ d : D, fAdd (.fz (.lst (cutD (nD q) none (some t)))) (.fz (.lst [d])) = .ok (.lst ((cutD (nD q) none (some t) ++ [d]).map W.fz)) := fun d => add_fz (by rw [List.length_singleton]; omega)
  have ad2 : ∀ (d : D) (u : Int), fAdd (.fz (.lst (cutD (nD q) none (some t) ++ [d]))) (.fz (.lst (cutD (nD q) (some u) none))) = .ok (.lst ((cutD (nD q) none (some t) ++ [d] ++ cutD (nD q) (some u) none).map W.fz)) := fun d u => add_fz (by rw [List.length_append, List.length_singleton]; have := cb u; omega)
  have hr : r = 0 ∨ r = 1 ∨ r = 2 ∨ r = 3 ∨ r = 4 ∨ (r ≠ 0 ∧ r ≠ 1 ∧ r ≠ 2 ∧ r ≠ 3 ∧ r ≠ 4) := by omega
  rcases hr with rfl | rfl | rfl | rfl | rfl | ⟨n0, n1, n2, n3, n4⟩
  · obtain ⟨d, β3, hd, g3, e3⟩ := of_ok (m := m) (ds := [.int 0, .int 1, .int 2, .int 3, .int (-1), .bl true, .non, .str "0"]) g2 (by simp) (by simp)
    have kd : okF d := by
      simp only [List.mem_cons, List.not_mem_nil, or_false] at hd
      rcases hd with rfl | rfl | rfl | rfl | rfl | rfl | rfl | rfl
      · exact .inl ⟨_, rfl⟩
      · exact .inl ⟨_, rfl⟩
      · exact .inl ⟨_, rfl⟩
      · exact .inl ⟨_, rfl⟩
      · exact .inl ⟨_, rfl⟩
      · exact .inr (.inl ⟨_, rfl⟩)
      · exact .inr (.inr (.inl rfl))
      · exact .inr (.inr (.inr (.inl rfl)))
    exact ⟨_, β3, g3, MatX.tp (len3 d t) (all3 d t kd), runB (seqN s1 (seqN s2 (seqN ((ifT tqT).trans (y0 sl_nw (frz_mp _) e3 (ad1 d) (frz_mp _) sl_nw (frz_mp _) (ad2 d t))) (b4 tpN))))⟩
  · refine ⟨_, β2, g2.le (by omega), MatX.tp (ds := cutD (nD q) none (some t) ++ cutD (nD q) (some (t + 1)) none) (by rw [List.length_append]; have := cb (t + 1); omega) (fun x hx => ?_), runB (seqN s1 (seqN s2 (seqN ((ifF (tqF (by decide))).trans ((ifT tqT).trans (y1 sl_nw (frz_mp _) sl_nw (frz_mp _) (add_fz (by have := cb (t + 1); omega))))) (b4 tpN))))⟩
    rcases List.mem_append.mp hx with hx | hx
    · exact okF_n x (cut_mem hx)
    · exact okF_n x (cut_mem hx)
  · obtain ⟨d, β3, hd, g3, e3⟩ := of_ok (m := m) (ds := [.int 0, .int 1, .int 2, .bl false]) g2 (by simp) (by simp)
    have kd : okF d := by
      simp only [List.mem_cons, List.not_mem_nil, or_false] at hd
      rcases hd with rfl | rfl | rfl | rfl
      · exact .inl ⟨_, rfl⟩
      · exact .inl ⟨_, rfl⟩
      · exact .inl ⟨_, rfl⟩
      · exact .inr (.inl ⟨_, rfl⟩)
    exact ⟨_, β3, g3, MatX.tp (len3 d (t + 1)) (all3 d (t + 1) kd), runB (seqN s1 (seqN s2 (seqN ((ifF (tqF (by decide))).trans ((ifF (tqF (by decide))).trans ((ifT tqT).trans (y2 sl_nw (frz_mp _) e3 (ad1 d) (frz_mp _) sl_nw (frz_mp _) (ad2 d (t + 1)))))) (b4 tpN))))⟩
  · exact ⟨_, β2, g2.le (by omega), MatX.tp (ds := (nD q).reverse) (by rw [List.length_reverse]; omega) (fun x hx => okF_n x (List.mem_reverse.mp hx)), runB (seqN s1 (seqN s2 (seqN ((ifF (tqF (by decide))).trans ((ifF (tqF (by decide))).trans ((ifF (tqF (by decide))).trans ((ifT tqT).trans (y3 rev_nw))))) (b4 tpN))))⟩
  · obtain ⟨s, js⟩ := join_ts h3 (by omega)
    obtain ⟨d, β3, hd, g3, e3⟩ := of_ok (m := m) (ds := [.lst (nD q), .non, .int 0, .str "", .tup [tS q], .str s]) g2 (by simp) (by simp)
    have fs : frzs (q.map fun k : Nat => W.fz (.str (toString (k : Int)))) = (tsN q).map D.str := by rw [frzs_fz (fun k : Nat => D.str (toString (k : Int))), List.map_map]; rfl
    have kd : MatX d := by
      simp only [List.mem_cons, List.not_mem_nil, or_false] at hd
      rcases hd with rfl | rfl | rfl | rfl | rfl | rfl
      · exact .inr ⟨rfl, by kernel_rfl⟩
      · exact .inr ⟨rfl, by kernel_rfl⟩
      · exact .inr ⟨rfl, by kernel_rfl⟩
      · exact .inr ⟨rfl, by kernel_rfl⟩
      · exact .inl ⟨[tS q], rfl, .inr rfl, by simp, fun x hx => by rw [List.mem_singleton.mp hx]; exact .inr (.inr (.inr (.inr ⟨q, by omega, rfl⟩)))⟩
      · exact .inr ⟨rfl, by kernel_rfl⟩
    obtain ⟨x4, e4⟩ := y4 (r := 4) (t := t) (Q := nw q) (show unkD (tS q) = tS q from rfl) (show frzs (nw q) = nD q by rw [nw_eq, frz_mp]) (by omega) (str_lc q h3) (by rw [List.length_map]; omega) fs js e3
    exact ⟨d, β3, g3, kd, runB (seqN s1 (seqN s2 (seqR ((ifF (tqF (by decide))).trans ((ifF (tqF (by decide))).trans ((ifF (tqF (by decide))).trans ((ifF (tqF (by decide))).trans ((ifT tqT).trans e4))))))))⟩
  · have tp : fTupleN [.lst (nw q)] = .ok (.fz (.tpn (nD q))) := by rw [nw_eq]; exact tpN
    exact ⟨_, β2, g2.le (by omega), MatX.tp (ds := nD q) (by omega) okF_n, runB (seqN s1 (seqN s2 (seqN ((ifF (tqF n0)).trans ((ifF (tqF n1)).trans ((ifF (tqF n2)).trans ((ifF (tqF n3)).trans ((ifF (tqF n4)).trans rfl))))) (b4 tp))))⟩
end Gn
namespace Gn
open Mi PySem
abbrev RE (a0 a1 a2 a3 a4 a5 a6 a7 a8 a9 a10 : Option W) : En := [a0, a1, a2, a3, a4, a5, a6, a7, a8, a9, a10]
section
variable {a0 a1 a2 a3 a4 a5 a6 a7 a8 a9 a10 : Option W} {β β1 β2 : Bx}
theorem r1 {SD : D} (e : F_law_streams [bx β, .fz (.int 8), .fz (.int 1)] = .ok (.fz SD, [bx β1, .fz (.int 8), .fz (.int 1)])) : (cAsg (gSet 2) (cCallIO F_law_streams (ioOf [0]) (cCons true (cVar 0) (cCons true (cC (.int 8)) (cCons true (cC (.int 1)) cNil))))) (RE (some (bx β)) a1 a2 a3 a4 a5 a6 a7 a8 a9 a10) = .ok (.nx, RE (some (bx β1)) a1 (some (.fz SD)) a3 a4 a5 a6 a7 a8 a9 a10) := by
  simp only [Bq,RE,v_forc,v_lcc,pend,cont,take,frz,frzs,getP,setP,Res.of,boolOf,isPl,mutS,mutP,intOf,move,retOf,backs1,put1,fzT,ioOf,chk,early,shut,isTmp,flatB,scal,List.map_cons,List.map_nil,List.cons_append,List.nil_append,List.append_nil,List.replicate_succ,List.replicate_zero,List.replicate,List.length_cons,List.length_nil,List.getElem?_cons_zero,List.getElem?_cons_succ,List.set_cons_zero,List.set_cons_succ,List.all_cons,List.all_nil,List.contains_cons,List.contains_nil,List.elem_cons,List.elem_nil,List.isEmpty_nil,List.isEmpty_cons,Nat.reduceAdd,Nat.reduceSub,Nat.reduceBEq,Nat.reduceLT,Nat.reduceLeDiff,Nat.reduceEqDiff,decide_true,decide_false,Bool.and_true,Bool.true_and,Bool.or_true,Bool.true_or,Bool.or_false,Bool.false_or,Bool.and_false,Bool.false_and,Bool.not_true,Bool.not_false,Bool.false_eq_true,reduceIte,ite_true,ite_false,beq_self_eq_true,Nat.zero_add,reduceCtorEq,and_self,true_and,and_true,ge_iff_le,gt_iff_lt,Nat.succ_eq_add_one,Nat.add_one_sub_one,Nat.zero_lt_succ,Nat.lt_add_left_iff_pos,wipeE,restE,pick,List.filterMap_cons,List.filterMap_nil,Int.reduceLE,Int.reduceLT,Int.reduceNeg,decide_eq_true_eq,Bool.not_eq_true',decide_eq_false_iff_not,isT,seqV,tupV,lstV,Option.getD,e]
theorem r2 : (cAsg (gSet 3) (cLst true cNil)) (RE a0 a1 a2 a3 a4 a5 a6 a7 a8 a9 a10) = .ok (.nx, RE a0 a1 a2 (some (.lst [])) a4 a5 a6 a7 a8 a9 a10) := by
  simp only [Bq,RE,v_forc,v_lcc,pend,cont,take,frz,frzs,getP,setP,Res.of,boolOf,isPl,mutS,mutP,intOf,move,retOf,backs1,put1,fzT,ioOf,chk,early,shut,isTmp,flatB,scal,List.map_cons,List.map_nil,List.cons_append,List.nil_append,List.append_nil,List.replicate_succ,List.replicate_zero,List.replicate,List.length_cons,List.length_nil,List.getElem?_cons_zero,List.getElem?_cons_succ,List.set_cons_zero,List.set_cons_succ,List.all_cons,List.all_nil,List.contains_cons,List.contains_nil,List.elem_cons,List.elem_nil,List.isEmpty_nil,List.isEmpty_cons,Nat.reduceAdd,Nat.reduceSub,Nat.reduceBEq,Nat.reduceLT,Nat.reduceLeDiff,Nat.reduceEqDiff,decide_true,decide_false,Bool.and_true,Bool.true_and,Bool.or_true,Bool.true_or,Bool.or_false,Bool.false_or,Bool.and_false,Bool.false_and,Bool.not_true,Bool.not_false,Bool.false_eq_true,reduceIte,ite_true,ite_false,beq_self_eq_true,Nat.zero_add,reduceCtorEq,and_self,true_and,and_true,ge_iff_le,gt_iff_lt,Nat.succ_eq_add_one,Nat.add_one_sub_one,Nat.zero_lt_succ,Nat.lt_add_left_iff_pos,wipeE,restE,pick,List.filterMap_cons,List.filterMap_nil,Int.reduceLE,Int.reduceLT,Int.reduceNeg,decide_eq_true_eq,Bool.not_eq_true',decide_eq_false_iff_not,isT,seqV,tupV,lstV,Option.getD]
theorem rb {R : D} {K N : Int} {P M PM : List W} {PD MD : List D} (fp : frzs P = PD) (ln : fLen [.fz R] = .ok (.fz (.int N))) (mu : fMul (.lst [.fz (.int K)]) (.fz (.int N)) = .ok (.lst M)) (mu2 : fMul (.fz (.lst [.int K])) (.fz (.int N)) = .ok (.lst M)) (fM : frzs M = MD) (ad : fAdd (.lst P) (.fz (.lst MD)) = .ok (.lst PM)) :
    L_law_right_1 (RE a0 a1 a2 (some (.lst P)) a4 a5 a6 (some (.fz (.int K))) (some (.fz R)) a9 a10) = .ok (.nx, RE a0 a1 a2 (some (.lst PM)) a4 a5 a6 (some (.fz (.int K))) (some (.fz R)) a9 a10) := by
  simp only [Bq,RE,L_law_right_1,v_forc,v_lcc,pend,cont,take,frz,frzs,getP,setP,Res.of,boolOf,isPl,mutS,mutP,intOf,move,retOf,backs1,put1,fzT,ioOf,chk,early,shut,isTmp,flatB,scal,List.map_cons,List.map_nil,List.cons_append,List.nil_append,List.append_nil,List.replicate_succ,List.replicate_zero,List.replicate,List.length_cons,List.length_nil,List.getElem?_cons_zero,List.getElem?_cons_succ,List.set_cons_zero,List.set_cons_succ,List.all_cons,List.all_nil,List.contains_cons,List.contains_nil,List.elem_cons,List.elem_nil,List.isEmpty_nil,List.isEmpty_cons,Nat.reduceAdd,Nat.reduceSub,Nat.reduceBEq,Nat.reduceLT,Nat.reduceLeDiff,Nat.reduceEqDiff,decide_true,decide_false,Bool.and_true,Bool.true_and,Bool.or_true,Bool.true_or,Bool.or_false,Bool.false_or,Bool.and_false,Bool.false_and,Bool.not_true,Bool.not_false,Bool.false_eq_true,reduceIte,ite_true,ite_false,beq_self_eq_true,Nat.zero_add,reduceCtorEq,and_self,true_and,and_true,ge_iff_le,gt_iff_lt,Nat.succ_eq_add_one,Nat.add_one_sub_one,Nat.zero_lt_succ,Nat.lt_add_left_iff_pos,wipeE,restE,pick,List.filterMap_cons,List.filterMap_nil,Int.reduceLE,Int.reduceLT,Int.reduceNeg,decide_eq_true_eq,Bool.not_eq_true',decide_eq_false_iff_not,isT,seqV,tupV,lstV,Option.getD,fp,ln,mu,mu2,fM,ad]
theorem nw_fr (p : List Nat) : frzs (nw p) = nD p := by rw [nw_eq, frz_mp]
theorem rep_n (n : Nat) (k : Nat) : (List.replicate n [D.int (k : Int)]).flatten = nD (List.replicate n k) := by
  induction n with
  | zero => rfl
  | succ n ih => rw [List.replicate_succ, List.flatten_cons, ih, List.replicate_succ]; rfl
theorem add_nw {p : List Nat} {l : List Nat} (h : p.length + l.length ≤ 1000) : fAdd (.lst (nw p)) (.fz (.lst (nD l))) = .ok (.lst (nw (p ++ l))) := by
  have e : fAdd (.lst (nw p)) (.fz (.lst (nD l))) = fLstAdd (.lst (nw p)) (.fz (.lst (nD l))) := rfl
  rw [e]
  unfold fLstAdd
  rw [show lstV (.lst (nw p)) = some (nD p) from unfz_nw p, show lstV (.fz (.lst (nD l))) = some (nD l) from rfl]
  show (if (nD p).length + (nD l).length ≤ 16777216 then Res.ok (W.lst ((nD p ++ nD l).map W.fz)) else .err) = _
  rw [if_pos (by rw [nD_len, nD_len]; omega), nw_eq]
  rw [show nD (p ++ l) = nD p ++ nD l from List.map_append]
theorem rn_loop {a0 a1 a2 a4 a5 a6 a9 a10 : Option W} : ∀ (S : List Rw) (i : Nat) (p : List Nat) (a7 a8 : Option W), p.length + (lsts S).sum ≤ 900 → ∃ b7 b8 : Option W, forL (gUnp (gsCons (gSet 7) (gsCons (gSet 8) gsNil))) L_law_right_1 (enumD i (S.map (eR false))) (RE a0 a1 a2 (some (.lst (nw p))) a4 a5 a6 a7 a8 a9 a10) = .ok (.nx, RE a0 a1 a2 (some (.lst (nw (p ++ numF i S)))) a4 a5 a6 b7 b8 a9 a10)
  | [], i, p, a7, a8, _ => ⟨a7, a8, by rw [show numF i [] = [] from rfl, List.append_nil]; rfl⟩
  | r :: S, i, p, a7, a8, h => by
    have h : p.length + (r.length :: lsts S).sum ≤ 900 := h
    rw [List.sum_cons] at h
    have mu : fMul (.lst [.fz (.int (i : Int))]) (.fz (.int ((r.length : Nat) : Int))) = .ok (.lst (nw (List.replicate r.length i))) := by
      rw [mul_l (by omega), rep_n, nw_eq]
    have mu2 : fMul (.fz (.lst [.int (i : Int)])) (.fz (.int ((r.length : Nat) : Int))) = .ok (.lst (nw (List.replicate r.length i))) := mu
    have b := rb (a0 := a0) (a1 := a1) (a2 := a2) (a4 := a4) (a5 := a5) (a6 := a6) (a9 := a9) (a10 := a10) (nw_fr p) (len_R (k := false) (r := r)) mu mu2 (nw_fr _) (add_nw (p := p) (l := List.replicate r.length i) (by rw [List.length_replicate]; omega))
    obtain ⟨b7, b8, e⟩ := rn_loop (a0 := a0) (a1 := a1) (a2 := a2) (a4 := a4) (a5 := a5) (a6 := a6) (a9 := a9) (a10 := a10) S (i + 1) (p ++ List.replicate r.length i) (some (.fz (.int (i : Int)))) (some (.fz (eR false r))) (by rw [List.length_append, List.length_replicate]; omega)
    refine ⟨b7, b8, ?_⟩
    rw [List.append_assoc] at e
    exact for_nx rfl b e
theorem r3 {SD : D} {l : List D} {ρ : En} {L : CS} (sr : srcV (.fz SD) = some l) (hl : (enumD 0 l).length ≤ 1000000) (e : forL (gUnp (gsCons (gSet 7) (gsCons (gSet 8) gsNil))) L (enumD 0 l) (RE a0 a1 (some (.fz SD)) a3 a4 a5 a6 a7 a8 a9 a10) = .ok (.nx, ρ)) : cFor (iEnumM (cVar 2)) (gUnp (gsCons (gSet 7) (gsCons (gSet 8) gsNil))) L (RE a0 a1 (some (.fz SD)) a3 a4 a5 a6 a7 a8 a9 a10) = .ok (.nx, ρ) := by
  generalize hE : enumD 0 l = EN at *
  unfold RE at *
  simp only [Bq,v_lcc,pend,cont,take,frz,frzs,getP,setP,Res.of,boolOf,isPl,mutS,mutP,intOf,move,retOf,backs1,put1,fzT,ioOf,chk,early,shut,isTmp,flatB,scal,List.map_cons,List.map_nil,List.cons_append,List.nil_append,List.append_nil,List.replicate_succ,List.replicate_zero,List.replicate,List.length_cons,List.length_nil,List.getElem?_cons_zero,List.getElem?_cons_succ,List.set_cons_zero,List.set_cons_succ,List.all_cons,List.all_nil,List.contains_cons,List.contains_nil,List.elem_cons,List.elem_nil,List.isEmpty_nil,List.isEmpty_cons,Nat.reduceAdd,Nat.reduceSub,Nat.reduceBEq,Nat.reduceLT,Nat.reduceLeDiff,Nat.reduceEqDiff,decide_true,decide_false,Bool.and_true,Bool.true_and,Bool.or_true,Bool.true_or,Bool.or_false,Bool.false_or,Bool.and_false,Bool.false_and,Bool.not_true,Bool.not_false,Bool.false_eq_true,reduceIte,ite_true,ite_false,beq_self_eq_true,Nat.zero_add,reduceCtorEq,and_self,true_and,and_true,ge_iff_le,gt_iff_lt,Nat.succ_eq_add_one,Nat.add_one_sub_one,Nat.zero_lt_succ,Nat.lt_add_left_iff_pos,wipeE,restE,pick,List.filterMap_cons,List.filterMap_nil,Int.reduceLE,Int.reduceLT,Int.reduceNeg,decide_eq_true_eq,Bool.not_eq_true',decide_eq_false_iff_not,isT,seqV,tupV,lstV,Option.getD,sr,hE,hl,e]
theorem r4 {N : Int} {P Q : List W} {PD QD : List D} (fp : frzs P = PD) (fq : frzs Q = QD) (ln : fLen [.lst P] = .ok (.fz (.int N))) (e : F_law_pick [bx β, .fz (.lst PD), .fz (.int N)] = .ok (.lst Q, [bx β1, .fz (.lst PD), .fz (.int N)])) (tp : fTupleN [.fz (.lst QD)] = .ok (.fz (.tpn QD))) :
    ∃ b3 : Option W, (cAsg (gSet 4) (cCallB fTupleN (cCons true (cCallIO F_law_pick (ioOf [0]) (cCons true (cVar 0) (cCons true (cVar 3) (cCons true (cCallB fLen (cCons true (cVar 3) cNil)) cNil)))) cNil))) (RE (some (bx β)) a1 a2 (some (.lst P)) a4 a5 a6 a7 a8 a9 a10) = .ok (.nx, RE (some (bx β1)) a1 a2 b3 (some (.fz (.tpn QD))) a5 a6 a7 a8 a9 a10) := by
  refine ⟨some (.fz (.lst PD)), ?_⟩
  simp only [Bq,RE,v_forc,v_lcc,pend,cont,take,frz,frzs,getP,setP,Res.of,boolOf,isPl,mutS,mutP,intOf,move,retOf,backs1,put1,fzT,ioOf,chk,early,shut,isTmp,flatB,scal,List.map_cons,List.map_nil,List.cons_append,List.nil_append,List.append_nil,List.replicate_succ,List.replicate_zero,List.replicate,List.length_cons,List.length_nil,List.getElem?_cons_zero,List.getElem?_cons_succ,List.set_cons_zero,List.set_cons_succ,List.all_cons,List.all_nil,List.contains_cons,List.contains_nil,List.elem_cons,List.elem_nil,List.isEmpty_nil,List.isEmpty_cons,Nat.reduceAdd,Nat.reduceSub,Nat.reduceBEq,Nat.reduceLT,Nat.reduceLeDiff,Nat.reduceEqDiff,decide_true,decide_false,Bool.and_true,Bool.true_and,Bool.or_true,Bool.true_or,Bool.or_false,Bool.false_or,Bool.and_false,Bool.false_and,Bool.not_true,Bool.not_false,Bool.false_eq_true,reduceIte,ite_true,ite_false,beq_self_eq_true,Nat.zero_add,reduceCtorEq,and_self,true_and,and_true,ge_iff_le,gt_iff_lt,Nat.succ_eq_add_one,Nat.add_one_sub_one,Nat.zero_lt_succ,Nat.lt_add_left_iff_pos,wipeE,restE,pick,List.filterMap_cons,List.filterMap_nil,Int.reduceLE,Int.reduceLT,Int.reduceNeg,decide_eq_true_eq,Bool.not_eq_true',decide_eq_false_iff_not,isT,seqV,tupV,lstV,Option.getD,fp,fq,ln,e,tp]
theorem uk4 {X U : D} (h : unkD X = U) {b0 b1 b2 b3 : Option W} {ρ : En} : cUnk (cVar 4) (b0 :: b1 :: b2 :: b3 :: some (.fz X) :: ρ) = .ok (.tmp (.fz U), b0 :: b1 :: b2 :: b3 :: some (.fz X) :: ρ) := by
  subst h; rfl
theorem uk6 {X U : D} (h : unkD X = U) {b0 b1 b2 b3 b4 b5 : Option W} {ρ : En} : cUnk (cVar 6) (b0 :: b1 :: b2 :: b3 :: b4 :: b5 :: some (.fz X) :: ρ) = .ok (.tmp (.fz U), b0 :: b1 :: b2 :: b3 :: b4 :: b5 :: some (.fz X) :: ρ) := by
  subst h; rfl
theorem r5 {SD X U R : D} {LW : List W} (hX : unkD X = U) (e1 : F_law_lists 40 [.fz SD] = .ok (.lst LW, [.fz SD])) (e2 : F_law_made [.fz SD, .fz U] = .ok (.fz R, [.fz SD, .fz U])) : (cPar2 9 10 (cCons false (cCallP false (F_law_lists 40) (cCons true (cVar 2) cNil)) (cCons true (cCallP false F_law_made (cCons true (cVar 2) (cCons true (cUnk (cVar 4)) cNil))) cNil))) (RE a0 a1 (some (.fz SD)) a3 (some (.fz X)) a5 a6 a7 a8 a9 a10) = .ok (.nx, RE a0 a1 (some (.fz SD)) a3 (some (.fz X)) a5 a6 a7 a8 (some (.lst LW)) (some (.fz R))) := by
  have k := fun (b0 b1 b2 b3 : Option W) (ρ : En) => uk4 hX (b0 := b0) (b1 := b1) (b2 := b2) (b3 := b3) (ρ := ρ)
  generalize F_law_lists 40 = F0 at *
  simp only [Bq,RE,v_forc,v_lcc,pend,cont,take,frz,frzs,getP,setP,Res.of,boolOf,isPl,mutS,mutP,intOf,move,retOf,backs1,put1,fzT,ioOf,chk,early,shut,isTmp,flatB,scal,List.map_cons,List.map_nil,List.cons_append,List.nil_append,List.append_nil,List.replicate_succ,List.replicate_zero,List.replicate,List.length_cons,List.length_nil,List.getElem?_cons_zero,List.getElem?_cons_succ,List.set_cons_zero,List.set_cons_succ,List.all_cons,List.all_nil,List.contains_cons,List.contains_nil,List.elem_cons,List.elem_nil,List.isEmpty_nil,List.isEmpty_cons,Nat.reduceAdd,Nat.reduceSub,Nat.reduceBEq,Nat.reduceLT,Nat.reduceLeDiff,Nat.reduceEqDiff,decide_true,decide_false,Bool.and_true,Bool.true_and,Bool.or_true,Bool.true_or,Bool.or_false,Bool.false_or,Bool.and_false,Bool.false_and,Bool.not_true,Bool.not_false,Bool.false_eq_true,reduceIte,ite_true,ite_false,beq_self_eq_true,Nat.zero_add,reduceCtorEq,and_self,true_and,and_true,ge_iff_le,gt_iff_lt,Nat.succ_eq_add_one,Nat.add_one_sub_one,Nat.zero_lt_succ,Nat.lt_add_left_iff_pos,wipeE,restE,pick,List.filterMap_cons,List.filterMap_nil,Int.reduceLE,Int.reduceLT,Int.reduceNeg,decide_eq_true_eq,Bool.not_eq_true',decide_eq_false_iff_not,isT,seqV,tupV,lstV,Option.getD,k,e1,e2]
theorem r6 {SD X U R : D} {LW QW : List W} {LD QD : List D} (hX : unkD X = U) (fl : frzs LW = LD) (fq : frzs QW = QD) (ls : fList [.fz U] = .ok (.lst QW)) (e1 : Fwoven_row [.fz SD, .fz U] = .ok (.fz R, [.fz SD, .fz U])) (e2 : Fwoven_row [.fz (.lst LD), .fz (.lst QD)] = .ok (.fz R, [.fz (.lst LD), .fz (.lst QD)])) :
    (cAsg (gSet 5) (cLst true (cCons false (cCallP false Fwoven_row (cCons true (cVar 2) (cCons true (cUnk (cVar 4)) cNil))) (cCons true (cCallKP false Fwoven_row [1, 0] 2 (cCons true (cCallB fList (cCons true (cUnk (cVar 4)) cNil)) (cCons true (cVar 9) cNil))) cNil)))) (RE a0 a1 (some (.fz SD)) a3 (some (.fz X)) a5 a6 a7 a8 (some (.lst LW)) a10) = .ok (.nx, RE a0 a1 (some (.fz SD)) a3 (some (.fz X)) (some (.lst [.fz R, .fz R])) a6 a7 a8 (some (.fz (.lst LD))) a10) := by
  have k := fun (b0 b1 b2 b3 : Option W) (ρ : En) => uk4 hX (b0 := b0) (b1 := b1) (b2 := b2) (b3 := b3) (ρ := ρ)
  simp only [Bq,RE,v_forc,v_lcc,pend,cont,take,frz,frzs,getP,setP,Res.of,boolOf,isPl,mutS,mutP,intOf,move,retOf,backs1,put1,fzT,ioOf,chk,early,shut,isTmp,flatB,scal,List.map_cons,List.map_nil,List.cons_append,List.nil_append,List.append_nil,List.replicate_succ,List.replicate_zero,List.replicate,List.length_cons,List.length_nil,List.getElem?_cons_zero,List.getElem?_cons_succ,List.set_cons_zero,List.set_cons_succ,List.all_cons,List.all_nil,List.contains_cons,List.contains_nil,List.elem_cons,List.elem_nil,List.isEmpty_nil,List.isEmpty_cons,Nat.reduceAdd,Nat.reduceSub,Nat.reduceBEq,Nat.reduceLT,Nat.reduceLeDiff,Nat.reduceEqDiff,decide_true,decide_false,Bool.and_true,Bool.true_and,Bool.or_true,Bool.true_or,Bool.or_false,Bool.false_or,Bool.and_false,Bool.false_and,Bool.not_true,Bool.not_false,Bool.false_eq_true,reduceIte,ite_true,ite_false,beq_self_eq_true,Nat.zero_add,reduceCtorEq,and_self,true_and,and_true,ge_iff_le,gt_iff_lt,Nat.succ_eq_add_one,Nat.add_one_sub_one,Nat.zero_lt_succ,Nat.lt_add_left_iff_pos,wipeE,restE,pick,List.filterMap_cons,List.filterMap_nil,Int.reduceLE,Int.reduceLT,Int.reduceNeg,decide_eq_true_eq,Bool.not_eq_true',decide_eq_false_iff_not,isT,seqV,tupV,lstV,Option.getD,k,fl,fq,ls,e1,e2]
theorem r7 {R : D} (e : F_law_same 40 [.fz (.lst [R, R]), .fz (.lst [R, R])] = .ok (.fz (.bl true), [.fz (.lst [R, R]), .fz (.lst [R, R])])) :
    ∃ b5 : Option W, (cIfS (cNotT (cTest (cCallV (F_law_same 40) (cCons false (cVar 5) (cCons true (cLst false (cCons true (cVar 10) (cCons true (cVar 10) cNil))) cNil))))) (cRet (cC (.bl false))) cNext) (RE a0 a1 a2 a3 a4 (some (.lst [.fz R, .fz R])) a6 a7 a8 a9 (some (.fz R))) = .ok (.nx, RE a0 a1 a2 a3 a4 b5 a6 a7 a8 a9 (some (.fz R))) := by
  refine ⟨some (.lst [.fz R, .fz R]), ?_⟩
  generalize F_law_same 40 = F0 at *
  simp only [Bq,RE,v_forc,v_lcc,pend,cont,take,frz,frzs,getP,setP,Res.of,boolOf,isPl,mutS,mutP,intOf,move,retOf,backs1,put1,fzT,ioOf,chk,early,shut,isTmp,flatB,scal,List.map_cons,List.map_nil,List.cons_append,List.nil_append,List.append_nil,List.replicate_succ,List.replicate_zero,List.replicate,List.length_cons,List.length_nil,List.getElem?_cons_zero,List.getElem?_cons_succ,List.set_cons_zero,List.set_cons_succ,List.all_cons,List.all_nil,List.contains_cons,List.contains_nil,List.elem_cons,List.elem_nil,List.isEmpty_nil,List.isEmpty_cons,Nat.reduceAdd,Nat.reduceSub,Nat.reduceBEq,Nat.reduceLT,Nat.reduceLeDiff,Nat.reduceEqDiff,decide_true,decide_false,Bool.and_true,Bool.true_and,Bool.or_true,Bool.true_or,Bool.or_false,Bool.false_or,Bool.and_false,Bool.false_and,Bool.not_true,Bool.not_false,Bool.false_eq_true,reduceIte,ite_true,ite_false,beq_self_eq_true,Nat.zero_add,reduceCtorEq,and_self,true_and,and_true,ge_iff_le,gt_iff_lt,Nat.succ_eq_add_one,Nat.add_one_sub_one,Nat.zero_lt_succ,Nat.lt_add_left_iff_pos,wipeE,restE,pick,List.filterMap_cons,List.filterMap_nil,Int.reduceLE,Int.reduceLT,Int.reduceNeg,decide_eq_true_eq,Bool.not_eq_true',decide_eq_false_iff_not,isT,seqV,tupV,lstV,Option.getD,e]
theorem r8 {X U Y Z : D} {L : CS} {ρ : En} (hX : unkD X = U) (e1 : F_law_bent [bx β, .fz U] = .ok (.fz Y, [bx β1, .fz U])) (e2 : F_law_bent [bx β1, .fz U] = .ok (.fz Z, [bx β2, .fz U])) (e : forL (gSet 6) L [X, Y, Z] (RE (some (bx β2)) a1 a2 a3 (some (.fz X)) a5 a6 a7 a8 a9 a10) = .ok (.nx, ρ)) : cFor (iSeq (cTup false (cCons false (cVar 4) (cCons false (cCallIO F_law_bent (ioOf [0]) (cCons true (cVar 0) (cCons true (cUnk (cVar 4)) cNil))) (cCons true (cCallIO F_law_bent (ioOf [0]) (cCons true (cVar 0) (cCons true (cUnk (cVar 4)) cNil))) cNil))))) (gSet 6) L (RE (some (bx β)) a1 a2 a3 (some (.fz X)) a5 a6 a7 a8 a9 a10) = .ok (.nx, ρ) := by
  have k := fun (b0 b1 b2 b3 : Option W) (ρ : En) => uk4 hX (b0 := b0) (b1 := b1) (b2 := b2) (b3 := b3) (ρ := ρ)
  have z : ([X, Y, Z] : List D).length ≤ 1000000 := by simp
  have sr : srcV (.fz (.tup [X, Y, Z])) = some [X, Y, Z] := rfl
  generalize hl : [X, Y, Z] = XYZ at *
  unfold RE at *
  simp only [Bq,v_lcc,pend,cont,take,frz,frzs,getP,setP,Res.of,boolOf,isPl,mutS,mutP,intOf,move,retOf,backs1,put1,fzT,ioOf,chk,early,shut,isTmp,flatB,scal,List.map_cons,List.map_nil,List.cons_append,List.nil_append,List.append_nil,List.replicate_succ,List.replicate_zero,List.replicate,List.length_cons,List.length_nil,List.getElem?_cons_zero,List.getElem?_cons_succ,List.set_cons_zero,List.set_cons_succ,List.all_cons,List.all_nil,List.contains_cons,List.contains_nil,List.elem_cons,List.elem_nil,List.isEmpty_nil,List.isEmpty_cons,Nat.reduceAdd,Nat.reduceSub,Nat.reduceBEq,Nat.reduceLT,Nat.reduceLeDiff,Nat.reduceEqDiff,decide_true,decide_false,Bool.and_true,Bool.true_and,Bool.or_true,Bool.true_or,Bool.or_false,Bool.false_or,Bool.and_false,Bool.false_and,Bool.not_true,Bool.not_false,Bool.false_eq_true,reduceIte,ite_true,ite_false,beq_self_eq_true,Nat.zero_add,reduceCtorEq,and_self,true_and,and_true,ge_iff_le,gt_iff_lt,Nat.succ_eq_add_one,Nat.add_one_sub_one,Nat.zero_lt_succ,Nat.lt_add_left_iff_pos,wipeE,restE,pick,List.filterMap_cons,List.filterMap_nil,Int.reduceLE,Int.reduceLT,Int.reduceNeg,decide_eq_true_eq,Bool.not_eq_true',decide_eq_false_iff_not,isT,seqV,tupV,lstV,Option.getD,k,e1,e2,hl,sr,z,e]
theorem rm {SD SL X U : D} {b : Bool} {b9 : Option W} (hX : unkD X = U) (m : F_law_is_meant [.fz SD, .fz X] = .ok (.fz (.bl b), [.fz SD, .fz X])) (i1 : Fis_weaving [.fz SD, .fz U] = .ok (.fz (.bl b), [.fz SD, .fz U])) (i2 : Fis_weaving [.fz SL, .fz U] = .ok (.fz (.bl b), [.fz SL, .fz U])) (sm : F_law_same 40 [.fz (.lst [.bl b, .bl b]), .fz (.lst [.bl b, .bl b])] = .ok (.fz (.bl true), [.fz (.lst [.bl b, .bl b]), .fz (.lst [.bl b, .bl b])])) :
    L_law_right_2 (RE a0 a1 (some (.fz SD)) a3 a4 a5 (some (.fz X)) a7 a8 (some (.fz SL)) a10) = .ok (.nx, RE a0 a1 (some (.fz SD)) a3 a4 a5 (some (.fz X)) a7 a8 (some (.fz SL)) (some (.fz (.bl b)))) := by
  have k := fun (b0 b1 b2 b3 b4 b5 : Option W) (ρ : En) => uk6 hX (b0 := b0) (b1 := b1) (b2 := b2) (b3 := b3) (b4 := b4) (b5 := b5) (ρ := ρ)
  unfold L_law_right_2
  generalize F_law_same 40 = F0 at *
  simp only [Bq,RE,v_forc,v_lcc,pend,cont,take,frz,frzs,getP,setP,Res.of,boolOf,isPl,mutS,mutP,intOf,move,retOf,backs1,put1,fzT,ioOf,chk,early,shut,isTmp,flatB,scal,List.map_cons,List.map_nil,List.cons_append,List.nil_append,List.append_nil,List.replicate_succ,List.replicate_zero,List.replicate,List.length_cons,List.length_nil,List.getElem?_cons_zero,List.getElem?_cons_succ,List.set_cons_zero,List.set_cons_succ,List.all_cons,List.all_nil,List.contains_cons,List.contains_nil,List.elem_cons,List.elem_nil,List.isEmpty_nil,List.isEmpty_cons,Nat.reduceAdd,Nat.reduceSub,Nat.reduceBEq,Nat.reduceLT,Nat.reduceLeDiff,Nat.reduceEqDiff,decide_true,decide_false,Bool.and_true,Bool.true_and,Bool.or_true,Bool.true_or,Bool.or_false,Bool.false_or,Bool.and_false,Bool.false_and,Bool.not_true,Bool.not_false,Bool.false_eq_true,reduceIte,ite_true,ite_false,beq_self_eq_true,Nat.zero_add,reduceCtorEq,and_self,true_and,and_true,ge_iff_le,gt_iff_lt,Nat.succ_eq_add_one,Nat.add_one_sub_one,Nat.zero_lt_succ,Nat.lt_add_left_iff_pos,wipeE,restE,pick,List.filterMap_cons,List.filterMap_nil,Int.reduceLE,Int.reduceLT,Int.reduceNeg,decide_eq_true_eq,Bool.not_eq_true',decide_eq_false_iff_not,isT,seqV,tupV,lstV,Option.getD,k,m,i1,i2,sm]
end
end Gn
namespace Gn
open Mi PySem
theorem sameB (b : Bool) : F_law_same 40 [.fz (.lst [.bl b, .bl b]), .fz (.lst [.bl b, .bl b])] = .ok (.fz (.bl true), [.fz (.lst [.bl b, .bl b]), .fz (.lst [.bl b, .bl b])]) :=
  same40 2 (d := .lst [.bl b, .bl b]) ⟨by simp, fun d hd => by
    simp only [List.mem_cons, List.not_mem_nil, or_false] at hd
    rcases hd with rfl | rfl <;> trivial⟩ (by decide)
theorem sameR {r : Rw} (h : r.length ≤ 1000) : F_law_same 40 [.fz (.lst [eR false r, eR false r]), .fz (.lst [eR false r, eR false r])] = .ok (.fz (.bl true), [.fz (.lst [eR false r, eR false r]), .fz (.lst [eR false r, eR false r])]) :=
  same40 4 (d := .lst [eR false r, eR false r]) ⟨by simp, fun d hd => by
    simp only [List.mem_cons, List.not_mem_nil, or_false] at hd
    rcases hd with rfl | rfl <;> exact pln_R h⟩ (by decide)
theorem soft_S {S : List Rw} (h : smS S) : ∃ ws, F_law_lists 40 [.fz (sD false S)] = .ok (.lst ws, [.fz (sD false S)]) ∧ frzs ws = S.map (eR true) := by
  have p : pln 4 (sD false S) := ⟨by rw [List.length_map]; have := h.1; omega, fun d hd => by
    obtain ⟨r, hr, rfl⟩ := List.mem_map.mp hd
    exact pln_R (h.2 r hr)⟩
  obtain ⟨ws, e, e2⟩ := lists_seq (n := 39) (ds := S.map (eR false)) (pln_le p (by decide))
  refine ⟨ws, e, ?_⟩
  rw [e2, List.map_map]
  exact List.map_congr_left fun r _ => soft_R (n := 36)
theorem mat_ok {S : List Rw} {X : D} (h : MatX X) (hS : S.length ≤ 900) (hz : (lsts S).sum ≤ 900) {a0 a1 a3 a4 a5 a7 a8 a10 : Option W} : ∃ b10 : Option W, L_law_right_2 (RE a0 a1 (some (.fz (sD false S))) a3 a4 a5 (some (.fz X)) a7 a8 (some (.fz (sD true S))) a10) = .ok (.nx, RE a0 a1 (some (.fz (sD false S))) a3 a4 a5 (some (.fz X)) a7 a8 (some (.fz (sD true S))) b10) := by
  rcases h with ⟨ds, h1, h2, h3, h4⟩ | ⟨h1, h2⟩
  · exact ⟨_, rm (b9 := none) h1 (meant_ok h1 h2 hS h3 h4) (isw_ok (k := false) (by omega) (by omega) h3 h4) (isw_ok (k := true) (by omega) (by omega) h3 h4) (sameB _)⟩
  · exact ⟨_, rm (b9 := none) h1 (meant_n h1 h2) (isw_n h2) (isw_n h2) (sameB _)⟩
theorem mats {S : List Rw} (hS : S.length ≤ 900) (hz : (lsts S).sum ≤ 900) {a0 a1 a3 a4 a5 a7 a8 : Option W} : ∀ (l : List D) (a6 a10 : Option W), (∀ X ∈ l, MatX X) → ∃ b6 b10 : Option W, forL (gSet 6) L_law_right_2 l (RE a0 a1 (some (.fz (sD false S))) a3 a4 a5 a6 a7 a8 (some (.fz (sD true S))) a10) = .ok (.nx, RE a0 a1 (some (.fz (sD false S))) a3 a4 a5 b6 a7 a8 (some (.fz (sD true S))) b10)
  | [], a6, a10, _ => ⟨a6, a10, rfl⟩
  | X :: l, a6, a10, h => by
    obtain ⟨x10, e1⟩ := mat_ok (S := S) (h X (by simp)) hS hz (a0 := a0) (a1 := a1) (a3 := a3) (a4 := a4) (a5 := a5) (a7 := a7) (a8 := a8) (a10 := a10)
    obtain ⟨b6, b10, e2⟩ := mats hS hz (a0 := a0) (a1 := a1) (a3 := a3) (a4 := a4) (a5 := a5) (a7 := a7) (a8 := a8) l (some (.fz X)) x10 fun Y hY => h Y (by simp [hY])
    exact ⟨b6, b10, for_nx rfl e1 e2⟩
theorem turn_ok {m : Nat} {β : Bx} (g : Gd (m + 42) β) {a1 a2 a3 a4 a5 a6 a7 a8 a9 a10 : Option W} : ∃ (β' : Bx) (b2 b3 b4 b5 b6 b7 b8 b9 b10 : Option W), Gd m β' ∧
    L_law_right_3 (RE (some (bx β)) a1 a2 a3 a4 a5 a6 a7 a8 a9 a10) = .ok (.nx, RE (some (bx β')) a1 b2 b3 b4 b5 b6 b7 b8 b9 b10) := by
  obtain ⟨S, β1, g1, h0, h1, _, h3, h4, e1⟩ := streams_ok (m := m + 14) g
  have hs : smS S := ⟨by omega, fun r hr => by have := h3 r hr; omega⟩
  obtain ⟨b7, b8, e3⟩ := rn_loop (a0 := some (bx β1)) (a1 := a1) (a2 := some (.fz (sD false S))) (a4 := a4) (a5 := a5) (a6 := a6) (a9 := a9) (a10 := a10) S 0 [] a7 a8 (by simp only [List.length_nil]; omega)
  rw [List.nil_append] at e3
  have pl := numF_len S 0
  obtain ⟨q, β2, g2, hq, e4⟩ := pick_ok (m := m + 6) (p := numF 0 S) (by omega) (g1.le (by omega))
  have ql := hq.length_eq
  have q3 : ∀ k ∈ q, k < 3 := fun k hk => by
    have := (numF_mem S 0 k (hq.mem_iff.mp hk)).2
    omega
  have vw := vw_perm hq
  obtain ⟨LW, s1, s2⟩ := soft_S hs
  have tp : fTupleN [.fz (.lst (nD q))] = .ok (.fz (.tpn (nD q))) := rfl
  obtain ⟨b3, f4⟩ := r4 (a1 := a1) (a2 := some (.fz (sD false S))) (a4 := a4) (a5 := a5) (a6 := a6) (a7 := b7) (a8 := b8) (a9 := a9) (a10 := a10) (nw_fr _) (nw_fr q) (len_nw _) e4 tp
  have hX : unkD (.tpn (nD q)) = tS q := rfl
  have ls : fList [.fz (tS q)] = .ok (.lst (nw q)) := by
    show Res.ok (W.lst ((nD q).map W.fz)) = _
    rw [nw_eq]
  have w1 := woven_ok (k := false) (B := tS q) h0 hs vw (by omega) rfl
  have w2 := woven_ok (k := true) (B := .lst (nD q)) h0 hs vw (by omega) rfl
  have f5 := r5 (a0 := some (bx β2)) (a1 := a1) (a3 := b3) (a5 := a5) (a6 := a6) (a7 := b7) (a8 := b8) (a9 := a9) (a10 := a10) hX s1 (made_ok h0 hs.1 vw (by omega))
  have f6 := r6 (a0 := some (bx β2)) (a1 := a1) (a3 := b3) (a5 := a5) (a6 := a6) (a7 := b7) (a8 := b8) (a10 := some (.fz (eR false (mk S (z0 S) q)))) hX s2 (nw_fr q) ls w1 w2
  have ml := mk_len (S := S) (z0 S) q vw
  obtain ⟨b5, f7⟩ := r7 (a0 := some (bx β2)) (a1 := a1) (a2 := some (.fz (sD false S))) (a3 := b3) (a4 := some (.fz (.tpn (nD q)))) (a6 := a6) (a7 := b7) (a8 := b8) (a9 := some (.fz (sD true S))) (sameR (r := mk S (z0 S) q) (by omega))
  obtain ⟨Y, β3, g3, my, e8⟩ := bent_ok (q := q) (m := m + 3) (by omega) q3 g2
  obtain ⟨Z, β4, g4, mz, e9⟩ := bent_ok (q := q) (m := m) (by omega) q3 g3
  obtain ⟨b6, b10, e10⟩ := mats (S := S) (by omega) (by omega) (a0 := some (bx β4)) (a1 := a1) (a3 := b3) (a4 := some (.fz (.tpn (nD q)))) (a5 := b5) (a7 := b7) (a8 := b8) [.tpn (nD q), Y, Z] a6 (some (.fz (eR false (mk S (z0 S) q)))) (fun X hX => by
    simp only [List.mem_cons, List.not_mem_nil, or_false] at hX
    rcases hX with rfl | rfl | rfl
    · exact MatX.tp (by rw [nD_len]; omega) okF_n
    · exact my
    · exact mz)
  have f8 := r8 (a1 := a1) (a2 := some (.fz (sD false S))) (a3 := b3) (a5 := b5) (a6 := a6) (a7 := b7) (a8 := b8) (a9 := some (.fz (sD true S))) (a10 := some (.fz (eR false (mk S (z0 S) q)))) hX e8 e9 e10
  have f3 := r3 (a0 := some (bx β1)) (a1 := a1) (a3 := some (.lst [])) (a4 := a4) (a5 := a5) (a6 := a6) (a7 := a7) (a8 := a8) (a9 := a9) (a10 := a10) (src_S (k := false) (S := S)) (by rw [enumD_len, List.length_map]; omega) e3
  exact ⟨β4, _, _, _, _, _, _, _, _, _, g4, seqN (r1 e1) (seqN r2 (seqN f3 (seqN f4 (seqN f5 (seqN f6 (seqN f7 f8))))))⟩
theorem turns : ∀ (ds : List D) (m : Nat) (β : Bx) (a1 a2 a3 a4 a5 a6 a7 a8 a9 a10 : Option W), Gd (m + 42 * ds.length) β → ∃ (β' : Bx) (b1 b2 b3 b4 b5 b6 b7 b8 b9 b10 : Option W), Gd m β' ∧
    forL (gSet 1) L_law_right_3 ds (RE (some (bx β)) a1 a2 a3 a4 a5 a6 a7 a8 a9 a10) = .ok (.nx, RE (some (bx β')) b1 b2 b3 b4 b5 b6 b7 b8 b9 b10)
  | [], m, β, a1, a2, a3, a4, a5, a6, a7, a8, a9, a10, g => ⟨β, a1, a2, a3, a4, a5, a6, a7, a8, a9, a10, g, rfl⟩
  | d :: ds, m, β, a1, a2, a3, a4, a5, a6, a7, a8, a9, a10, g => by
    rw [List.length_cons] at g
    obtain ⟨β1, x2, x3, x4, x5, x6, x7, x8, x9, x10, g1, e1⟩ := turn_ok (m := m + 42 * ds.length) (a1 := some (.fz d)) (a2 := a2) (a3 := a3) (a4 := a4) (a5 := a5) (a6 := a6) (a7 := a7) (a8 := a8) (a9 := a9) (a10 := a10) (g.le (by omega))
    obtain ⟨β2, y1, y2, y3, y4, y5, y6, y7, y8, y9, y10, g2, e2⟩ := turns ds m β1 (some (.fz d)) x2 x3 x4 x5 x6 x7 x8 x9 x10 g1
    exact ⟨β2, y1, y2, y3, y4, y5, y6, y7, y8, y9, y10, g2, for_nx rfl e1 e2⟩
theorem right_ok : Rk := fun β h0 => by
  obtain ⟨β', y1, y2, y3, y4, y5, y6, y7, y8, y9, y10, g', e'⟩ := turns (rangeD 0 6) 0 β none none none none none none none none none none ⟨by omega, by have : (rangeD 0 6).length = 6 := rfl; omega⟩
  refine ⟨β', ?_⟩
  have r : (rangeD 0 (6 : Int).toNat) = rangeD 0 6 := rfl
  have hl : (rangeD 0 6).length ≤ 1000000 := by decide
  have b : -1000000 ≤ (6 : Int) ∧ (6 : Int) ≤ 1000000 := by omega
  generalize rangeD 0 6 = R at *
  unfold F_law_right m_law_right
  generalize L_law_right_3 = L3 at *
  unfold RE at e'
  simp only [Bq,v_lcc,pend,cont,take,frz,frzs,getP,setP,Res.of,boolOf,isPl,mutS,mutP,intOf,move,retOf,backs1,put1,fzT,ioOf,chk,early,shut,isTmp,flatB,scal,List.map_cons,List.map_nil,List.cons_append,List.nil_append,List.append_nil,List.replicate_succ,List.replicate_zero,List.replicate,List.length_cons,List.length_nil,List.getElem?_cons_zero,List.getElem?_cons_succ,List.set_cons_zero,List.set_cons_succ,List.all_cons,List.all_nil,List.contains_cons,List.contains_nil,List.elem_cons,List.elem_nil,List.isEmpty_nil,List.isEmpty_cons,Nat.reduceAdd,Nat.reduceSub,Nat.reduceBEq,Nat.reduceLT,Nat.reduceLeDiff,Nat.reduceEqDiff,decide_true,decide_false,Bool.and_true,Bool.true_and,Bool.or_true,Bool.true_or,Bool.or_false,Bool.false_or,Bool.and_false,Bool.false_and,Bool.not_true,Bool.not_false,Bool.false_eq_true,reduceIte,ite_true,ite_false,beq_self_eq_true,Nat.zero_add,reduceCtorEq,and_self,true_and,and_true,ge_iff_le,gt_iff_lt,Nat.succ_eq_add_one,Nat.add_one_sub_one,Nat.zero_lt_succ,Nat.lt_add_left_iff_pos,wipeE,restE,pick,List.filterMap_cons,List.filterMap_nil,Int.reduceLE,Int.reduceLT,Int.reduceNeg,decide_eq_true_eq,Bool.not_eq_true',decide_eq_false_iff_not,isT,seqV,tupV,lstV,Option.getD,r,hl,b,e']
end Gn
namespace Gn
open Mi PySem
theorem hand : F_law_by_hand_right [] = .ok (.fz (.bl true), []) := by kernel_rfl
end Gn
namespace Gn
open Mi PySem
theorem run1 {n : Nat} {c : CS} {x : D} {w : W} {ρ : En} {y : Option W} (h : c (some (.fz x) :: List.replicate n none) = .ok (.ret w, y :: ρ)) : runDef 1 (n + 1) (ioOf []) c [.fz x] = .ok (w, [.fz x]) := by
  have h2 : c ([.fz x].map some ++ List.replicate (n + 1 - 1) none) = .ok (.ret w, y :: ρ) := h
  rw [v_def, show chk (([W.fz x] : List W).length == 1) = .ok () from rfl, v_ok, v_def1, h2, v_ok, v_def2]
  rfl
theorem law_s1 {s : W} {cs : List Int} (ce : F_law_cells [.fz (frz s), .fz (.int 3)] = .ok (cw cs, [.fz (frz s), .fz (.int 3)])) (hs : ∃ d, s = .fz d) : cAsg (gSet 1) (cCallP false F_law_cells (cCons true (cVar 0) (cCons true (cC (.int 3)) cNil))) [some s, none, none] = .ok (.nx, [some s, some (cw cs), none]) := by
  obtain ⟨d, rfl⟩ := hs
  simp only [frz] at ce
  simp only [Bq,v_forc,v_lcc,pend,cont,take,frz,frzs,getP,setP,Res.of,boolOf,isPl,mutS,mutP,intOf,move,retOf,backs1,put1,fzT,ioOf,chk,early,shut,isTmp,flatB,scal,List.map_cons,List.map_nil,List.cons_append,List.nil_append,List.append_nil,List.replicate_succ,List.replicate_zero,List.replicate,List.length_cons,List.length_nil,List.getElem?_cons_zero,List.getElem?_cons_succ,List.set_cons_zero,List.set_cons_succ,List.all_cons,List.all_nil,List.contains_cons,List.contains_nil,List.elem_cons,List.elem_nil,List.isEmpty_nil,List.isEmpty_cons,Nat.reduceAdd,Nat.reduceSub,Nat.reduceBEq,Nat.reduceLT,Nat.reduceLeDiff,Nat.reduceEqDiff,decide_true,decide_false,Bool.and_true,Bool.true_and,Bool.or_true,Bool.true_or,Bool.or_false,Bool.false_or,Bool.and_false,Bool.false_and,Bool.not_true,Bool.not_false,Bool.false_eq_true,reduceIte,ite_true,ite_false,beq_self_eq_true,Nat.zero_add,reduceCtorEq,and_self,true_and,and_true,ge_iff_le,gt_iff_lt,Nat.succ_eq_add_one,Nat.add_one_sub_one,Nat.zero_lt_succ,Nat.lt_add_left_iff_pos,wipeE,restE,pick,List.filterMap_cons,List.filterMap_nil,Int.reduceLE,Int.reduceLT,Int.reduceNeg,decide_eq_true_eq,Bool.not_eq_true',decide_eq_false_iff_not,isT,seqV,tupV,lstV,Option.getD,ce]
theorem law_s2 {FH : Fn} (hh : FH [] = .ok (.fz (.bl true), [])) {a b c : Option W} : cIfS (cNotT (cTest (cCallP true FH cNil))) (cRet (cC (.bl false))) cNext [a, b, c] = .ok (.nx, [a, b, c]) := by
  simp only [Bq,v_forc,v_lcc,pend,cont,take,frz,frzs,getP,setP,Res.of,boolOf,isPl,mutS,mutP,intOf,move,retOf,backs1,put1,fzT,ioOf,chk,early,shut,isTmp,flatB,scal,List.map_cons,List.map_nil,List.cons_append,List.nil_append,List.append_nil,List.replicate_succ,List.replicate_zero,List.replicate,List.length_cons,List.length_nil,List.getElem?_cons_zero,List.getElem?_cons_succ,List.set_cons_zero,List.set_cons_succ,List.all_cons,List.all_nil,List.contains_cons,List.contains_nil,List.elem_cons,List.elem_nil,List.isEmpty_nil,List.isEmpty_cons,Nat.reduceAdd,Nat.reduceSub,Nat.reduceBEq,Nat.reduceLT,Nat.reduceLeDiff,Nat.reduceEqDiff,decide_true,decide_false,Bool.and_true,Bool.true_and,Bool.or_true,Bool.true_or,Bool.or_false,Bool.false_or,Bool.and_false,Bool.false_and,Bool.not_true,Bool.not_false,Bool.false_eq_true,reduceIte,ite_true,ite_false,beq_self_eq_true,Nat.zero_add,reduceCtorEq,and_self,true_and,and_true,ge_iff_le,gt_iff_lt,Nat.succ_eq_add_one,Nat.add_one_sub_one,Nat.zero_lt_succ,Nat.lt_add_left_iff_pos,wipeE,restE,pick,List.filterMap_cons,List.filterMap_nil,Int.reduceLE,Int.reduceLT,Int.reduceNeg,decide_eq_true_eq,Bool.not_eq_true',decide_eq_false_iff_not,isT,seqV,tupV,lstV,Option.getD,hh]
theorem law_s3 {s w1 : W} {cs : List Int} (ci : cLc [2] (iRange1 (cCallB fLen (cCons true (cVar 1) cNil))) (gSet 2) cYes Elaw_1 [some s, some (cw cs), none] = .ok (.tmp (.lst ((List.range cs.length).map fun _ => W.fz (.bl true))), [some s, some w1, none])) :
    cRet (cCallB fAll (cCons true (cLc [2] (iRange1 (cCallB fLen (cCons true (cVar 1) cNil))) (gSet 2) cYes Elaw_1) cNil)) [some s, some (cw cs), none] = .ok (.ret (.fz (.bl true)), [some s, some w1, none]) := by
  have al := all_true (List.range cs.length)
  rw [v_ret, v_callB, v_cons, ci]
  simp only [Bq,v_forc,v_lcc,pend,cont,take,frz,frzs,getP,setP,Res.of,boolOf,isPl,mutS,mutP,intOf,move,retOf,backs1,put1,fzT,ioOf,chk,early,shut,isTmp,flatB,scal,List.map_cons,List.map_nil,List.cons_append,List.nil_append,List.append_nil,List.replicate_succ,List.replicate_zero,List.replicate,List.length_cons,List.length_nil,List.getElem?_cons_zero,List.getElem?_cons_succ,List.set_cons_zero,List.set_cons_succ,List.all_cons,List.all_nil,List.contains_cons,List.contains_nil,List.elem_cons,List.elem_nil,List.isEmpty_nil,List.isEmpty_cons,Nat.reduceAdd,Nat.reduceSub,Nat.reduceBEq,Nat.reduceLT,Nat.reduceLeDiff,Nat.reduceEqDiff,decide_true,decide_false,Bool.and_true,Bool.true_and,Bool.or_true,Bool.true_or,Bool.or_false,Bool.false_or,Bool.and_false,Bool.false_and,Bool.not_true,Bool.not_false,Bool.false_eq_true,reduceIte,ite_true,ite_false,beq_self_eq_true,Nat.zero_add,reduceCtorEq,and_self,true_and,and_true,ge_iff_le,gt_iff_lt,Nat.succ_eq_add_one,Nat.add_one_sub_one,Nat.zero_lt_succ,Nat.lt_add_left_iff_pos,wipeE,restE,pick,List.filterMap_cons,List.filterMap_nil,Int.reduceLE,Int.reduceLT,Int.reduceNeg,decide_eq_true_eq,Bool.not_eq_true',decide_eq_false_iff_not,isT,seqV,tupV,lstV,Option.getD,frzs_fz,al]
theorem law_all (ns : List Int) (hn : ns.length ≤ 63) : ∃ bk, Flaw [.fz (.scr (ns.map D.int))] = .ok (.fz (.bl true), bk) := by
  obtain ⟨cs, c0, c1, ce⟩ := cells_ok (ns := ns) (t := 3) (by decide) (by decide) hn
  have ce' : F_law_cells [.fz (.scr (ns.map D.int)), .fz (.int 3)] = .ok (cw cs, [.fz (.scr (ns.map D.int)), .fz (.int 3)]) := ce
  obtain ⟨w1', ci⟩ := law_lc right_ok (s := .fz (.scr (ns.map D.int))) (cs := cs) (by omega)
  have h : mlaw [some (.fz (.scr (ns.map D.int))), none, none] = .ok (.ret (.fz (.bl true)), [some (.fz (.scr (ns.map D.int))), some w1', none]) :=
    seqN (law_s2 hand) (seqN (law_s1 (s := .fz (.scr (ns.map D.int))) ce' ⟨_, rfl⟩) (law_s3 ci))
  exact ⟨_, run1 (n := 2) h⟩
end Gn
theorem PySem.Challenge.cw_boundedlevels_k38_weavings_of_streams_holds : PySem.Challenge.rw_boundedlevels_k38_weavings_of_streams.Holds :=
  Gn.law_holds Gn.law_all
