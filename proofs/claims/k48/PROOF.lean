import PyProof.Rows.All
import Wide.All
import OpenK.AllK
import Wide.FinOn
import HandS.ForMost
import HandS.ForExc
import HandS.Wide
import HandS.IsInst
import HandS.TupAny
import HandS.TupMul
import HandS.CallSlots
import HandS.Defaults
import HandS.TryOnly
import HandS.Rev
import KE.KTupSum
import KE.DataMinMax
import HandS.ExcOwn
import HandS.Conv
import HandS.Style
import KE.KIndexOf
import KE.DataFind
import HandS.SortInts
import PyProof.Rows.SortShell
import KE.OsSort
import HandS.Head0
import HandS.Head1
import HandS.Head2
import HandS.HeadEnd
import HandS.HeadHook1
import HandS.HeadHook2
import PySem.Challenge.RW_owncause_k48_whole_numbers_of_many_membe
import KE.KStateDown
import Lean
import HandS.Base
import HandS.Call
import HandS.Ends
import HandS.More
import HandS.Words
import HandS.WordsExc
set_option Elab.async false
set_option linter.all false
set_option maxRecDepth 100000
set_option maxHeartbeats 0
namespace Cl
open PySem PySem.Spec PyProof.Rows L2
/-! ### data: what a value is, as a tree -/
inductive D where
  | v (x : V)
  | tup (ds : List D)
  | lst (ds : List D)
  | dK (ks : List Key) (ds : List D)
  | dT (ks : List (List Key)) (ds : List D)
  | obj (C : Addr) (ns : List Str) (ds : List D)
  | scr (ns : List Int)
  | ktup (ds : List D)
abbrev D.int (i : Int) : D := .v (.int i)
abbrev D.bl (b : Bool) : D := .v (.bl b)
abbrev D.str (s : Str) : D := .v (.str s)
abbrev D.non : D := .v .non
abbrev D.ty (n : String) : D := .v (.ty n)
/-- a tuple whose object is known: a constant of the module, one that is kept as it is -/
def KT (K : PySem.W.Frag) (S : Hp) (a : Addr) (xs : List V) : Prop :=
  (∃ o, S a = some (.frz o (.tup xs)) ∧ o.dict = none) ∨ ∃ (o : Obj) (its : Array Value) (n : Nat), K.lookup a = some o ∧ o.cls = .type "tuple" ∧ o.dict = none ∧ o.data = .seq its n ∧ its.size ≤ sizeLine ∧ Vals xs its.toList
theorem KT.mono {K : PySem.W.Frag} {S S' : Hp} {a : Addr} {xs : List V} (e : Same S S') (h : KT K S a xs) : KT K S' a xs := by
  rcases h with ⟨o, h, d⟩ | h
  · exact .inl ⟨o, e _ _ h, d⟩
  · exact .inr h
theorem KT.seq {K : PySem.W.Frag} {S : Hp} {a : Addr} {xs : List V} (h : KT K S a xs) : SqT K S a xs := by
  rcases h with ⟨o, h, _⟩ | ⟨o, its, n, h1, h2, _, h3, h4, h5⟩
  · exact .inl (.inr ⟨o, h⟩)
  · exact .inr ⟨o, its, n, h1, h2, h3, h4, h5⟩
mutual
def Rep (K : PySem.W.Frag) (S : Hp) : V → D → Prop
  | x, .v y => x = y
  | x, .tup ds => ∃ a xs, x = .ref a ∧ S a = some (.tup xs) ∧ Reps K S xs ds
  | x, .lst ds => ∃ a xs, x = .ref a ∧ S a = some (.lst xs) ∧ Reps K S xs ds
  | x, .dK ks ds => ∃ a kvs, x = .ref a ∧ S a = some (.dK kvs) ∧ kvs.map (·.1) = ks ∧ Reps K S (kvs.map (·.2)) ds
  | x, .dT ks ds => ∃ a kvs, x = .ref a ∧ S a = some (.dT kvs) ∧ kvs.map (·.1) = ks ∧ Reps K S (kvs.map (·.2)) ds
  | x, .obj C ns ds => ∃ a dx fs, x = .ref a ∧ S a = some (.ins C dx fs) ∧ fs.map (·.1) = ns ∧ Reps K S (fs.map (·.2)) ds
  | x, .scr ns => ∃ a, x = .ref a ∧ SqL K S a (ns.map V.int)
  | x, .ktup ds => ∃ a xs, x = .ref a ∧ KT K S a xs ∧ Reps K S xs ds
def Reps (K : PySem.W.Frag) (S : Hp) : List V → List D → Prop
  | xs, [] => xs = []
  | xs, d :: ds => ∃ y ys, xs = y :: ys ∧ Rep K S y d ∧ Reps K S ys ds
end
theorem same_seqL {K : PySem.W.Frag} {S S' : Hp} {a : Addr} {xs : List V} (e : Same S S') (h : SqL K S a xs) : SqL K S' a xs := e.seq h
theorem same_seqT {K : PySem.W.Frag} {S S' : Hp} {a : Addr} {xs : List V} (e : Same S S') (h : SqT K S a xs) : SqT K S' a xs := by
  rcases h with (h | ⟨o, h⟩) | h
  · exact .inl (.inl (e _ _ h))
  · exact .inl (.inr ⟨o, e _ _ h⟩)
  · exact .inr h
theorem SqT.sm {K : PySem.W.Frag} {S H : Hp} {a : Addr} {xs : List V} (e : Same S H) (h : S a = some (.tup xs)) : SqT K H a xs := .inl (.inl (e _ _ h))
mutual
theorem Rep.mono {K : PySem.W.Frag} {S S' : Hp} (e : Same S S') : ∀ {x : V} {d : D}, Rep K S x d → Rep K S' x d
  | x, .v y, h => h
  | x, .tup ds, h => by
    obtain ⟨a, xs, h1, h2, h3⟩ := h
    exact ⟨a, xs, h1, e _ _ h2, Reps.mono e h3⟩
  | x, .lst ds, h => by
    obtain ⟨a, xs, h1, h2, h3⟩ := h
    exact ⟨a, xs, h1, e _ _ h2, Reps.mono e h3⟩
  | x, .dK ks ds, h => by
    obtain ⟨a, kvs, h1, h2, h3, h4⟩ := h
    exact ⟨a, kvs, h1, e _ _ h2, h3, Reps.mono e h4⟩
  | x, .dT ks ds, h => by
    obtain ⟨a, kvs, h1, h2, h3, h4⟩ := h
    exact ⟨a, kvs, h1, e _ _ h2, h3, Reps.mono e h4⟩
  | x, .obj C ns ds, h => by
    obtain ⟨a, dx, fs, h1, h2, h3, h4⟩ := h
    exact ⟨a, dx, fs, h1, e _ _ h2, h3, Reps.mono e h4⟩
  | x, .scr ns, h => by
    obtain ⟨a, h1, h2⟩ := h
    exact ⟨a, h1, same_seqL e h2⟩
  | x, .ktup ds, h => by
    obtain ⟨a, xs, h1, h2, h3⟩ := h
    exact ⟨a, xs, h1, h2.mono e, Reps.mono e h3⟩
theorem Reps.mono {K : PySem.W.Frag} {S S' : Hp} (e : Same S S') : ∀ {xs : List V} {ds : List D}, Reps K S xs ds → Reps K S' xs ds
  | xs, [], h => h
  | xs, d :: ds, h => by
    obtain ⟨y, ys, h1, h2, h3⟩ := h
    exact ⟨y, ys, h1, Rep.mono e h2, Reps.mono e h3⟩
end
/-! ### who may change it: shapes -/
inductive Sh where
  | s
  | l (w : Sh)
  | k (w : Sh)
  | t (w : Sh)
  | o (ws : List Sh)
def Each (P : V → D → List Addr → Prop) : List V → List D → List Addr → Prop
  | [], [], as => as = []
  | x :: xs, d :: ds, as => ∃ a1 a2, as = a1 ++ a2 ∧ P x d a1 ∧ Each P xs ds a2
  | _, _, _ => False
mutual
def Own (K : PySem.W.Frag) (S H : Hp) : Sh → V → D → List Addr → Prop
  | .s, x, d, as => as = [] ∧ Rep K S x d
  | .l w, x, d, as => ∃ a xs ds as', x = .ref a ∧ d = .lst ds ∧ H a = some (.lst xs) ∧ as = a :: as' ∧ Each (Own K S H w) xs ds as'
  | .k w, x, d, as => ∃ a kvs ks ds as', x = .ref a ∧ d = .dK ks ds ∧ H a = some (.dK kvs) ∧ kvs.map (·.1) = ks ∧ ks.Nodup ∧ as = a :: as' ∧ Each (Own K S H w) (kvs.map (·.2)) ds as'
  | .t w, x, d, as => ∃ a kvs ks ds as', x = .ref a ∧ d = .dT ks ds ∧ H a = some (.dT kvs) ∧ kvs.map (·.1) = ks ∧ ks.Nodup ∧ as = a :: as' ∧ Each (Own K S H w) (kvs.map (·.2)) ds as'
  | .o ws, x, d, as => ∃ a C dx fs ns ds as', x = .ref a ∧ d = .obj C ns ds ∧ H a = some (.ins C dx fs) ∧ H dx = some (.own a) ∧ fs.map (·.1) = ns ∧ as = a :: dx :: as' ∧ Owns K S H ws (fs.map (·.2)) ds as'
def Owns (K : PySem.W.Frag) (S H : Hp) : List Sh → List V → List D → List Addr → Prop
  | [], xs, ds, as => xs = [] ∧ ds = [] ∧ as = []
  | w :: ws, xs, ds, as => ∃ y ys d ds' a1 a2, xs = y :: ys ∧ ds = d :: ds' ∧ as = a1 ++ a2 ∧ Own K S H w y d a1 ∧ Owns K S H ws ys ds' a2
end
end Cl
namespace Cl
open PySem PySem.Spec PyProof.Rows L2
theorem Each.mono {P Q : V → D → List Addr → Prop} : ∀ {xs : List V} {ds : List D} {as : List Addr}, Each P xs ds as → (∀ x d bs, (∀ b ∈ bs, b ∈ as) → P x d bs → Q x d bs) → Each Q xs ds as
  | [], [], as, h, _ => h
  | x :: xs, d :: ds, as, h, f => by
    obtain ⟨a1, a2, rfl, h1, h2⟩ := h
    exact ⟨a1, a2, rfl, f x d a1 (fun b hb => List.mem_append_left _ hb) h1, Each.mono h2 fun y e bs hb hp => f y e bs (fun b z => List.mem_append_right _ (hb b z)) hp⟩
  | [], _ :: _, _, h, _ => h.elim
  | _ :: _, [], _, h, _ => h.elim
mutual
theorem Own.mono {K : PySem.W.Frag} {S S' H H' : Hp} (e : Same S S') : ∀ {w : Sh} {x : V} {d : D} {as : List Addr}, Own K S H w x d as → (∀ a ∈ as, ∀ o, H a = some o → H' a = some o) → Own K S' H' w x d as
  | .s, x, d, as, h, k => by
    unfold Own at h ⊢
    exact ⟨h.1, h.2.mono e⟩
  | .l w, x, d, as, h, k => by
    unfold Own at h ⊢
    obtain ⟨a, xs, ds, as', h1, h2, h3, h4, h5⟩ := h
    subst h4
    exact ⟨a, xs, ds, as', h1, h2, k a List.mem_cons_self _ h3, rfl, h5.mono fun y d' bs hb hp => Own.mono e hp fun b hb' => k b (List.mem_cons_of_mem _ (hb b hb'))⟩
  | .k w, x, d, as, h, k => by
    unfold Own at h ⊢
    obtain ⟨a, kvs, ks, ds, as', h1, h2, h3, h4, h5, h6, h7⟩ := h
    subst h6
    exact ⟨a, kvs, ks, ds, as', h1, h2, k a List.mem_cons_self _ h3, h4, h5, rfl, h7.mono fun y d' bs hb hp => Own.mono e hp fun b hb' => k b (List.mem_cons_of_mem _ (hb b hb'))⟩
  | .t w, x, d, as, h, k => by
    unfold Own at h ⊢
    obtain ⟨a, kvs, ks, ds, as', h1, h2, h3, h4, h5, h6, h7⟩ := h
    subst h6
    exact ⟨a, kvs, ks, ds, as', h1, h2, k a List.mem_cons_self _ h3, h4, h5, rfl, h7.mono fun y d' bs hb hp => Own.mono e hp fun b hb' => k b (List.mem_cons_of_mem _ (hb b hb'))⟩
  | .o ws, x, d, as, h, k => by
    unfold Own at h ⊢
    obtain ⟨a, C, dx, fs, ns, ds, as', h1, h2, h3, h3', h4, h5, h6⟩ := h
    subst h5
    exact ⟨a, C, dx, fs, ns, ds, as', h1, h2, k a List.mem_cons_self _ h3, k dx (List.mem_cons_of_mem _ List.mem_cons_self) _ h3', h4, rfl, Owns.mono e h6 fun b hb => k b (List.mem_cons_of_mem _ (List.mem_cons_of_mem _ hb))⟩
theorem Owns.mono {K : PySem.W.Frag} {S S' H H' : Hp} (e : Same S S') : ∀ {ws : List Sh} {xs : List V} {ds : List D} {as : List Addr}, Owns K S H ws xs ds as → (∀ a ∈ as, ∀ o, H a = some o → H' a = some o) → Owns K S' H' ws xs ds as
  | [], xs, ds, as, h, k => h
  | w :: ws, xs, ds, as, h, k => by
    obtain ⟨y, ys, d, ds', a1, a2, h1, h2, h3, h4, h5⟩ := h
    subst h3
    exact ⟨y, ys, d, ds', a1, a2, h1, h2, rfl, Own.mono e h4 fun b hb => k b (List.mem_append_left _ hb), Owns.mono e h5 fun b hb => k b (List.mem_append_right _ hb)⟩
end
theorem Each.mem {P : V → D → List Addr → Prop} {R : Addr → Prop} : ∀ {xs : List V} {ds : List D} {as : List Addr}, Each P xs ds as → (∀ x d bs, P x d bs → ∀ b ∈ bs, R b) → ∀ b ∈ as, R b
  | [], [], as, h, _, b, hb => by
    have h : as = [] := h
    subst h
    exact absurd hb (by simp)
  | x :: xs, d :: ds, as, h, f, b, hb => by
    obtain ⟨a1, a2, rfl, h1, h2⟩ := h
    rcases List.mem_append.mp hb with z | z
    · exact f x d a1 h1 b z
    · exact Each.mem h2 f b z
  | [], _ :: _, _, h, _, _, _ => h.elim
  | _ :: _, [], _, h, _, _, _ => h.elim
mutual
theorem Own.live {K : PySem.W.Frag} {S H : Hp} : ∀ {w : Sh} {x : V} {d : D} {as : List Addr}, Own K S H w x d as → ∀ b ∈ as, ∃ o, H b = some o
  | .s, x, d, as, h, b, hb => by
    unfold Own at h
    rw [h.1] at hb
    exact absurd hb (by simp)
  | .l w, x, d, as, h, b, hb => by
    unfold Own at h
    obtain ⟨a, xs, ds, as', h1, h2, h3, h4, h5⟩ := h
    subst h4
    rcases List.mem_cons.mp hb with rfl | z
    · exact ⟨_, h3⟩
    · exact h5.mem (fun y d' bs hp => Own.live hp) b z
  | .k w, x, d, as, h, b, hb => by
    unfold Own at h
    obtain ⟨a, kvs, ks, ds, as', h1, h2, h3, h4, h5, h6, h7⟩ := h
    subst h6
    rcases List.mem_cons.mp hb with rfl | z
    · exact ⟨_, h3⟩
    · exact h7.mem (fun y d' bs hp => Own.live hp) b z
  | .t w, x, d, as, h, b, hb => by
    unfold Own at h
    obtain ⟨a, kvs, ks, ds, as', h1, h2, h3, h4, h5, h6, h7⟩ := h
    subst h6
    rcases List.mem_cons.mp hb with rfl | z
    · exact ⟨_, h3⟩
    · exact h7.mem (fun y d' bs hp => Own.live hp) b z
  | .o ws, x, d, as, h, b, hb => by
    unfold Own at h
    obtain ⟨a, C, dx, fs, ns, ds, as', h1, h2, h3, h3', h4, h5, h6⟩ := h
    subst h5
    rcases List.mem_cons.mp hb with rfl | z
    · exact ⟨_, h3⟩
    rcases List.mem_cons.mp z with rfl | z
    · exact ⟨_, h3'⟩
    · exact Owns.live h6 b z
theorem Owns.live {K : PySem.W.Frag} {S H : Hp} : ∀ {ws : List Sh} {xs : List V} {ds : List D} {as : List Addr}, Owns K S H ws xs ds as → ∀ b ∈ as, ∃ o, H b = some o
  | [], xs, ds, as, h, b, hb => by
    rw [h.2.2] at hb
    exact absurd hb (by simp)
  | w :: ws, xs, ds, as, h, b, hb => by
    obtain ⟨y, ys, d, ds', a1, a2, h1, h2, h3, h4, h5⟩ := h
    subst h3
    rcases List.mem_append.mp hb with z | z
    · exact Own.live h4 b z
    · exact Owns.live h5 b z
end
/-- the shared part with the own part at as let into it -/
def join (S H : Hp) (as : List Addr) : Hp := fun b => if b ∈ as then H b else S b
theorem join_mem {S H : Hp} {as : List Addr} {b : Addr} (h : b ∈ as) : join S H as b = H b := if_pos h
theorem join_out {S H : Hp} {as : List Addr} {b : Addr} (h : b ∉ as) : join S H as b = S b := if_neg h
theorem join_same {S H : Hp} {as : List Addr} (h : ∀ b ∈ as, S b = none) : Same S (join S H as) := fun b o e => by
  by_cases hb : b ∈ as
  · rw [h b hb] at e
    cases e
  · rw [join_out hb]
    exact e
theorem join_sub {S H : Hp} {as : List Addr} (h : Same S H) : Same (join S H as) H := fun b o e => by
  by_cases hb : b ∈ as
  · rw [join_mem hb] at e
    exact e
  · rw [join_out hb] at e
    exact h b o e
theorem Each.reps {K : PySem.W.Frag} {S' : Hp} {P : V → D → List Addr → Prop} : ∀ {xs : List V} {ds : List D} {as : List Addr}, Each P xs ds as → (∀ x d bs, (∀ b ∈ bs, b ∈ as) → P x d bs → Rep K S' x d) → Reps K S' xs ds
  | [], [], as, h, _ => rfl
  | x :: xs, d :: ds, as, h, f => by
    obtain ⟨a1, a2, rfl, h1, h2⟩ := h
    exact ⟨x, xs, rfl, f x d a1 (fun b hb => List.mem_append_left _ hb) h1, Each.reps h2 fun y e bs hb hp => f y e bs (fun b z => List.mem_append_right _ (hb b z)) hp⟩
  | [], _ :: _, _, h, _ => h.elim
  | _ :: _, [], _, h, _ => h.elim
mutual
/-- an own value is let into the shared part -/
theorem Own.rep {K : PySem.W.Frag} {S S' H : Hp} (e : Same S S') : ∀ {w : Sh} {x : V} {d : D} {as : List Addr}, Own K S H w x d as → (∀ b ∈ as, ∀ o, H b = some o → S' b = some o) → Rep K S' x d
  | .s, x, d, as, h, k => by
    unfold Own at h
    exact h.2.mono e
  | .l w, x, d, as, h, k => by
    unfold Own at h
    obtain ⟨a, xs, ds, as', h1, h2, h3, h4, h5⟩ := h
    subst h4 h2
    exact ⟨a, xs, h1, (k a List.mem_cons_self _ h3), h5.reps fun y d' bs hb hp => Own.rep e hp fun b z => k b (List.mem_cons_of_mem _ (hb b z))⟩
  | .k w, x, d, as, h, k => by
    unfold Own at h
    obtain ⟨a, kvs, ks, ds, as', h1, h2, h3, h4, h5, h6, h7⟩ := h
    subst h6 h2
    exact ⟨a, kvs, h1, k a List.mem_cons_self _ h3, h4, h7.reps fun y d' bs hb hp => Own.rep e hp fun b z => k b (List.mem_cons_of_mem _ (hb b z))⟩
  | .t w, x, d, as, h, k => by
    unfold Own at h
    obtain ⟨a, kvs, ks, ds, as', h1, h2, h3, h4, h5, h6, h7⟩ := h
    subst h6 h2
    exact ⟨a, kvs, h1, k a List.mem_cons_self _ h3, h4, h7.reps fun y d' bs hb hp => Own.rep e hp fun b z => k b (List.mem_cons_of_mem _ (hb b z))⟩
  | .o ws, x, d, as, h, k => by
    unfold Own at h
    obtain ⟨a, C, dx, fs, ns, ds, as', h1, h2, h3, h3', h4, h5, h6⟩ := h
    subst h5 h2
    exact ⟨a, dx, fs, h1, k a List.mem_cons_self _ h3, h4, Owns.reps e h6 fun b z => k b (List.mem_cons_of_mem _ (List.mem_cons_of_mem _ z))⟩
theorem Owns.reps {K : PySem.W.Frag} {S S' H : Hp} (e : Same S S') : ∀ {ws : List Sh} {xs : List V} {ds : List D} {as : List Addr}, Owns K S H ws xs ds as → (∀ b ∈ as, ∀ o, H b = some o → S' b = some o) → Reps K S' xs ds
  | [], xs, ds, as, h, k => by
    obtain ⟨rfl, rfl, rfl⟩ := h
    rfl
  | w :: ws, xs, ds, as, h, k => by
    obtain ⟨y, ys, d, ds', a1, a2, h1, h2, h3, h4, h5⟩ := h
    subst h3 h2
    exact ⟨y, ys, h1, Own.rep e h4 fun b z => k b (List.mem_append_left _ z), Owns.reps e h5 fun b z => k b (List.mem_append_right _ z)⟩
end
theorem Own.freeze {K : PySem.W.Frag} {S H : Hp} {w : Sh} {x : V} {d : D} {as : List Addr} (h : Own K S H w x d as) (hs : ∀ b ∈ as, S b = none) : Rep K (join S H as) x d :=
  h.rep (join_same hs) fun b hb o e => by rw [join_mem hb]; exact e
/-! ### steps -/
structure Stp (S H : Hp) (A : Addr → Prop) (S' H' : Hp) (A' : Addr → Prop) : Prop where
  sh : Same S S'
  fr : ∀ b o, H b = some o → ¬ A b → H' b = some o
  sf : ∀ b o, S' b = some o → S b = some o ∨ H b = none ∨ A b
  af : ∀ b, A' b → A b ∨ H b = none
  dom : ∀ b, H' b = none → H b = none
theorem Stp.refl {S H : Hp} {A : Addr → Prop} : Stp S H A S H A := ⟨Same.refl S, fun _ _ e _ => e, fun _ _ e => .inl e, fun _ e => .inl e, fun _ e => e⟩
end Cl
namespace Cl
open PySem PySem.Spec PyProof.Rows L2
abbrev St := L2.St
theorem Stp.trans {S H S1 H1 S2 H2 : Hp} {A A1 A2 : Addr → Prop} (x : Stp S H A S1 H1 A1) (y : Stp S1 H1 A1 S2 H2 A2) : Stp S H A S2 H2 A2 where
  sh := x.sh.trans y.sh
  fr := fun b o e na => y.fr b o (x.fr b o e na) fun h => (x.af b h).elim na fun q => by rw [q] at e; cases e
  sf := fun b o e => (y.sf b o e).elim (fun h => x.sf b o h) fun h => h.elim (fun q => .inr (.inl (x.dom b q))) fun q => (x.af b q).elim (fun z => .inr (.inr z)) fun z => .inr (.inl z)
  af := fun b h => (y.af b h).elim (fun q => x.af b q) fun q => .inr (x.dom b q)
  dom := fun b h => x.dom b (y.dom b h)
theorem Stp.imp {S H S' H' : Hp} {A A' B' : Addr → Prop} (x : Stp S H A S' H' A') (h : ∀ b, B' b → A' b) : Stp S H A S' H' B' :=
  ⟨x.sh, x.fr, x.sf, fun b q => x.af b (h b q), x.dom⟩
/-! ### results -/
abbrev Rho := List (Option D)
inductive Rs (α : Type) where
  | ok (a : α)
  | ex (c : Addr) (x : Option (List (Str × D)))
abbrev EM (α : Type) := Rho → Option (Rs α × Rho)
namespace EM
def ret {α : Type} (a : α) : EM α := fun ρ => some (.ok a, ρ)
def bind {α β : Type} (m : EM α) (f : α → EM β) : EM β := fun ρ => match m ρ with
  | some (.ok a, ρ') => f a ρ'
  | some (.ex c x, ρ') => some (.ex c x, ρ')
  | none => none
def lift {α : Type} (o : Option α) : EM α := fun ρ => match o with
  | some a => some (.ok a, ρ)
  | none => none
end EM
theorem bind_cases {α β : Type} {m : EM α} {f : α → EM β} {ρ ρ' : Rho} {r : Rs β} (h : EM.bind m f ρ = some (r, ρ')) :
    (∃ a ρ1, m ρ = some (.ok a, ρ1) ∧ f a ρ1 = some (r, ρ')) ∨ ∃ c x, m ρ = some (.ex c x, ρ') ∧ r = .ex c x := by
  unfold EM.bind at h
  split at h
  · exact .inl ⟨_, _, by assumption, h⟩
  · rename_i c x ρ1 e
    have h2 := Option.some.inj h
    obtain ⟨h3, h4⟩ := Prod.mk.inj h2
    subst h4
    exact .inr ⟨c, x, e, h3.symm⟩
  · cases h
theorem lift_cases {α : Type} {o : Option α} {ρ ρ' : Rho} {r : Rs α} (h : EM.lift o ρ = some (r, ρ')) : ∃ a, o = some a ∧ r = .ok a ∧ ρ' = ρ := by
  unfold EM.lift at h
  split at h
  · rename_i a
    have h2 := Option.some.inj h
    obtain ⟨h3, h4⟩ := Prod.mk.inj h2
    exact ⟨a, rfl, h3.symm, h4.symm⟩
  · cases h
/-! ### the context of a def -/
structure Cc where
  X : Cx
  W : WX
  Om : List Sh
  fx : List Nat
  wr : Sh
abbrev Cc.sh (G : Cc) (i : Nat) : Sh := G.Om.getD i .s
theorem nfx {l : List Nat} {i : Nat} (h : l.contains i = false) : i ∉ l := fun z => by
  rw [List.contains_iff_mem.mpr z] at h
  cases h
theorem nfxs {l vs : List Nat} (h : (vs.all fun i => !l.contains i) = true) : ∀ i ∈ vs, i ∉ l := fun i hi => nfx (by
  have := List.all_eq_true.mp h i hi
  simpa using this)
def Sh.pl : Sh → Bool
  | .s => true
  | _ => false
theorem Sh.pl_eq {w : Sh} (h : w.pl = true) : w = .s := by cases w <;> first | rfl | cases h
theorem allS {G : Cc} {us : List Nat} (h : (us.all fun i => (G.sh i).pl) = true) : ∀ i ∈ us, G.sh i = .s := fun i hi => Sh.pl_eq (List.all_eq_true.mp h i hi)
def In (g : Nat → List Addr) (a : Addr) : Prop := ∃ i, a ∈ g i
structure OkN (N : List Str) (K : PySem.W.Frag) (Om : List Sh) (σ : St) (ρ : Rho) (S H : Hp) (g : Nat → List Addr) : Prop where
  len : σ.length = N.length
  rlen : ρ.length = N.length
  sub : Same S H
  slot : ∀ i d, ρ[i]? = some (some d) → ∃ v, σ[i]? = some (some v) ∧ Own K S H (Om.getD i .s) v d (g i)
  emp : ∀ i, (∀ d, ρ[i]? ≠ some (some d)) → g i = []
  nd : ∀ i, (g i).Nodup
  dj : ∀ i j, i ≠ j → ∀ a ∈ g i, a ∉ g j
  sep : ∀ i, ∀ a ∈ g i, S a = none
abbrev Ok (G : Cc) (σ : St) (ρ : Rho) (S H : Hp) (g : Nat → List Addr) : Prop := OkN G.X.N G.X.K G.Om σ ρ S H g
section
variable {G : Cc} {σ : St} {ρ ρ' : Rho} {S H S' H' : Hp} {g g' : Nat → List Addr}
theorem Ok.live (k : Ok G σ ρ S H g) {a : Addr} (h : In g a) : ∃ o, H a = some o := by
  obtain ⟨i, hi⟩ := h
  cases e : ρ[i]? with
  | none =>
    rw [k.emp i (by rw [e]; intro d q; cases q)] at hi
    exact absurd hi (by simp)
  | some od =>
    cases od with
    | none =>
      rw [k.emp i (by rw [e]; intro d q; cases q)] at hi
      exact absurd hi (by simp)
    | some d =>
      obtain ⟨v, _, ow⟩ := k.slot i d e
      exact ow.live a hi
theorem Ok.sepI (k : Ok G σ ρ S H g) {a : Addr} (h : In g a) : S a = none := by
  obtain ⟨i, hi⟩ := h
  exact k.sep i a hi
/-- new shared objects only -/
structure Gr (S H S' H' : Hp) : Prop where
  sh : Same S S'
  hh : Same H H'
  sub : Same S' H'
  sf : ∀ b o, S' b = some o → S b = some o ∨ H b = none
theorem Gr.refl (h : Same S H) : Gr S H S H := ⟨Same.refl S, Same.refl H, h, fun _ _ e => .inl e⟩
theorem Gr.trans {S1 H1 : Hp} (x : Gr S H S1 H1) (y : Gr S1 H1 S' H') : Gr S H S' H' :=
  ⟨x.sh.trans y.sh, x.hh.trans y.hh, y.sub, fun b o e => (y.sf b o e).elim (fun h => x.sf b o h) fun h => .inr (x.hh.free h)⟩
theorem Gr.new {p : Addr} {o : HO} (h : Same S H) (hp : H p = none) : Gr S H (upd S p o) (upd H p o) where
  sh := fun b u e => by
    rw [upd_ne (ne_of_none (h b u e) hp)]
    exact e
  hh := fun b u e => by
    rw [upd_ne (ne_of_none e hp)]
    exact e
  sub := fun b u e => by
    by_cases hb : b = p
    · subst hb
      rw [upd_same] at e ⊢
      exact e
    · rw [upd_ne hb] at e ⊢
      exact h b u e
  sf := fun b u e => by
    by_cases hb : b = p
    · subst hb
      exact .inr hp
    · rw [upd_ne hb] at e
      exact .inl e
theorem Gr.stp (x : Gr S H S' H') {A : Addr → Prop} : Stp S H A S' H' A :=
  ⟨x.sh, fun b o e _ => x.hh b o e, fun b o e => (x.sf b o e).elim .inl fun q => .inr (.inl q), fun b h => .inl h, fun b h => x.hh.free h⟩
theorem Ok.grow (k : Ok G σ ρ S H g) (x : Gr S H S' H') : Ok G σ ρ S' H' g where
  len := k.len
  rlen := k.rlen
  sub := x.sub
  slot := fun i d e => by
    obtain ⟨v, h1, h2⟩ := k.slot i d e
    exact ⟨v, h1, h2.mono x.sh fun a _ o q => x.hh a o q⟩
  emp := k.emp
  nd := k.nd
  dj := k.dj
  sep := fun i a ha => by
    cases e : S' a with
    | none => rfl
    | some o =>
      rcases x.sf a o e with q | q
      · rw [k.sep i a ha] at q
        cases q
      · obtain ⟨u, hu⟩ := k.live ⟨i, ha⟩
        rw [q] at hu
        cases hu
/-! ### an exception on its way -/
def ExR (K : PySem.W.Frag) (S : Hp) : Option (List (Str × D)) → Option Addr → Prop
  | none, dd => dd = none
  | some fs, dd => ∃ a vs, dd = some a ∧ S a = some (.xd vs) ∧ vs.map (·.1) = fs.map (·.1) ∧ Reps K S (vs.map (·.2)) (fs.map (·.2))
def PX (G : Cc) (σ : St) (S H : Hp) (g : Nat → List Addr) (c : Addr) (x : Option (List (Str × D))) (ρ' : Rho) : Prop :=
  ∀ dd S' H' g', Ok G σ ρ' S' H' g' → Stp S H (In g) S' H' (In g') → ExR G.X.K S' x dd → G.W (.ref c) dd σ H'
theorem PX.step {S1 H1 : Hp} {g1 : Nat → List Addr} {c : Addr} {x : Option (List (Str × D))} (p : PX G σ S H g c x ρ') (st : Stp S H (In g) S1 H1 (In g1)) : PX G σ S1 H1 g1 c x ρ' :=
  fun dd S' H' g' k t e => p dd S' H' g' k (st.trans t) e
/-! ### expressions: the reading t does what den says -/
def RG {β α : Type} (G : Cc) (t : St → Hp → (β → Hp → Prop) → Prop) (R : St → Hp → β → α → Prop) (den : EM α) : Prop :=
  ∀ σ ρ S H g, Ok G σ ρ S H g → ∀ r ρ', den ρ = some (r, ρ') → ∀ Q : β → Hp → Prop,
    (∀ a, r = .ok a → ∀ b S' H' g', Ok G σ ρ' S' H' g' → Stp S H (In g) S' H' (In g') → R σ S' b a → Q b H') →
    (∀ c x, r = .ex c x → PX G σ S H g c x ρ') → t σ H Q
end
section
variable {G : Cc} {σ : St} {ρ ρ' : Rho} {S H S' H' : Hp} {g g' : Nat → List Addr}
/-- one part, then the rest -/
theorem RG.use {β α γ : Type} {t : St → Hp → (β → Hp → Prop) → Prop} {R : St → Hp → β → α → Prop} {den : EM α} {f : α → EM γ} {r : Rs γ} {Q : β → Hp → Prop} (h : RG G t R den) (k : Ok G σ ρ S H g) (hd : EM.bind den f ρ = some (r, ρ'))
    (px : ∀ c x, r = .ex c x → PX G σ S H g c x ρ')
    (kk : ∀ a ρ1, f a ρ1 = some (r, ρ') → ∀ b S1 H1 g1, Ok G σ ρ1 S1 H1 g1 → Stp S H (In g) S1 H1 (In g1) → R σ S1 b a → (∀ c x, r = .ex c x → PX G σ S1 H1 g1 c x ρ') → Q b H1) : t σ H Q := by
  rcases bind_cases hd with ⟨a, ρ1, e1, e2⟩ | ⟨c, x, e1, rfl⟩
  · refine h σ ρ S H g k _ _ e1 Q (fun a' ea b S1 H1 g1 k1 st rb => ?_) (fun c x e => by cases e)
    cases ea
    exact kk a ρ1 e2 b S1 H1 g1 k1 st rb fun c x e => (px c x e).step st
  · refine h σ ρ S H g k _ _ e1 Q (fun a' ea => by cases ea) (fun c' x' e => ?_)
    cases e
    exact px c x rfl
end
structure CE (G : Cc) (e : Expr) (den : EM D) : Prop where
  ex : ∃ t, PE G.X e t ∧ RG G t (fun _ S v d => Rep G.X.K S v d) den
structure CT (G : Cc) (e : Expr) (den : EM Bool) : Prop where
  ex : ∃ t, PT G.X e t ∧ RG G t (fun _ _ b a => b = a) den
structure CW (G : Cc) (e : Expr) (den : EM Bool) : Prop where
  ex : ∃ t, PW G.X e t ∧ RG G t (fun _ _ b a => b = a) den
structure CA (G : Cc) (es : List Expr) (den : EM (List D)) : Prop where
  ex : ∃ t, PA G.X es t ∧ RG G t (fun _ S vs ds => Reps G.X.K S vs ds) den
end Cl
namespace Cl
open PySem PySem.Spec PyProof.Rows L2
/-! ### denotations -/
namespace EM
def get (i : Nat) : EM D := fun ρ => match ρ[i]? with
  | some (some d) => some (.ok d, ρ)
  | _ => none
def op1 (f : D → Option D) (a : EM D) : EM D := bind a fun d => lift (f d)
def op2 (f : D → D → Option D) (a b : EM D) : EM D := bind a fun d => bind b fun e => lift (f d e)
def opn (f : List D → Option D) (a : EM (List D)) : EM D := bind a fun ds => lift (f ds)
def cons (a : EM D) (b : EM (List D)) : EM (List D) := bind a fun d => bind b fun ds => ret (d :: ds)
def tru (a : EM D) : EM Bool := bind a fun d => match d with
  | .v (.bl b) => ret b
  | _ => lift none
def ite {α : Type} (c : EM Bool) (a b : EM α) : EM α := bind c fun k => match k with
  | true => a
  | false => b
def and_ (a b : EM D) : EM D := bind a fun d => match d with
  | .v (.bl true) => b
  | .v (.bl false) => ret (.bl false)
  | _ => lift none
def or_ (a b : EM D) : EM D := bind a fun d => match d with
  | .v (.bl true) => ret (.bl true)
  | .v (.bl false) => b
  | _ => lift none
def not_ (a : EM D) : EM D := bind a fun d => match d with
  | .v (.bl c) => ret (.bl (!c))
  | _ => lift none
def notB (a : EM Bool) : EM Bool := bind a fun c => ret (!c)
def chain (f f' : D → D → Option D) (a b c : EM D) : EM D := bind a fun x => bind b fun y => bind (lift (f x y)) fun z => match z with
  | .v (.bl true) => bind c fun w => lift (f' y w)
  | .v (.bl false) => ret (.bl false)
  | _ => lift none
end EM
/-! ### operations by values -/
def RO1 (K : PySem.W.Frag) (r : V → Hp → VK → Prop) (f : D → Option D) : Prop :=
  ∀ S H x d c, Same S H → Rep K S x d → f d = some c → ∀ Q : VK, (∀ v S' H', Gr S H S' H' → Rep K S' v c → Q v H') → r x H Q
def RO2 (K : PySem.W.Frag) (r : R2) (f : D → D → Option D) : Prop :=
  ∀ S H x y d e c, Same S H → Rep K S x d → Rep K S y e → f d e = some c → ∀ Q : VK, (∀ v S' H', Gr S H S' H' → Rep K S' v c → Q v H') → r x y H Q
def ROn (K : PySem.W.Frag) (r : List V → Hp → VK → Prop) (f : List D → Option D) : Prop :=
  ∀ S H xs ds c, Same S H → Reps K S xs ds → f ds = some c → ∀ Q : VK, (∀ v S' H', Gr S H S' H' → Rep K S' v c → Q v H') → r xs H Q
def orO2 (f g : D → D → Option D) : D → D → Option D := fun d e => match f d e with
  | some c => some c
  | none => g d e
theorem RO2.or {K : PySem.W.Frag} {r r' : R2} {f g : D → D → Option D} (h : RO2 K r f) (h' : RO2 K r' g) : RO2 K (fun x y H Q => r x y H Q ∨ r' x y H Q) (orO2 f g) := by
  intro S H x y d e c sb rx ry hc Q q
  unfold orO2 at hc
  split at hc
  · rename_i c' e'
    exact .inl (h S H x y d e c sb rx ry (by rw [e']; exact hc) Q q)
  · exact .inr (h' S H x y d e c sb rx ry hc Q q)
section
variable {G : Cc} {σ : St} {ρ ρ' : Rho} {S H S' H' : Hp} {g g' : Nat → List Addr}
abbrev RepR (G : Cc) : St → Hp → V → D → Prop := fun _ S v d => Rep G.X.K S v d
abbrev RepsR (G : Cc) : St → Hp → List V → List D → Prop := fun _ S v d => Reps G.X.K S v d
theorem rg_ret {v : V} {d : D} (h : ∀ S, Rep G.X.K S v d) : RG G (tC v) (RepR G) (EM.ret d) := by
  intro σ ρ S H g k r ρ' hd Q q px
  cases hd
  exact q d rfl v S H g k .refl (h S)
theorem rg_get {i : Nat} (hs : G.sh i = .s) : RG G (tVar i) (RepR G) (EM.get i) := by
  intro σ ρ S H g k r ρ' hd Q q px
  unfold EM.get at hd
  split at hd
  · rename_i d e
    cases hd
    obtain ⟨v, h1, h2⟩ := k.slot i d e
    rw [show G.Om.getD i .s = .s from hs] at h2
    unfold Own at h2
    exact ⟨v, h1, q d rfl v S H g k .refl h2.2⟩
  · cases hd
theorem rg_op1 {r : V → Hp → VK → Prop} {f : D → Option D} {ta : TE} {da : EM D} (hr : RO1 G.X.K r f) (ha : RG G ta (RepR G) da) : RG G (tUn r ta) (RepR G) (EM.op1 f da) := by
  intro σ ρ S H g k rr ρ' hd Q q px
  refine ha.use k hd px fun d ρ1 h1 x S1 H1 g1 k1 st1 rx px1 => ?_
  obtain ⟨c, e1, rfl, rfl⟩ := lift_cases h1
  exact hr S1 H1 x d c k1.sub rx e1 Q fun v S3 H3 gr rv => q c rfl v S3 H3 g1 (k1.grow gr) (st1.trans gr.stp) rv
theorem rg_op2 {r : R2} {f : D → D → Option D} {ta tb : TE} {da db : EM D} (hr : RO2 G.X.K r f) (ha : RG G ta (RepR G) da) (hb : RG G tb (RepR G) db) : RG G (tOp r ta tb) (RepR G) (EM.op2 f da db) := by
  intro σ ρ S H g k rr ρ' hd Q q px
  refine ha.use k hd px fun d ρ1 h1 x S1 H1 g1 k1 st1 rx px1 => ?_
  refine hb.use k1 h1 px1 fun e ρ2 h2 y S2 H2 g2 k2 st2 ry px2 => ?_
  obtain ⟨c, e1, rfl, rfl⟩ := lift_cases h2
  exact hr S2 H2 x y d e c k2.sub (rx.mono st2.sh) ry e1 Q fun v S3 H3 gr rv => q c rfl v S3 H3 g2 (k2.grow gr) ((st1.trans st2).trans gr.stp) rv
theorem rg_opn {r : List V → Hp → VK → Prop} {f : List D → Option D} {t : TA} {da : EM (List D)} (hr : ROn G.X.K r f) (ha : RG G t (RepsR G) da) : RG G (fun σ H Q => t σ H fun xs H1 => r xs H1 Q) (RepR G) (EM.opn f da) := by
  intro σ ρ S H g k rr ρ' hd Q q px
  refine ha.use k hd px fun d ρ1 h1 x S1 H1 g1 k1 st1 rx px1 => ?_
  obtain ⟨c, e1, rfl, rfl⟩ := lift_cases h1
  exact hr S1 H1 x d c k1.sub rx e1 Q fun v S3 H3 gr rv => q c rfl v S3 H3 g1 (k1.grow gr) (st1.trans gr.stp) rv
theorem rg_nil : RG G tNil (RepsR G) (EM.ret []) := by
  intro σ ρ S H g k r ρ' hd Q q px
  cases hd
  exact q [] rfl [] S H g k .refl rfl
theorem rg_cons {ta : TE} {tb : TA} {da : EM D} {db : EM (List D)} (ha : RG G ta (RepR G) da) (hb : RG G tb (RepsR G) db) : RG G (tCons ta tb) (RepsR G) (EM.cons da db) := by
  intro σ ρ S H g k rr ρ' hd Q q px
  refine ha.use k hd px fun d ρ1 h1 x S1 H1 g1 k1 st1 rx px1 => ?_
  refine hb.use k1 h1 px1 fun e ρ2 h2 y S2 H2 g2 k2 st2 ry px2 => ?_
  cases h2
  exact q _ rfl (x :: y) S2 H2 g2 k2 (st1.trans st2) ⟨x, y, rfl, rx.mono st2.sh, ry⟩
theorem rg_tru {ta : TE} {da : EM D} (ha : RG G ta (RepR G) da) : RG G (tB ta) (fun _ _ b a => b = a) (EM.tru da) := by
  intro σ ρ S H g k rr ρ' hd Q q px
  refine ha.use k hd px fun d ρ1 h1 x S1 H1 g1 k1 st1 rx px1 => ?_
  split at h1
  · rename_i b
    cases h1
    exact ⟨b, rx, q b rfl b S1 H1 g1 k1 st1 rfl⟩
  · obtain ⟨_, e, _⟩ := lift_cases h1
    cases e
theorem rg_ite {c : TT} {ta tb : TE} {dc : EM Bool} {da db : EM D} (hc : RG G c (fun _ _ b a => b = a) dc) (ha : RG G ta (RepR G) da) (hb : RG G tb (RepR G) db) : RG G (tIf c ta tb) (RepR G) (EM.ite dc da db) := by
  intro σ ρ S H g k rr ρ' hd Q q px
  refine hc.use k hd px fun d ρ1 h1 x S1 H1 g1 k1 st1 rx px1 => ?_
  subst rx
  cases x with
  | true => exact iteT (ha σ ρ1 S1 H1 g1 k1 _ _ h1 Q (fun a e b S2 H2 g2 k2 st2 rb => q a e b S2 H2 g2 k2 (st1.trans st2) rb) px1)
  | false => exact iteF (hb σ ρ1 S1 H1 g1 k1 _ _ h1 Q (fun a e b S2 H2 g2 k2 st2 rb => q a e b S2 H2 g2 k2 (st1.trans st2) rb) px1)
theorem rg_and {ta tb : TE} {da db : EM D} (ha : RG G ta (RepR G) da) (hb : RG G tb (RepR G) db) : RG G (tAndV ta tb) (RepR G) (EM.and_ da db) := by
  intro σ ρ S H g k rr ρ' hd Q q px
  refine ha.use k hd px fun d ρ1 h1 x S1 H1 g1 k1 st1 rx px1 => ?_
  split at h1
  · exact ⟨true, rx, iteT (hb σ ρ1 S1 H1 g1 k1 _ _ h1 Q (fun a e b S2 H2 g2 k2 st2 rb => q a e b S2 H2 g2 k2 (st1.trans st2) rb) px1)⟩
  · cases h1
    exact ⟨false, rx, iteF (q _ rfl _ S1 H1 g1 k1 st1 rfl)⟩
  · obtain ⟨_, e, _⟩ := lift_cases h1
    cases e
theorem rg_or {ta tb : TE} {da db : EM D} (ha : RG G ta (RepR G) da) (hb : RG G tb (RepR G) db) : RG G (tOrV ta tb) (RepR G) (EM.or_ da db) := by
  intro σ ρ S H g k rr ρ' hd Q q px
  refine ha.use k hd px fun d ρ1 h1 x S1 H1 g1 k1 st1 rx px1 => ?_
  split at h1
  · cases h1
    exact ⟨true, rx, iteT (q _ rfl _ S1 H1 g1 k1 st1 rfl)⟩
  · exact ⟨false, rx, iteF (hb σ ρ1 S1 H1 g1 k1 _ _ h1 Q (fun a e b S2 H2 g2 k2 st2 rb => q a e b S2 H2 g2 k2 (st1.trans st2) rb) px1)⟩
  · obtain ⟨_, e, _⟩ := lift_cases h1
    cases e
theorem rg_not {ta : TE} {da : EM D} (ha : RG G ta (RepR G) da) : RG G (tNotV ta) (RepR G) (EM.not_ da) := by
  intro σ ρ S H g k rr ρ' hd Q q px
  refine ha.use k hd px fun d ρ1 h1 x S1 H1 g1 k1 st1 rx px1 => ?_
  split at h1
  · rename_i c
    cases h1
    exact ⟨c, rx, q _ rfl _ S1 H1 g1 k1 st1 rfl⟩
  · obtain ⟨_, e, _⟩ := lift_cases h1
    cases e
theorem rg_andT {ta tb : TT} {da db : EM Bool} (ha : RG G ta (fun _ _ b a => b = a) da) (hb : RG G tb (fun _ _ b a => b = a) db) : RG G (tAnd ta tb) (fun _ _ b a => b = a) (EM.ite da db (EM.ret false)) := by
  intro σ ρ S H g k rr ρ' hd Q q px
  refine ha.use k hd px fun d ρ1 h1 x S1 H1 g1 k1 st1 rx px1 => ?_
  subst rx
  cases x with
  | true => exact iteT (hb σ ρ1 S1 H1 g1 k1 _ _ h1 Q (fun a e b S2 H2 g2 k2 st2 rb => q a e b S2 H2 g2 k2 (st1.trans st2) rb) px1)
  | false =>
    cases h1
    exact iteF (q _ rfl _ S1 H1 g1 k1 st1 rfl)
theorem rg_orT {ta tb : TT} {da db : EM Bool} (ha : RG G ta (fun _ _ b a => b = a) da) (hb : RG G tb (fun _ _ b a => b = a) db) : RG G (tOr ta tb) (fun _ _ b a => b = a) (EM.ite da (EM.ret true) db) := by
  intro σ ρ S H g k rr ρ' hd Q q px
  refine ha.use k hd px fun d ρ1 h1 x S1 H1 g1 k1 st1 rx px1 => ?_
  subst rx
  cases x with
  | true =>
    cases h1
    exact iteT (q _ rfl _ S1 H1 g1 k1 st1 rfl)
  | false => exact iteF (hb σ ρ1 S1 H1 g1 k1 _ _ h1 Q (fun a e b S2 H2 g2 k2 st2 rb => q a e b S2 H2 g2 k2 (st1.trans st2) rb) px1)
theorem rg_notT {ta : TT} {da : EM Bool} (ha : RG G ta (fun _ _ b a => b = a) da) : RG G (tNot ta) (fun _ _ b a => b = a) (EM.notB da) := by
  intro σ ρ S H g k rr ρ' hd Q q px
  refine ha.use k hd px fun d ρ1 h1 x S1 H1 g1 k1 st1 rx px1 => ?_
  subst rx
  cases h1
  exact q _ rfl _ S1 H1 g1 k1 st1 rfl
theorem rg_chain {r r' : R2} {f f' : D → D → Option D} {ta tb tc : TE} {da db dc : EM D} (hr : RO2 G.X.K r f) (hr' : RO2 G.X.K r' f') (ha : RG G ta (RepR G) da) (hb : RG G tb (RepR G) db) (hc : RG G tc (RepR G) dc) :
    RG G (tChain r r' ta tb tc) (RepR G) (EM.chain f f' da db dc) := by
  intro σ ρ S H g k rr ρ' hd Q q px
  refine ha.use k hd px fun d ρ1 h1 x S1 H1 g1 k1 st1 rx px1 => ?_
  refine hb.use k1 h1 px1 fun e ρ2 h2 y S2 H2 g2 k2 st2 ry px2 => ?_
  rcases bind_cases h2 with ⟨z, ρ3, e3, h3⟩ | ⟨c, xx, e3, _⟩
  · obtain ⟨z', ez, e4, rfl⟩ := lift_cases e3
    cases e4
    refine hr S2 H2 x y d e z k2.sub (rx.mono st2.sh) ry ez _ fun v S3 H3 gr rv => ?_
    have k3 := k2.grow gr
    have st3 := (st1.trans st2).trans (gr.stp (A := In g2))
    split at h3
    · refine ⟨true, rv, iteT ?_⟩
      refine hc.use k3 h3 (fun c x e => (px2 c x e).step gr.stp) fun w ρ4 h4 y4 S4 H4 g4 k4 st4 rw4 px4 => ?_
      obtain ⟨c, e1, rfl, rfl⟩ := lift_cases h4
      exact hr' S4 H4 y y4 e w c k4.sub ((ry.mono gr.sh).mono st4.sh) rw4 e1 Q fun v5 S5 H5 gr5 rv5 => q c rfl v5 S5 H5 g4 (k4.grow gr5) ((st3.trans st4).trans gr5.stp) rv5
    · cases h3
      exact ⟨false, rv, iteF (q _ rfl _ S3 H3 g2 k3 st3 rfl)⟩
    · obtain ⟨_, e, _⟩ := lift_cases h3
      cases e
  · obtain ⟨_, _, e, _⟩ := lift_cases e3
    cases e
end
/-! ### the rules -/
section
variable {G : Cc} {a b c e : Expr} {es rest : List Expr} {da db dc : EM D} {dl : EM (List D)} {ta tb : EM Bool} {pos : Pos}
theorem ce_var (i : Nat) {x : Str} (hN : G.X.N[i]? = some x := by rfl) (hs : G.sh i = .s := by rfl) (hv : Vis G.X.env.scope x := by first | exact Or.inl rfl | exact Or.inr (Or.inl rfl) | exact Or.inr (Or.inr rfl)) (hd : (x == ("__debug__" : Str)) = false := by decide)
    (hcd : (x == ("__classdict__" : Str)) = false := by decide) : CE G (.Name x pos) (EM.get i) := ⟨_, pe_var hN hv hd hcd, rg_get hs⟩
theorem ce_int {i j} : CE G (.Constant (.int i) j pos) (EM.ret (.int i)) := ⟨_, pe_int, rg_ret fun _ => rfl⟩
theorem ce_bl {i j} : CE G (.Constant (.bool i) j pos) (EM.ret (.bl i)) := ⟨_, pe_bl, rg_ret fun _ => rfl⟩
theorem ce_non {j} : CE G (.Constant .none j pos) (EM.ret .non) := ⟨_, pe_non, rg_ret fun _ => rfl⟩
theorem ce_str {i j} : CE G (.Constant (.str i) j pos) (EM.ret (.str i)) := ⟨_, pe_str, rg_ret fun _ => rfl⟩
theorem ce_glob {x : Str} {v : V} {d : D} {u : Value} (hm : G.X.mg x = some u) (r : RelV v u) (hr : ∀ S, Rep G.X.K S v d) (hg : Gl G.X x := by rfl) (hd : (x == ("__debug__" : Str)) = false := by decide) : CE G (.Name x pos) (EM.ret d) := ⟨_, pe_glob hg hm r hd, rg_ret hr⟩
theorem ce_bltn {x : Str} {v : V} {u : Value} (hm : G.X.mg x = none) (hv : bootBuiltins x = some u) (r : RelV v u) (hg : Gl G.X x := by rfl) (hn : x ≠ "__name__" := by decide) (hd : (x == ("__debug__" : Str)) = false := by decide) : CE G (.Name x pos) (EM.ret (.v v)) := ⟨_, pe_bltn hg hm hv r hn hd, rg_ret fun _ => rfl⟩
theorem ce_op {op : Operator} {r : R2} {f : D → D → Option D} (ho : OpR G.X (binaryOp op) r) (hr : RO2 G.X.K r f) (ha : CE G a da) (hb : CE G b db) : CE G (.BinOp a op b pos) (EM.op2 f da db) := by
  obtain ⟨t, p, q⟩ := ha.ex
  obtain ⟨t', p', q'⟩ := hb.ex
  exact ⟨_, pe_op ho p p', rg_op2 hr q q'⟩
theorem ce_un {op : UnaryOp} {r : V → Hp → VK → Prop} {f : D → Option D} (ho : UnR G.X (unaryOp op) r) (hr : RO1 G.X.K r f) (ha : CE G a da) : CE G (.UnaryOp op a pos) (EM.op1 f da) := by
  obtain ⟨t, p, q⟩ := ha.ex
  exact ⟨_, pe_un ho p, rg_op1 hr q⟩
theorem ce_cmp {op : CmpOp} {r : R2} {f : D → D → Option D} (ho : OpR G.X (compareOp op) r) (hr : RO2 G.X.K r f) (ha : CE G a da) (hb : CE G b db) (hm : behindInMarks op b = false) : CE G (.Compare a [op] [b] pos) (EM.op2 f da db) := by
  obtain ⟨t, p, q⟩ := ha.ex
  obtain ⟨t', p', q'⟩ := hb.ex
  exact ⟨_, pe_cmpR ho p p' hm, rg_op2 hr q q'⟩
theorem ct_cmp {op : CmpOp} {r : R2} {f : D → D → Option D} (ho : OpR G.X (compareOp op) r) (hr : RO2 G.X.K r f) (ha : CE G a da) (hb : CE G b db) (hm : behindInMarks op b = false) : CT G (.Compare a [op] [b] pos) (EM.tru (EM.op2 f da db)) := by
  obtain ⟨t, p, q⟩ := ha.ex
  obtain ⟨t', p', q'⟩ := hb.ex
  exact ⟨_, pt_cmpR ho p p' hm, rg_tru (rg_op2 hr q q')⟩
theorem ce_chain {op op' : CmpOp} {r r' : R2} {f f' : D → D → Option D} (ho : OpR G.X (compareOp op) r) (hr : RO2 G.X.K r f) (ho' : OpR G.X (compareOp op') r') (hr' : RO2 G.X.K r' f') (ha : CE G a da) (hb : CE G b db) (hc : CE G c dc)
    (hm : lastMarks [op, op'] [b, c] = false := by with_unfolding_all rfl) : CE G (.Compare a [op, op'] [b, c] pos) (EM.chain f f' da db dc) := by
  obtain ⟨t, p, q⟩ := ha.ex
  obtain ⟨t', p', q'⟩ := hb.ex
  obtain ⟨t3, p3, q3⟩ := hc.ex
  exact ⟨_, pe_chain ho ho' p p' p3 hm, rg_chain hr hr' q q' q3⟩
theorem ct_chain {op op' : CmpOp} {r r' : R2} {f f' : D → D → Option D} (ho : OpR G.X (compareOp op) r) (hr : RO2 G.X.K r f) (ho' : OpR G.X (compareOp op') r') (hr' : RO2 G.X.K r' f') (ha : CE G a da) (hb : CE G b db) (hc : CE G c dc)
    (hm : lastMarks [op, op'] [b, c] = false := by with_unfolding_all rfl) : CT G (.Compare a [op, op'] [b, c] pos) (EM.tru (EM.chain f f' da db dc)) := by
  obtain ⟨t, p, q⟩ := ha.ex
  obtain ⟨t', p', q'⟩ := hb.ex
  obtain ⟨t3, p3, q3⟩ := hc.ex
  exact ⟨_, pt_chain ho ho' p p' p3 hm, rg_tru (rg_chain hr hr' q q' q3)⟩
theorem ct_val (h : CE G e da) (he : ∀ whole, isTrue e G.X.env whole = (do let v ← whole; standAt e.pos; holding [v] (truthy v)) := by intro _; rfl) : CT G e (EM.tru da) := by
  obtain ⟨t, p, q⟩ := h.ex
  exact ⟨_, pt_val p he, rg_tru q⟩
theorem ct_not (h : CT G a ta) : CT G (.UnaryOp .Not a pos) (EM.notB ta) := by
  obtain ⟨t, p, q⟩ := h.ex
  exact ⟨_, pt_not p, rg_notT q⟩
theorem cw_and1 (h : CT G a ta) : CW G (.BoolOp .And [a] pos) ta := by
  obtain ⟨t, p, q⟩ := h.ex
  exact ⟨_, pw_and1 p, q⟩
theorem cw_or1 (h : CT G a ta) : CW G (.BoolOp .Or [a] pos) ta := by
  obtain ⟨t, p, q⟩ := h.ex
  exact ⟨_, pw_or1 p, q⟩
theorem cw_and (h : CT G a ta) (h' : CW G (.BoolOp .And (b :: rest) pos) tb) : CW G (.BoolOp .And (a :: b :: rest) pos) (EM.ite ta tb (EM.ret false)) := by
  obtain ⟨t, p, q⟩ := h.ex
  obtain ⟨t', p', q'⟩ := h'.ex
  exact ⟨_, pw_and p p', rg_andT q q'⟩
theorem cw_or (h : CT G a ta) (h' : CW G (.BoolOp .Or (b :: rest) pos) tb) : CW G (.BoolOp .Or (a :: b :: rest) pos) (EM.ite ta (EM.ret true) tb) := by
  obtain ⟨t, p, q⟩ := h.ex
  obtain ⟨t', p', q'⟩ := h'.ex
  exact ⟨_, pw_or p p', rg_orT q q'⟩
theorem CW.ct (h : CW G e ta) : CT G e ta := by
  obtain ⟨t, p, q⟩ := h.ex
  exact ⟨_, p.pt, q⟩
theorem ce_one {op} (h : CE G a da) : CE G (.BoolOp op [a] pos) da := by
  obtain ⟨t, p, q⟩ := h.ex
  exact ⟨_, pe_one p, q⟩
theorem ce_and (h : CE G a da) (h' : CE G (.BoolOp .And (b :: rest) pos) db) : CE G (.BoolOp .And (a :: b :: rest) pos) (EM.and_ da db) := by
  obtain ⟨t, p, q⟩ := h.ex
  obtain ⟨t', p', q'⟩ := h'.ex
  exact ⟨_, pe_and p p', rg_and q q'⟩
theorem ce_or (h : CE G a da) (h' : CE G (.BoolOp .Or (b :: rest) pos) db) : CE G (.BoolOp .Or (a :: b :: rest) pos) (EM.or_ da db) := by
  obtain ⟨t, p, q⟩ := h.ex
  obtain ⟨t', p', q'⟩ := h'.ex
  exact ⟨_, pe_or p p', rg_or q q'⟩
theorem ce_not (h : CE G a da) : CE G (.UnaryOp .Not a pos) (EM.not_ da) := by
  obtain ⟨t, p, q⟩ := h.ex
  exact ⟨_, pe_not p, rg_not q⟩
theorem ce_ite (h : CT G c ta) (h1 : CE G a da) (h2 : CE G b db) : CE G (.IfExp c a b pos) (EM.ite ta da db) := by
  obtain ⟨t, p, q⟩ := h.ex
  obtain ⟨t1, p1, q1⟩ := h1.ex
  obtain ⟨t2, p2, q2⟩ := h2.ex
  exact ⟨_, pe_ifExp p p1 p2, rg_ite q q1 q2⟩
theorem ca_nil : CA G [] (EM.ret []) := ⟨_, pa_nil, rg_nil⟩
theorem ca_cons (h : CE G a da) (h' : CA G es dl) (hs : starEach (a :: es) G.X.env = (false, eval a G.X.env) :: starEach es G.X.env := by rfl) : CA G (a :: es) (EM.cons da dl) := by
  obtain ⟨t, p, q⟩ := h.ex
  obtain ⟨t', p', q'⟩ := h'.ex
  exact ⟨_, pa_cons p p' hs, rg_cons q q'⟩
theorem ce_callB {id : String} {x : Str} {p : Pos} {r : List V → Hp → VK → Prop} {f : List D → Option D} (hc : CallR G.X (.builtin id) r) (hr : ROn G.X.K r f) (hm : G.X.mg x = none) (ha : CA G (e :: es) dl) (hv : bootBuiltins x = some (.builtin id) := by decide +kernel) (hg : Gl G.X x := by rfl) (hn : x ≠ "__name__" := by decide)
    (hdb : (x == ("__debug__" : Str)) = false := by decide) (he : starEach (e :: es) G.X.env = (false, eval e G.X.env) :: starEach es G.X.env := by rfl) (hpl : (backTo pos (starEach es G.X.env)).any (·.1) = false := by rfl) : CE G (.Call (.Name x p) (e :: es) [] pos) (EM.opn f dl) := by
  obtain ⟨t, p, q⟩ := ha.ex
  exact ⟨_, pe_callB hc hg hm hv p hn hdb he hpl, rg_opn hr q⟩
theorem ce_callTy {T : String} {x : Str} {p : Pos} {r : List V → Hp → VK → Prop} {f : List D → Option D} (hc : CallR G.X (.type T) r) (hr : ROn G.X.K r f) (hm : G.X.mg x = none) (ha : CA G (e :: es) dl) (hv : bootBuiltins x = some (.type T) := by decide +kernel) (hg : Gl G.X x := by rfl) (hn : x ≠ "__name__" := by decide)
    (hdb : (x == ("__debug__" : Str)) = false := by decide) (he : starEach (e :: es) G.X.env = (false, eval e G.X.env) :: starEach es G.X.env := by rfl) (hpl : (backTo pos (starEach es G.X.env)).any (·.1) = false := by rfl) : CE G (.Call (.Name x p) (e :: es) [] pos) (EM.opn f dl) := by
  obtain ⟨t, p, q⟩ := ha.ex
  exact ⟨_, pe_callTy hc hg hm hv p hn hdb he hpl, rg_opn hr q⟩
theorem ce_ix {r : R2} {f : D → D → Option D} (hi : IxR G.X r) (hr : RO2 G.X.K r f) (ha : CE G a da) (hb : CE G b db) (hs : PlainIx b := by exact fun _ _ => rfl) : CE G (.Subscript a b pos) (EM.op2 f da db) := by
  obtain ⟨t, p, q⟩ := ha.ex
  obtain ⟨t', p', q'⟩ := hb.ex
  exact ⟨_, pe_ix hi p p' hs, rg_op2 hr q q'⟩
def tupD (ds : List D) : Option D := if ds.length ≤ 4096 then some (.tup ds) else none
theorem Reps.len {K : PySem.W.Frag} {S : Hp} : ∀ {xs : List V} {ds : List D}, Reps K S xs ds → xs.length = ds.length
  | xs, [], h => by rw [show xs = [] from h] <;> rfl
  | xs, d :: ds, h => by
    obtain ⟨y, ys, rfl, _, h⟩ := h
    show ys.length + 1 = ds.length + 1
    rw [Reps.len h]
/-- a tuple written out: it is let into the shared part -/
theorem ce_tup {x1} (ha : CA G es dl) : CE G (.Tuple es x1 pos) (EM.opn tupD dl) := by
  obtain ⟨t, p, q⟩ := ha.ex
  refine ⟨_, pe_tup p, ?_⟩
  refine rg_opn (r := fun xs H Q => xs.length ≤ sizeLine ∧ ∀ p, H p = none → Q (.ref p) (upd H p (.tup xs))) ?_ q
  intro S H xs ds c sb rx hc Q q
  unfold tupD at hc
  split at hc
  · rename_i hl
    cases hc
    refine ⟨by rw [rx.len, sizeLine_eq]; omega, fun a ha => ?_⟩
    refine q _ _ _ (Gr.new sb ha) ⟨a, xs, rfl, upd_same, rx.mono (Gr.new (o := .tup xs) sb ha).sh⟩
  · cases hc
end
end Cl
namespace Cl
open PySem PySem.Spec PyProof.Rows L2
section
variable {K : PySem.W.Frag} {S : Hp}
theorem Reps.get : ∀ {xs : List V} {ds : List D} {i : Nat} {d : D}, Reps K S xs ds → ds[i]? = some d → ∃ x, xs[i]? = some x ∧ Rep K S x d
  | xs, [], i, d, h, e => by simp at e
  | xs, d' :: ds, 0, d, h, e => by
    obtain ⟨y, ys, rfl, h1, h2⟩ := h
    simp at e
    subst e
    exact ⟨y, rfl, h1⟩
  | xs, d' :: ds, i + 1, d, h, e => by
    obtain ⟨y, ys, rfl, h1, h2⟩ := h
    obtain ⟨x, q1, q2⟩ := Reps.get h2 (i := i) (d := d) (by simpa using e)
    exact ⟨x, by simpa using q1, q2⟩
theorem Reps.app : ∀ {xs ys : List V} {ds es : List D}, Reps K S xs ds → Reps K S ys es → Reps K S (xs ++ ys) (ds ++ es)
  | xs, ys, [], es, h, h' => by
    rw [show xs = [] from h]
    exact h'
  | xs, ys, d :: ds, es, h, h' => by
    obtain ⟨y, zs, rfl, h1, h2⟩ := h
    exact ⟨y, zs ++ ys, rfl, h1, Reps.app h2 h'⟩
theorem Reps.take : ∀ {xs : List V} {ds : List D} (n : Nat), Reps K S xs ds → Reps K S (xs.take n) (ds.take n)
  | xs, ds, 0, _ => rfl
  | xs, [], n + 1, h => by
    rw [show xs = [] from h]
    rfl
  | xs, d :: ds, n + 1, h => by
    obtain ⟨y, zs, rfl, h1, h2⟩ := h
    exact ⟨y, zs.take n, rfl, h1, Reps.take n h2⟩
theorem Reps.drop : ∀ {xs : List V} {ds : List D} (n : Nat), Reps K S xs ds → Reps K S (xs.drop n) (ds.drop n)
  | xs, ds, 0, h => h
  | xs, [], n + 1, h => by
    rw [show xs = [] from h]
    rfl
  | xs, d :: ds, n + 1, h => by
    obtain ⟨y, zs, rfl, h1, h2⟩ := h
    exact Reps.drop n h2
theorem Reps.set {x : V} {e : D} (r : Rep K S x e) : ∀ {xs : List V} {ds : List D} (n : Nat), Reps K S xs ds → Reps K S (xs.set n x) (ds.set n e)
  | xs, [], n, h => by
    rw [show xs = [] from h]
    rfl
  | xs, d :: ds, 0, h => by
    obtain ⟨y, zs, rfl, h1, h2⟩ := h
    exact ⟨x, zs, rfl, r, h2⟩
  | xs, d :: ds, n + 1, h => by
    obtain ⟨y, zs, rfl, h1, h2⟩ := h
    exact ⟨y, _, rfl, h1, Reps.set r n h2⟩
theorem Reps.rep : ∀ {xs : List V} {ds : List D} (n : Nat), Reps K S xs ds → Reps K S (List.replicate n xs).flatten (List.replicate n ds).flatten
  | xs, ds, 0, h => rfl
  | xs, ds, n + 1, h => by
    rw [List.replicate_succ, List.replicate_succ, List.flatten_cons, List.flatten_cons]
    exact h.app (Reps.rep n h)
theorem Reps.rev : ∀ {xs : List V} {ds : List D}, Reps K S xs ds → Reps K S xs.reverse ds.reverse
  | xs, [], h => by
    rw [show xs = [] from h]
    rfl
  | xs, d :: ds, h => by
    obtain ⟨y, zs, rfl, h1, h2⟩ := h
    rw [List.reverse_cons, List.reverse_cons]
    exact (Reps.rev h2).app ⟨y, [], rfl, h1, rfl⟩
theorem Reps.erase : ∀ {xs : List V} {ds : List D} (n : Nat), Reps K S xs ds → Reps K S (xs.eraseIdx n) (ds.eraseIdx n)
  | xs, [], n, h => by
    rw [show xs = [] from h]
    rfl
  | xs, d :: ds, 0, h => by
    obtain ⟨y, zs, rfl, h1, h2⟩ := h
    exact h2
  | xs, d :: ds, n + 1, h => by
    obtain ⟨y, zs, rfl, h1, h2⟩ := h
    exact ⟨y, _, rfl, h1, Reps.erase n h2⟩
theorem Reps.atoms : ∀ {xs : List V} {vs : List V}, Reps K S xs (vs.map D.v) → xs = vs
  | xs, [], h => h
  | xs, v :: vs, h => by
    obtain ⟨y, zs, rfl, h1, h2⟩ := h
    rw [show y = v from h1, Reps.atoms h2]
theorem reps_atoms : ∀ {vs : List V}, Reps K S vs (vs.map D.v)
  | [] => rfl
  | v :: vs => ⟨v, vs, rfl, rfl, reps_atoms⟩
end
/-! ### lists of plain things -/
def asInts : List D → Option (List Int)
  | [] => some []
  | .v (.int i) :: ds => (asInts ds).map (i :: ·)
  | _ :: _ => none
theorem asInts_eq : ∀ {ds : List D} {ns : List Int}, asInts ds = some ns → ds = (ns.map V.int).map D.v
  | [], ns, h => by
    cases h
    rfl
  | d :: ds, ns, h => by
    unfold asInts at h
    split at h
    · rename_i e
      cases e
    · rename_i i ds' e
      cases e
      cases q : asInts ds with
      | none =>
        rw [q] at h
        cases h
      | some ms =>
        rw [q] at h
        cases h
        rw [asInts_eq q]
        rfl
    · cases h
@[simp] theorem asInts_map (ns : List Int) : asInts (ns.map fun i => D.int i) = some ns := by
  induction ns with
  | nil => rfl
  | cons n ns ih =>
    show (asInts (ns.map fun i => D.int i)).map (n :: ·) = _
    rw [ih]
    rfl
def asBls : List D → Option (List Bool)
  | [] => some []
  | .v (.bl i) :: ds => (asBls ds).map (i :: ·)
  | _ :: _ => none
theorem asBls_eq : ∀ {ds : List D} {ns : List Bool}, asBls ds = some ns → ds = (ns.map V.bl).map D.v
  | [], ns, h => by
    cases h
    rfl
  | d :: ds, ns, h => by
    unfold asBls at h
    split at h
    · rename_i e
      cases e
    · rename_i i ds' e
      cases e
      cases q : asBls ds with
      | none =>
        rw [q] at h
        cases h
      | some ms =>
        rw [q] at h
        cases h
        rw [asBls_eq q]
        rfl
    · cases h
@[simp] theorem asBls_map (ns : List Bool) : asBls (ns.map fun i => D.bl i) = some ns := by
  induction ns with
  | nil => rfl
  | cons n ns ih =>
    show (asBls (ns.map fun i => D.bl i)).map (n :: ·) = _
    rw [ih]
    rfl
/-! ### equality -/
mutual
def D.py : D → Option PyData
  | .v .non => some .none
  | .v (.bl b) => some (.bool b)
  | .v (.int i) => some (.int i)
  | .v (.str s) => some (.str s)
  | .v _ => none
  | .tup ds => (pys ds).map .tuple
  | .lst ds => (pys ds).map .list
  | .dK _ _ => none
  | .dT _ _ => none
  | .obj _ _ _ => none
  | .scr _ => none
  | .ktup ds => (pys ds).map .tuple
def pys : List D → Option (List PyData)
  | [] => some []
  | d :: ds => match d.py, pys ds with
    | some p, some ps => some (p :: ps)
    | _, _ => none
end
mutual
theorem Rep.dp {K : PySem.W.Frag} {S H : Hp} (sb : Same S H) : ∀ {x : V} {d : D} {p : PyData}, Rep K S x d → d.py = some p → Dp K H x p
  | x, .v y, p, h, e => by
    have h : x = y := h
    subst h
    cases x <;> first | (cases e; constructor) | cases e
  | x, .tup ds, p, h, e => by
    obtain ⟨a, xs, rfl, h2, h3⟩ := h
    unfold D.py at e
    cases q : pys ds with
    | none =>
      rw [q] at e
      cases e
    | some ps =>
      rw [q] at e
      cases e
      exact .tup (SqT.sm sb h2) (Reps.dp sb h3 q)
  | x, .lst ds, p, h, e => by
    obtain ⟨a, xs, rfl, h2, h3⟩ := h
    unfold D.py at e
    cases q : pys ds with
    | none =>
      rw [q] at e
      cases e
    | some ps =>
      rw [q] at e
      cases e
      exact .lst (.of (sb _ _ h2)) (Reps.dp sb h3 q)
  | x, .dK _ _, p, h, e => by cases e
  | x, .dT _ _, p, h, e => by cases e
  | x, .obj _ _ _, p, h, e => by cases e
  | x, .scr _, p, h, e => by cases e
  | x, .ktup ds, p, h, e => by
    obtain ⟨a, xs, rfl, h2, h3⟩ := h
    unfold D.py at e
    cases q : pys ds with
    | none =>
      rw [q] at e
      cases e
    | some ps =>
      rw [q] at e
      cases e
      exact .tup (same_seqT sb h2.seq) (Reps.dp sb h3 q)
theorem Reps.dp {K : PySem.W.Frag} {S H : Hp} (sb : Same S H) : ∀ {xs : List V} {ds : List D} {ps : List PyData}, Reps K S xs ds → pys ds = some ps → DpAll K H xs ps
  | xs, [], ps, h, e => by
    cases e
    rw [show xs = [] from h]
    exact .nil
  | xs, d :: ds, ps, h, e => by
    obtain ⟨y, ys, rfl, h1, h2⟩ := h
    unfold pys at e
    split at e
    · rename_i p ps' e1 e2
      cases e
      exact .cons (Rep.dp sb h1 e1) (Reps.dp sb h2 e2)
    · cases e
end
def eqD (d e : D) : Option D := match d.py, e.py with
  | some p, some q => if (SeqAt.shaped p && SeqAt.shaped q) = true then some (.bl (PyData.eqv p q)) else none
  | _, _ => none
def neD (d e : D) : Option D := match d.py, e.py with
  | some p, some q => if (SeqAt.shaped p && SeqAt.shaped q) = true then some (.bl (!PyData.eqv p q)) else none
  | _, _ => none
theorem ro_eq {K : PySem.W.Frag} : RO2 K (rEqD K) eqD := by
  intro S H x y d e c sb rx ry hc Q q
  unfold eqD at hc
  split at hc
  · rename_i p1 p2 e1 e2
    split at hc
    · rename_i hs
      cases hc
      obtain ⟨s1, s2⟩ := Bool.and_eq_true_iff.mp hs
      exact ⟨p1, p2, rx.dp sb e1, ry.dp sb e2, s1, s2, q _ S H (Gr.refl sb) rfl⟩
    · cases hc
  · cases hc
theorem ro_ne {K : PySem.W.Frag} : RO2 K (rNeD K) neD := by
  intro S H x y d e c sb rx ry hc Q q
  unfold neD at hc
  split at hc
  · rename_i p1 p2 e1 e2
    split at hc
    · rename_i hs
      cases hc
      obtain ⟨s1, s2⟩ := Bool.and_eq_true_iff.mp hs
      exact ⟨p1, p2, rx.dp sb e1, ry.dp sb e2, s1, s2, q _ S H (Gr.refl sb) rfl⟩
    · cases hc
  · cases hc
/-! ### is None -/
def isNon : D → Bool
  | .v .non => true
  | _ => false
def isND (d e : D) : Option D := match e with
  | .v .non => some (.bl (isNon d))
  | _ => none
def notND (d e : D) : Option D := match e with
  | .v .non => some (.bl (!isNon d))
  | _ => none
theorem rep_isN {K : PySem.W.Frag} {S : Hp} {x : V} {d : D} (rx : Rep K S x d) : decide (x = V.non) = isNon d := by
  cases d with
  | v y =>
    have h : x = y := rx
    subst h
    cases x <;> simp [isNon]
  | tup ds => obtain ⟨a, xs, rfl, _⟩ := rx; simp [isNon]
  | lst ds => obtain ⟨a, xs, rfl, _⟩ := rx; simp [isNon]
  | dK ks ds => obtain ⟨a, xs, rfl, _⟩ := rx; simp [isNon]
  | dT ks ds => obtain ⟨a, xs, rfl, _⟩ := rx; simp [isNon]
  | obj C ns ds => obtain ⟨a, _, xs, rfl, _⟩ := rx; simp [isNon]
  | scr ns => obtain ⟨a, rfl, _⟩ := rx; simp [isNon]
  | ktup ds => obtain ⟨a, xs, rfl, _⟩ := rx; simp [isNon]
theorem ro_isN {K : PySem.W.Frag} : RO2 K (fun x y H Q => y = .non ∧ Q (.bl (decide (x = .non))) H) isND := by
  intro S H x y d e c sb rx ry hc Q q
  unfold isND at hc
  split at hc
  · cases hc
    refine ⟨ry, ?_⟩
    rw [rep_isN rx]
    exact q _ S H (Gr.refl sb) rfl
  · cases hc
theorem ro_notN {K : PySem.W.Frag} : RO2 K (fun x y H Q => y = .non ∧ Q (.bl (!decide (x = .non))) H) notND := by
  intro S H x y d e c sb rx ry hc Q q
  unfold notND at hc
  split at hc
  · cases hc
    refine ⟨ry, ?_⟩
    rw [rep_isN rx]
    exact q _ S H (Gr.refl sb) rfl
  · cases hc
/-! ### ints -/
def intOp (C : Int → Int → Bool) (f : Int → Int → Int) (d e : D) : Option D := match d, e with
  | .v (.int i), .v (.int j) => if C i j = true then some (.int (f i j)) else none
  | _, _ => none
def intCmp (f : Int → Int → Bool) (d e : D) : Option D := match d, e with
  | .v (.int i), .v (.int j) => some (.bl (f i j))
  | _, _ => none
theorem ro_int {K : PySem.W.Frag} {C : Int → Int → Prop} {B : Int → Int → Bool} {f : Int → Int → Int} (h : ∀ i j, B i j = true → C i j) : RO2 K (rI C fun i j => .int (f i j)) (intOp B f) := by
  intro S H x y d e c sb rx ry hc Q q
  unfold intOp at hc
  split at hc
  · rename_i i j
    split at hc
    · rename_i hb
      cases hc
      exact ⟨i, j, rx, ry, h i j hb, q _ S H (Gr.refl sb) rfl⟩
    · cases hc
  · cases hc
theorem ro_int0 {K : PySem.W.Frag} {f : Int → Int → Int} : RO2 K (rI0 fun i j => .int (f i j)) (intOp (fun _ _ => true) f) := by
  intro S H x y d e c sb rx ry hc Q q
  unfold intOp at hc
  split at hc
  · rename_i i j
    split at hc
    · cases hc
      exact ⟨i, j, rx, ry, q _ S H (Gr.refl sb) rfl⟩
    · cases hc
  · cases hc
theorem ro_cmp {K : PySem.W.Frag} {f : Int → Int → Bool} : RO2 K (rI0 fun i j => .bl (f i j)) (intCmp f) := by
  intro S H x y d e c sb rx ry hc Q q
  unfold intCmp at hc
  split at hc
  · rename_i i j
    cases hc
    exact ⟨i, j, rx, ry, q _ S H (Gr.refl sb) rfl⟩
  · cases hc
def mulOk (i j : Int) : Bool := decide (i.natAbs.log2 + j.natAbs.log2 < 1000000)
def divOk (_ j : Int) : Bool := decide (0 < j ∧ j.natAbs.log2 < 9000)
def modOk (_ j : Int) : Bool := decide (0 < j)
def powOk (i j : Int) : Bool := decide (0 ≤ j ∧ j ≤ 1000000 ∧ i.natAbs < 18446744073709551616)
abbrev addI := intOp (fun _ _ => true) (fun i j => i + j)
abbrev subI := intOp (fun _ _ => true) (fun i j => i - j)
abbrev mulI := intOp mulOk (fun i j => i * j)
abbrev divI := intOp divOk (fun i j => i / j)
abbrev modI := intOp modOk (fun i j => i % j)
abbrev powI := intOp powOk (fun i j => i ^ j.toNat)
abbrev ltI := intCmp fun i j => decide (i < j)
abbrev leI := intCmp fun i j => decide (i ≤ j)
abbrev gtI := intCmp fun i j => decide (j < i)
abbrev geI := intCmp fun i j => decide (j ≤ i)
theorem ro_mulI {K : PySem.W.Frag} : RO2 K (rI CMulW fun i j => .int (i * j)) mulI := ro_int fun i j h => (show i.natAbs.log2 + j.natAbs.log2 < 1000000 from of_decide_eq_true h)
theorem ro_divI {K : PySem.W.Frag} : RO2 K (rI CDivW fun i j => .int (i / j)) divI := ro_int fun i j h => (show 0 < j ∧ j.natAbs.log2 < 9000 from of_decide_eq_true h)
theorem ro_modI {K : PySem.W.Frag} : RO2 K (rI (fun _ j => 0 < j) fun i j => .int (i % j)) modI := ro_int fun _ _ h => of_decide_eq_true h
theorem ro_powI {K : PySem.W.Frag} : RO2 K (rI CPow fun i j => .int (i ^ j.toNat)) powI := ro_int fun i j h => (show 0 ≤ j ∧ j ≤ 1000000 ∧ i.natAbs < 2 ^ 64 from by
  have z : 0 ≤ j ∧ j ≤ 1000000 ∧ i.natAbs < 18446744073709551616 := of_decide_eq_true h
  exact z)
def negI (d : D) : Option D := match d with
  | .v (.int i) => some (.int (-i))
  | _ => none
theorem ro_neg {K : PySem.W.Frag} : RO1 K (rU fun i => .int (-i)) negI := by
  intro S H x d c sb rx hc Q q
  unfold negI at hc
  split at hc
  · rename_i i
    cases hc
    exact ⟨i, rx, q _ S H (Gr.refl sb) rfl⟩
  · cases hc
/-! ### tuples, lists: +, * -/
def catT (d e : D) : Option D := match d, e with
  | .tup xs, .tup ys => if xs.length + ys.length ≤ 1000000 then some (.tup (xs ++ ys)) else none
  | _, _ => none
theorem ro_catT {K : PySem.W.Frag} : RO2 K (rCatA K) catT := by
  intro S H x y d e c sb rx ry hc Q q
  unfold catT at hc
  split at hc
  · rename_i ds es
    split at hc
    · rename_i hl
      cases hc
      obtain ⟨a, xs, rfl, h1, h2⟩ := rx
      obtain ⟨b, ys, rfl, h3, h4⟩ := ry
      refine ⟨a, b, xs, ys, rfl, rfl, SqT.sm sb h1, SqT.sm sb h3, by rw [h2.len, h4.len, sizeLine_eq]; omega, fun e => ?_, fun _ e => ?_, fun _ _ p hp => ?_⟩
      · subst e
        refine q _ S H (Gr.refl sb) ⟨b, ys, rfl, h3, ?_⟩
        exact h2.app h4
      · subst e
        refine q _ S H (Gr.refl sb) ⟨a, xs, rfl, h1, ?_⟩
        have := h2.app h4
        rw [List.append_nil] at this
        exact this
      · refine q _ _ _ (Gr.new sb hp) ⟨p, xs ++ ys, rfl, upd_same, (h2.app h4).mono (Gr.new (o := .tup (xs ++ ys)) sb hp).sh⟩
    · cases hc
  · cases hc
def repT (d e : D) : Option D := match d, e with
  | .tup xs, .v (.int k) => if 1 ≤ xs.length ∧ xs.length ≤ 1000 ∧ 2 ≤ k ∧ k ≤ 1000 then some (.tup (List.replicate k.toNat xs).flatten) else none
  | _, _ => none
theorem ro_repT {K : PySem.W.Frag} : RO2 K (rRepT K) repT := by
  intro S H x y d e c sb rx ry hc Q q
  unfold repT at hc
  split at hc
  · rename_i ds k
    split at hc
    · rename_i hl
      cases hc
      obtain ⟨a, xs, rfl, h1, h2⟩ := rx
      have hlen := h2.len
      refine ⟨a, k, xs, rfl, ry, SqT.sm sb h1, fun z => ?_, hl.2.2.1, hl.2.2.2, by omega, fun p hp => ?_⟩
      · rw [z] at hlen
        simp at hlen
        omega
      · exact q _ _ _ (Gr.new sb hp) ⟨p, _, rfl, upd_same, (h2.rep _).mono (Gr.new (o := .tup (List.replicate k.toNat xs).flatten) sb hp).sh⟩
    · cases hc
  · cases hc
/-! ### subscripts -/
def ixSeq (d e : D) : Option D := match d, e with
  | .tup xs, .v (.int k) => atI xs k
  | .lst xs, .v (.int k) => atI xs k
  | .ktup xs, .v (.int k) => atI xs k
  | _, _ => none
theorem Reps.at {K : PySem.W.Frag} {S : Hp} {xs : List V} {ds : List D} {k : Int} {d : D} (h : Reps K S xs ds) (e : atI ds k = some d) : ∃ x, atI xs k = some x ∧ Rep K S x d := by
  unfold atI at e ⊢
  rw [h.len]
  cases q : ixN ds.length k with
  | none =>
    rw [q] at e
    cases e
  | some j =>
    rw [q] at e
    exact h.get e
theorem ro_ix {K : PySem.W.Frag} : RO2 K (fun x y H Q => rIxL K x y H Q ∨ rIxT K x y H Q) ixSeq := by
  intro S H x y d e c sb rx ry hc Q q
  unfold ixSeq at hc
  split at hc
  · rename_i ds k
    obtain ⟨a, xs, rfl, h1, h2⟩ := rx
    obtain ⟨z, h3, h4⟩ := h2.at hc
    exact .inr ⟨a, xs, k, z, rfl, ry, SqT.sm sb h1, h3, q _ S H (Gr.refl sb) h4⟩
  · rename_i ds k
    obtain ⟨a, xs, rfl, h1, h2⟩ := rx
    obtain ⟨z, h3, h4⟩ := h2.at hc
    exact .inl ⟨a, xs, k, z, rfl, ry, .of (sb _ _ h1), h3, q _ S H (Gr.refl sb) h4⟩
  · rename_i ds k
    obtain ⟨a, xs, rfl, h1, h2⟩ := rx
    obtain ⟨z, h3, h4⟩ := h2.at hc
    exact .inr ⟨a, xs, k, z, rfl, ry, same_seqT sb h1.seq, h3, q _ S H (Gr.refl sb) h4⟩
  · cases hc
end Cl
namespace Cl
open PySem PySem.Spec PyProof.Rows L2
/-! ### own results -/
def RGo (G : Cc) (w : Sh) (t : TE) (den : EM D) : Prop :=
  ∀ σ ρ S H g, Ok G σ ρ S H g → ∀ r ρ', den ρ = some (r, ρ') → ∀ Q : VK,
    (∀ d, r = .ok d → ∀ v S' H' g' bs, Ok G σ ρ' S' H' g' → Stp S H (In g) S' H' (fun a => In g' a ∨ a ∈ bs) → Own G.X.K S' H' w v d bs → bs.Nodup → (∀ b ∈ bs, S' b = none ∧ ¬ In g' b) → Q v H') →
    (∀ c x, r = .ex c x → PX G σ S H g c x ρ') → t σ H Q
structure CO (G : Cc) (w : Sh) (e : Expr) (den : EM D) : Prop where
  ex : ∃ t, PE G.X e t ∧ RGo G w t den
section
variable {G : Cc} {σ : St} {ρ ρ' : Rho} {S H S' H' : Hp} {g g' : Nat → List Addr}
theorem Own.ss {K : PySem.W.Frag} {v : V} {d : D} {bs : List Addr} (h : Own K S H .s v d bs) : bs = [] ∧ Rep K S v d := by
  unfold Own at h
  exact h
theorem own_s {K : PySem.W.Frag} {v : V} {d : D} (h : Rep K S v d) : Own K S H .s v d [] := by
  unfold Own
  exact ⟨rfl, h⟩
theorem CE.co {e : Expr} {den : EM D} (h : CE G e den) : CO G .s e den := by
  obtain ⟨t, p, q⟩ := h.ex
  refine ⟨t, p, fun σ ρ S H g k r ρ' hd Q qq px => q σ ρ S H g k r ρ' hd Q (fun d e v S' H' g' k' st rv => ?_) px⟩
  exact qq d e v S' H' g' [] k' (st.imp fun b hb => hb.elim id fun z => absurd z (by simp)) (own_s rv) List.nodup_nil fun b hb => absurd hb (by simp)
/-- an own part outside the slots is let into the shared part -/
theorem Ok.freeze {w : Sh} {v : V} {d : D} {bs : List Addr} (k : Ok G σ ρ S H g) (ow : Own G.X.K S H w v d bs) (hb : ∀ b ∈ bs, S b = none ∧ ¬ In g b) : Ok G σ ρ (join S H bs) H g where
  len := k.len
  rlen := k.rlen
  sub := join_sub k.sub
  slot := fun i d' e => by
    obtain ⟨v', h1, h2⟩ := k.slot i d' e
    exact ⟨v', h1, h2.mono (join_same fun b z => (hb b z).1) fun _ _ _ q => q⟩
  emp := k.emp
  nd := k.nd
  dj := k.dj
  sep := fun i a ha => by
    rw [join_out fun z => (hb a z).2 ⟨i, ha⟩]
    exact k.sep i a ha
theorem Stp.freeze {A : Addr → Prop} {bs : List Addr} (st : Stp S H A S' H' (fun a => In g' a ∨ a ∈ bs)) (hb : ∀ b ∈ bs, S' b = none) : Stp S H A (join S' H' bs) H' (In g') where
  sh := st.sh.trans (join_same hb)
  fr := st.fr
  sf := fun b o e => by
    by_cases z : b ∈ bs
    · rcases st.af b (.inr z) with q | q
      · exact .inr (.inr q)
      · exact .inr (.inl q)
    · rw [join_out z] at e
      exact st.sf b o e
  af := fun b h => st.af b (.inl h)
  dom := st.dom
theorem CO.ce {w : Sh} {e : Expr} {den : EM D} (h : CO G w e den) : CE G e den := by
  obtain ⟨t, p, q⟩ := h.ex
  refine ⟨t, p, fun σ ρ S H g k r ρ' hd Q qq px => q σ ρ S H g k r ρ' hd Q (fun d e v S' H' g' bs k' st ow nd hb => ?_) px⟩
  exact qq d e v _ H' g' (k'.freeze ow hb) (st.freeze fun b z => (hb b z).1) (ow.freeze fun b z => (hb b z).1)
/-- a slot is given up -/
theorem Ok.drop {i : Nat} {v : V} {d : D} (k : Ok G σ ρ S H g) (e : ρ[i]? = some (some d)) : Ok G σ (ρ.set i none) S H (fun j => if j = i then [] else g j) ∧ ∀ b ∈ g i, S b = none ∧ ¬ In (fun j => if j = i then [] else g j) b := by
  refine ⟨⟨k.len, by rw [List.length_set]; exact k.rlen, k.sub, fun j d' e' => ?_, fun j hj => ?_, fun j => ?_, fun j l hjl a ha => ?_, fun j a ha => ?_⟩, fun b hb => ⟨k.sep i b hb, fun ⟨j, hj⟩ => ?_⟩⟩
  · by_cases hji : j = i
    · subst hji
      rw [List.getElem?_set_self (List.getElem?_eq_some_iff.mp e).1] at e'
      cases e'
    · rw [List.getElem?_set_ne (Ne.symm hji)] at e'
      rw [if_neg hji]
      exact k.slot j d' e'
  · by_cases hji : j = i
    · rw [if_pos hji]
    · rw [if_neg hji]
      refine k.emp j fun d' e' => hj d' ?_
      rw [List.getElem?_set_ne (Ne.symm hji)]
      exact e'
  · by_cases hji : j = i
    · rw [if_pos hji]
      exact List.nodup_nil
    · rw [if_neg hji]
      exact k.nd j
  · by_cases hji : j = i
    · rw [if_pos hji] at ha
      exact absurd ha (by simp)
    · rw [if_neg hji] at ha
      by_cases hli : l = i
      · rw [if_pos hli]
        simp
      · rw [if_neg hli]
        exact k.dj j l hjl a ha
  · by_cases hji : j = i
    · rw [if_pos hji] at ha
      exact absurd ha (by simp)
    · rw [if_neg hji] at ha
      exact k.sep j a ha
  · by_cases hji : j = i
    · have hj : b ∈ (if j = i then [] else g j) := hj
      rw [if_pos hji] at hj
      exact absurd hj (by simp)
    · have hj : b ∈ (if j = i then [] else g j) := hj
      rw [if_neg hji] at hj
      exact k.dj j i hji b hj hb
/-- a slot gets a value -/
theorem Ok.put {i : Nat} {v : V} {d : D} {bs : List Addr} (k : Ok G σ ρ S H g) (hi : i < G.X.N.length) (ow : Own G.X.K S H (G.sh i) v d bs) (nd : bs.Nodup) (hb : ∀ b ∈ bs, S b = none ∧ ∀ j, j ≠ i → b ∉ g j) :
    Ok G (σ.set i (some v)) (ρ.set i (some d)) S H (fun j => if j = i then bs else g j) where
  len := by rw [List.length_set]; exact k.len
  rlen := by rw [List.length_set]; exact k.rlen
  sub := k.sub
  slot := fun j d' e => by
    by_cases hji : j = i
    · subst hji
      rw [List.getElem?_set_self (by rw [k.rlen]; exact hi)] at e
      cases e
      rw [if_pos rfl]
      exact ⟨v, List.getElem?_set_self (by rw [k.len]; exact hi), ow⟩
    · rw [List.getElem?_set_ne (Ne.symm hji)] at e
      rw [if_neg hji]
      obtain ⟨v', h1, h2⟩ := k.slot j d' e
      exact ⟨v', by rw [List.getElem?_set_ne (Ne.symm hji)]; exact h1, h2⟩
  emp := fun j hj => by
    by_cases hji : j = i
    · subst hji
      exact absurd (List.getElem?_set_self (by rw [k.rlen]; exact hi)) (hj d)
    · rw [if_neg hji]
      refine k.emp j fun d' e' => hj d' ?_
      rw [List.getElem?_set_ne (Ne.symm hji)]
      exact e'
  nd := fun j => by
    by_cases hji : j = i
    · rw [if_pos hji]
      exact nd
    · rw [if_neg hji]
      exact k.nd j
  dj := fun j l hjl a ha => by
    by_cases hji : j = i
    · rw [if_pos hji] at ha
      rw [if_neg fun z => hjl (hji.trans z.symm)]
      exact (hb a ha).2 l fun z => hjl (hji.trans z.symm)
    · rw [if_neg hji] at ha
      by_cases hli : l = i
      · rw [if_pos hli]
        exact fun z => (hb a z).2 j hji ha
      · rw [if_neg hli]
        exact k.dj j l hjl a ha
  sep := fun j a ha => by
    by_cases hji : j = i
    · rw [if_pos hji] at ha
      exact (hb a ha).1
    · rw [if_neg hji] at ha
      exact k.sep j a ha
/-- the slots' values are as they are, one slot's own part is changed -/
theorem Ok.mut {i : Nat} {v : V} {d : D} {bs : List Addr} (k : Ok G σ ρ S H g) (hi : i < G.X.N.length) (hv : σ[i]? = some (some v)) (hs : Same S' H') (sh : Same S S') (keep : ∀ j, j ≠ i → ∀ a ∈ g j, ∀ o, H a = some o → H' a = some o)
    (hsep : ∀ j, j ≠ i → ∀ a ∈ g j, S' a = none) (ow : Own G.X.K S' H' (G.sh i) v d bs) (nd : bs.Nodup) (hb : ∀ b ∈ bs, S' b = none ∧ ∀ j, j ≠ i → b ∉ g j) : Ok G σ (ρ.set i (some d)) S' H' (fun j => if j = i then bs else g j) where
  len := k.len
  rlen := by rw [List.length_set]; exact k.rlen
  sub := hs
  slot := fun j d' e => by
    by_cases hji : j = i
    · subst hji
      rw [List.getElem?_set_self (by rw [k.rlen]; exact hi)] at e
      cases e
      rw [if_pos rfl]
      exact ⟨v, hv, ow⟩
    · rw [List.getElem?_set_ne (Ne.symm hji)] at e
      rw [if_neg hji]
      obtain ⟨v', h1, h2⟩ := k.slot j d' e
      exact ⟨v', h1, h2.mono sh (keep j hji)⟩
  emp := fun j hj => by
    by_cases hji : j = i
    · subst hji
      exact absurd (List.getElem?_set_self (by rw [k.rlen]; exact hi)) (hj d)
    · rw [if_neg hji]
      refine k.emp j fun d' e' => hj d' ?_
      rw [List.getElem?_set_ne (Ne.symm hji)]
      exact e'
  nd := fun j => by
    by_cases hji : j = i
    · rw [if_pos hji]
      exact nd
    · rw [if_neg hji]
      exact k.nd j
  dj := fun j l hjl a ha => by
    by_cases hji : j = i
    · rw [if_pos hji] at ha
      rw [if_neg fun z => hjl (hji.trans z.symm)]
      exact (hb a ha).2 l fun z => hjl (hji.trans z.symm)
    · rw [if_neg hji] at ha
      by_cases hli : l = i
      · rw [if_pos hli]
        exact fun z => (hb a z).2 j hji ha
      · rw [if_neg hli]
        exact k.dj j l hjl a ha
  sep := fun j a ha => by
    by_cases hji : j = i
    · rw [if_pos hji] at ha
      exact (hb a ha).1
    · rw [if_neg hji] at ha
      exact hsep j hji a ha
end
/-! ### a slot's own value is given away -/
namespace EM
def take (i : Nat) : EM D := fun ρ => match ρ[i]? with
  | some (some d) => some (.ok d, ρ.set i none)
  | _ => none
end EM
section
variable {G : Cc} {σ : St} {ρ ρ' : Rho} {S H S' H' : Hp} {g g' : Nat → List Addr} {pos : Pos}
theorem co_take (i : Nat) {x : Str} (hN : G.X.N[i]? = some x := by rfl) (hv : Vis G.X.env.scope x := by first | exact Or.inl rfl | exact Or.inr (Or.inl rfl) | exact Or.inr (Or.inr rfl)) (hd : (x == ("__debug__" : Str)) = false := by decide)
    (hcd : (x == ("__classdict__" : Str)) = false := by decide) : CO G (G.sh i) (.Name x pos) (EM.take i) := by
  refine ⟨_, pe_var hN hv hd hcd, fun σ ρ S H g k r ρ' hd Q qq px => ?_⟩
  unfold EM.take at hd
  split at hd
  · rename_i d e
    cases hd
    obtain ⟨v, h1, h2⟩ := k.slot i d e
    obtain ⟨k', hb⟩ := k.drop (v := v) e
    refine ⟨v, h1, qq d rfl v S H _ (g i) k' ⟨Same.refl S, fun _ _ e _ => e, fun _ _ e => .inl e, fun b hb => .inl ?_, fun _ e => e⟩ h2 (k.nd i) hb⟩
    rcases hb with ⟨j, hj⟩ | hj
    · have hj : b ∈ (if j = i then [] else g j) := hj
      by_cases hji : j = i
      · rw [if_pos hji] at hj
        exact absurd hj (by simp)
      · rw [if_neg hji] at hj
        exact ⟨j, hj⟩
    · exact ⟨i, hj⟩
  · cases hd
end
end Cl
namespace Cl
open PySem PySem.Spec PyProof.Rows L2
/-! ### statements -/
inductive Fl where
  | nx | bk | ct
  | rt (d : D)
  | ex (c : Addr) (x : Option (List (Str × D)))
abbrev SM := Rho → Option (Fl × Rho)
def Fix (G : Cc) (σ σ' : St) : Prop := ∀ i ∈ G.fx, σ'[i]? = σ[i]?
theorem Fix.refl {G : Cc} {σ : St} : Fix G σ σ := fun _ _ => rfl
theorem Fix.trans {G : Cc} {σ σ' σ'' : St} (a : Fix G σ σ') (b : Fix G σ' σ'') : Fix G σ σ'' := fun i h => (b i h).trans (a i h)
def PSt (G : Cc) (σ : St) (S H : Hp) (g : Nat → List Addr) (E : Ends) : Fl → Rho → Prop
  | .nx, ρ' => ∀ σ' S' H' g', Ok G σ' ρ' S' H' g' → Stp S H (In g) S' H' (In g') → Fix G σ σ' → E.nx σ' H'
  | .bk, ρ' => ∀ σ' S' H' g', Ok G σ' ρ' S' H' g' → Stp S H (In g) S' H' (In g') → Fix G σ σ' → E.bk σ' H'
  | .ct, ρ' => ∀ σ' S' H' g', Ok G σ' ρ' S' H' g' → Stp S H (In g) S' H' (In g') → Fix G σ σ' → E.ct σ' H'
  | .rt d, ρ' => ∀ v σ' S' H' g' bs, Ok G σ' ρ' S' H' g' → Stp S H (In g) S' H' (fun a => In g' a ∨ a ∈ bs) → Fix G σ σ' → Own G.X.K S' H' G.wr v d bs → bs.Nodup → (∀ b ∈ bs, S' b = none ∧ ¬ In g' b) → E.rt v H'
  | .ex c x, ρ' => ∀ dd σ' S' H' g', Ok G σ' ρ' S' H' g' → Stp S H (In g) S' H' (In g') → Fix G σ σ' → ExR G.X.K S' x dd → G.W (.ref c) dd σ' H'
def RS (G : Cc) (t : TS) (den : SM) : Prop :=
  ∀ σ ρ S H g, Ok G σ ρ S H g → ∀ fl ρ', den ρ = some (fl, ρ') → ∀ E : Ends, PSt G σ S H g E fl ρ' → t E σ H
structure CS (G : Cc) (st : Stmt) (den : SM) : Prop where
  ex : ∃ t, PS G.X st t ∧ RS G t den
structure CB (G : Cc) (sts : List Stmt) (den : SM) : Prop where
  ex : ∃ t, PSs G.X sts t ∧ RS G t den
section
variable {G : Cc} {σ σ1 : St} {ρ ρ' : Rho} {S H S1 H1 : Hp} {g g1 : Nat → List Addr} {E : Ends}
/-- an earlier start -/
theorem PSt.step {fl : Fl} (p : PSt G σ S H g E fl ρ') (st : Stp S H (In g) S1 H1 (In g1)) (fx : Fix G σ σ1) : PSt G σ1 S1 H1 g1 E fl ρ' := by
  cases fl with
  | nx => exact fun σ' S' H' g' k t f => p σ' S' H' g' k (st.trans t) (fx.trans f)
  | bk => exact fun σ' S' H' g' k t f => p σ' S' H' g' k (st.trans t) (fx.trans f)
  | ct => exact fun σ' S' H' g' k t f => p σ' S' H' g' k (st.trans t) (fx.trans f)
  | rt d => exact fun v σ' S' H' g' bs k t f => p v σ' S' H' g' bs k (st.trans t) (fx.trans f)
  | ex c x => exact fun dd σ' S' H' g' k t f => p dd σ' S' H' g' k (st.trans t) (fx.trans f)
theorem PSt.px {c : Addr} {x : Option (List (Str × D))} (p : PSt G σ S H g E (.ex c x) ρ') : PX G σ S H g c x ρ' := fun dd S' H' g' k st e => p dd σ S' H' g' k st .refl e
end
namespace SM
def nop : SM := fun ρ => some (.nx, ρ)
def brk : SM := fun ρ => some (.bk, ρ)
def cont : SM := fun ρ => some (.ct, ρ)
def seq (a b : SM) : SM := fun ρ => match a ρ with
  | some (.nx, ρ') => b ρ'
  | o => o
/-- an expression, then the rest -/
def bind {α : Type} (m : EM α) (f : α → SM) : SM := fun ρ => match m ρ with
  | some (.ok a, ρ') => f a ρ'
  | some (.ex c x, ρ') => some (.ex c x, ρ')
  | none => none
def drop (m : EM D) : SM := bind m fun _ => nop
def ret (m : EM D) : SM := bind m fun d ρ => some (.rt d, ρ)
def retN : SM := fun ρ => some (.rt .non, ρ)
def set (i : Nat) (m : EM D) : SM := bind m fun d ρ => some (.nx, ρ.set i (some d))
def ite (c : EM Bool) (a b : SM) : SM := bind c fun k => match k with
  | true => a
  | false => b
end SM
theorem sbind_cases {α : Type} {m : EM α} {f : α → SM} {ρ ρ' : Rho} {r : Fl} (h : SM.bind m f ρ = some (r, ρ')) :
    (∃ a ρ1, m ρ = some (.ok a, ρ1) ∧ f a ρ1 = some (r, ρ')) ∨ ∃ c x, m ρ = some (.ex c x, ρ') ∧ r = .ex c x := by
  unfold SM.bind at h
  split at h
  · exact .inl ⟨_, _, by assumption, h⟩
  · rename_i c x ρ1 e
    cases h
    exact .inr ⟨c, x, e, rfl⟩
  · cases h
section
variable {G : Cc} {σ : St} {ρ ρ' : Rho} {S H S' H' : Hp} {g g' : Nat → List Addr}
theorem RG.useS {β α : Type} {t : St → Hp → (β → Hp → Prop) → Prop} {R : St → Hp → β → α → Prop} {den : EM α} {f : α → SM} {r : Fl} {E : Ends} {Q : β → Hp → Prop} (h : RG G t R den) (k : Ok G σ ρ S H g) (hd : SM.bind den f ρ = some (r, ρ'))
    (px : PSt G σ S H g E r ρ')
    (kk : ∀ a ρ1, f a ρ1 = some (r, ρ') → ∀ b S1 H1 g1, Ok G σ ρ1 S1 H1 g1 → Stp S H (In g) S1 H1 (In g1) → R σ S1 b a → PSt G σ S1 H1 g1 E r ρ' → Q b H1) : t σ H Q := by
  rcases sbind_cases hd with ⟨a, ρ1, e1, e2⟩ | ⟨c, x, e1, rfl⟩
  · refine h σ ρ S H g k _ _ e1 Q (fun a' ea b S1 H1 g1 k1 st rb => ?_) (fun c x e => by cases e)
    cases ea
    exact kk a ρ1 e2 b S1 H1 g1 k1 st rb (px.step st .refl)
  · refine h σ ρ S H g k _ _ e1 Q (fun a' ea => by cases ea) (fun c' x' e => ?_)
    cases e
    exact px.px
theorem RGo.useS {w : Sh} {t : TE} {den : EM D} {f : D → SM} {r : Fl} {E : Ends} {Q : VK} (h : RGo G w t den) (k : Ok G σ ρ S H g) (hd : SM.bind den f ρ = some (r, ρ'))
    (px : PSt G σ S H g E r ρ')
    (kk : ∀ d ρ1, f d ρ1 = some (r, ρ') → ∀ v S1 H1 g1 bs, Ok G σ ρ1 S1 H1 g1 → Stp S H (In g) S1 H1 (fun a => In g1 a ∨ a ∈ bs) → Own G.X.K S1 H1 w v d bs → bs.Nodup → (∀ b ∈ bs, S1 b = none ∧ ¬ In g1 b) → Q v H1) : t σ H Q := by
  rcases sbind_cases hd with ⟨a, ρ1, e1, e2⟩ | ⟨c, x, e1, rfl⟩
  · refine h σ ρ S H g k _ _ e1 Q (fun a' ea v S1 H1 g1 bs k1 st ow nd hb => ?_) (fun c x e => by cases e)
    cases ea
    exact kk a ρ1 e2 v S1 H1 g1 bs k1 st ow nd hb
  · refine h σ ρ S H g k _ _ e1 Q (fun a' ea => by cases ea) (fun c' x' e => ?_)
    cases e
    exact px.px
theorem rs_seq {t u : TS} {a b : SM} (ha : RS G t a) (hb : RS G u b) : RS G (tSeq t u) (SM.seq a b) := by
  intro σ ρ S H g k fl ρ' hd E p
  unfold SM.seq at hd
  cases e : a ρ with
  | none =>
    rw [e] at hd
    cases hd
  | some q =>
    obtain ⟨f1, ρ1⟩ := q
    rw [e] at hd
    have go := ha σ ρ S H g k f1 ρ1 e { E with nx := u E }
    cases f1 with
    | nx => exact go fun σ1 S1 H1 g1 k1 st1 fx1 => hb σ1 ρ1 S1 H1 g1 k1 fl ρ' hd E (p.step st1 fx1)
    | bk =>
      cases hd
      exact go p
    | ct =>
      cases hd
      exact go p
    | rt d =>
      cases hd
      exact go p
    | ex c x =>
      cases hd
      exact go p
theorem rs_nop : RS G tNext SM.nop := by
  intro σ ρ S H g k fl ρ' hd E p
  cases hd
  exact p σ S H g k .refl .refl
theorem rs_drop {t : TE} {d : EM D} (h : RG G t (RepR G) d) : RS G (tDrop t) (SM.drop d) := by
  intro σ ρ S H g k fl ρ' hd E p
  refine h.useS k hd p fun a ρ1 h1 v S1 H1 g1 k1 st1 rv p1 => ?_
  cases h1
  exact p1 σ S1 H1 g1 k1 .refl .refl
theorem rs_ret {w : Sh} (hw : G.wr = w) {t : TE} {d : EM D} (h : RGo G w t d) : RS G (tRet t) (SM.ret d) := by
  intro σ ρ S H g k fl ρ' hd E p
  refine h.useS k hd p fun a ρ1 h1 v S1 H1 g1 bs k1 st1 ow nd hb => ?_
  cases h1
  exact p v σ S1 H1 g1 bs k1 st1 .refl (by rw [hw]; exact ow) nd hb
theorem rs_retN (hw : G.wr = .s) : RS G tRetN SM.retN := by
  intro σ ρ S H g k fl ρ' hd E p
  cases hd
  exact p .non σ S H g [] k (Stp.refl.imp fun b hb => hb.elim id fun z => absurd z (by simp)) .refl (by rw [hw]; exact own_s rfl) List.nodup_nil fun b hb => absurd hb (by simp)
theorem rs_ite {c : TT} {t u : TS} {dc : EM Bool} {a b : SM} (hc : RG G c (fun _ _ b a => b = a) dc) (ha : RS G t a) (hb : RS G u b) : RS G (tIfS c t u) (SM.ite dc a b) := by
  intro σ ρ S H g k fl ρ' hd E p
  refine hc.useS k hd p fun d ρ1 h1 x S1 H1 g1 k1 st1 rx p1 => ?_
  subst rx
  cases x with
  | true => exact iteT (ha σ ρ1 S1 H1 g1 k1 fl ρ' h1 E p1)
  | false => exact iteF (hb σ ρ1 S1 H1 g1 k1 fl ρ' h1 E p1)
/-- name = e -/
theorem rs_set {i : Nat} {w : Sh} (hi : i < G.X.N.length) (hw : G.sh i = w) (hf : i ∉ G.fx) {t : TE} {d : EM D} (h : RGo G w t d) : RS G (tAsg t (gName i)) (SM.set i d) := by
  intro σ ρ S H g k fl ρ' hd E p
  refine h.useS k hd p fun a ρ1 h1 v S1 H1 g1 bs k1 st1 ow nd hb => ?_
  cases h1
  refine p _ S1 H1 _ (k1.put hi (by rw [hw]; exact ow) nd fun b z => ⟨(hb b z).1, fun j _ q => (hb b z).2 ⟨j, q⟩⟩) (st1.imp fun b ⟨j, hj⟩ => ?_) fun j hj => ?_
  · by_cases hji : j = i
    · have hj : b ∈ (if j = i then bs else g1 j) := hj
      rw [if_pos hji] at hj
      exact .inr hj
    · have hj : b ∈ (if j = i then bs else g1 j) := hj
      rw [if_neg hji] at hj
      exact .inl ⟨j, hj⟩
  · exact List.getElem?_set_ne fun z => hf (by rw [z]; exact hj)
end
section
variable {G : Cc} {a b c e : Expr} {es rest : List Expr} {da db dc : EM D} {dl : EM (List D)} {ta tb : EM Bool} {pos : Pos} {st : Stmt} {sts u1 u2 : List Stmt} {sa sb : SM} {w : Sh}
theorem cb_nil : CB G [] SM.nop := ⟨_, pss_nil, rs_nop⟩
theorem cb_one (h : CS G st sa) : CB G [st] sa := by
  obtain ⟨t, p, q⟩ := h.ex
  exact ⟨_, pss_one p, q⟩
theorem cb_cons (h : CS G st sa) (h' : CB G sts sb) : CB G (st :: sts) (SM.seq sa sb) := by
  obtain ⟨t, p, q⟩ := h.ex
  obtain ⟨t', p', q'⟩ := h'.ex
  exact ⟨_, pss_cons p p', rs_seq q q'⟩
theorem cs_pass : CS G (.Pass pos) SM.nop := ⟨_, ps_pass, rs_nop⟩
theorem cs_break : CS G (.Break pos) SM.brk := ⟨_, ps_break, fun σ ρ S H g k fl ρ' hd E p => by
  cases hd
  exact p σ S H g k .refl .refl⟩
theorem cs_continue : CS G (.Continue pos) SM.cont := ⟨_, ps_continue, fun σ ρ S H g k fl ρ' hd E p => by
  cases hd
  exact p σ S H g k .refl .refl⟩
theorem cs_expr (h : CE G e da) (hs : swapsWith e none pos.line G.X.env = pure false := by rfl) : CS G (.Expr e pos) (SM.drop da) := by
  obtain ⟨t, p, q⟩ := h.ex
  exact ⟨_, ps_expr p hs, rs_drop q⟩
theorem cs_ret (h : CO G w e da) (hw : G.wr = w := by rfl) : CS G (.Return (some e) pos) (SM.ret da) := by
  obtain ⟨t, p, q⟩ := h.ex
  exact ⟨_, ps_ret p, rs_ret hw q⟩
theorem cs_retN (hw : G.wr = .s := by rfl) : CS G (.Return none pos) SM.retN := ⟨_, ps_retN, rs_retN hw⟩
theorem cs_if (h : CT G c ta) (h1 : CB G u1 sa) (h2 : CB G u2 sb) : CS G (.If c u1 u2 pos) (SM.ite ta sa sb) := by
  obtain ⟨t, p, q⟩ := h.ex
  obtain ⟨t1, p1, q1⟩ := h1.ex
  obtain ⟨t2, p2, q2⟩ := h2.ex
  exact ⟨_, ps_if p p1 p2, rs_ite q q1 q2⟩
theorem cs_set (i : Nat) {x : Str} {pos' : Pos} (nd : G.X.N.Nodup) (h : CO G w e da) (hi : G.X.N[i]? = some x := by rfl) (hw : G.sh i = w := by rfl) (hfx : i ∉ G.fx := by exact nfx (by rfl)) (hx : Loc G.X.env.scope x := by first | exact Or.inl rfl | exact Or.inr rfl) (hs : swapsWith e (some (.Name x pos')) pos.line G.X.env = pure false := by rfl)
    (hf : G.X.fn x = true ∨ G.X.env.scope.names.lookup x = some .local := by first | exact .inl rfl | exact .inr rfl | assumption) : CS G (.Assign [.Name x pos'] e pos) (SM.set i da) := by
  obtain ⟨t, p, q⟩ := h.ex
  exact ⟨_, ps_set nd hi hx p hs hf, rs_set (List.getElem?_eq_some_iff.mp hi).1 hw hfx q⟩
end
end Cl
namespace Cl
open PySem PySem.Spec PyProof.Rows L2
theorem Owns.pieces {K : PySem.W.Frag} {S H : Hp} : ∀ {ws : List Sh} {vs : List V} {ds : List D} {as : List Addr}, Owns K S H ws vs ds as →
    ∃ ps : List (List Addr), ps.length = ws.length ∧ vs.length = ws.length ∧ ds.length = ws.length ∧ as = ps.flatten ∧ ∀ (i : Nat) (w : Sh) (v : V) (d : D), ws[i]? = some w → vs[i]? = some v → ds[i]? = some d → Own K S H w v d (ps.getD i [])
  | [], vs, ds, as, h => by
    obtain ⟨rfl, rfl, rfl⟩ := h
    exact ⟨[], rfl, rfl, rfl, rfl, fun i w v d e => by simp at e⟩
  | w :: ws, vs, ds, as, h => by
    obtain ⟨y, ys, d, ds', a1, a2, rfl, rfl, rfl, h1, h2⟩ := h
    obtain ⟨ps, e1, e2, e3, rfl, k⟩ := Owns.pieces h2
    refine ⟨a1 :: ps, by simp [e1], by simp [e2], by simp [e3], by simp, fun i w' v d' q1 q2 q3 => ?_⟩
    cases i with
    | zero =>
      simp at q1 q2 q3
      subst q1 q2 q3
      exact h1
    | succ i =>
      simp at q1 q2 q3
      have := k i w' v d' q1 q2 q3
      simpa using this
theorem Owns.of {K : PySem.W.Frag} {S H : Hp} : ∀ {ws : List Sh} {vs : List V} {ds : List D} {ps : List (List Addr)}, ps.length = ws.length → vs.length = ws.length → ds.length = ws.length →
    (∀ (i : Nat) (w : Sh) (v : V) (d : D), ws[i]? = some w → vs[i]? = some v → ds[i]? = some d → Own K S H w v d (ps.getD i [])) → Owns K S H ws vs ds ps.flatten
  | [], vs, ds, ps, e1, e2, e3, k => by
    rw [List.eq_nil_of_length_eq_zero e1, List.eq_nil_of_length_eq_zero e2, List.eq_nil_of_length_eq_zero e3]
    exact ⟨rfl, rfl, rfl⟩
  | w :: ws, [], _, _, _, e2, _, _ => by simp at e2
  | w :: ws, _, [], _, _, _, e3, _ => by simp at e3
  | w :: ws, _, _, [], e1, _, _, _ => by simp at e1
  | w :: ws, v :: vs, d :: ds, p :: ps, e1, e2, e3, k => by
    refine ⟨v, vs, d, ds, p, ps.flatten, rfl, rfl, by simp, ?_, Owns.of (by simpa using e1) (by simpa using e2) (by simpa using e3) fun i w' v' d' q1 q2 q3 => ?_⟩
    · have := k 0 w v d (by simp) (by simp) (by simp)
      simpa using this
    · have := k (i + 1) w' v' d' (by simpa using q1) (by simpa using q2) (by simpa using q3)
      simpa using this
/-! ### what a def promises -/
abbrev FD := List D → Option (Rs D × List D)
def spF (K : PySem.W.Frag) (ws : List Sh) (wr : Sh) (f : FD) : Sp := fun vs H Q E => ∃ S as ds r ds', Same S H ∧ Owns K S H ws vs ds as ∧ as.Nodup ∧ (∀ a ∈ as, S a = none) ∧ f ds = some (r, ds') ∧
  (∀ d, r = .ok d → ∀ v S' H' as' bs, Same S' H' → Stp S H (fun a => a ∈ as) S' H' (fun a => a ∈ as' ∨ a ∈ bs) → Owns K S' H' ws vs ds' as' → Own K S' H' wr v d bs → (as' ++ bs).Nodup → (∀ a ∈ as' ++ bs, S' a = none) → Q v H') ∧
  (∀ c x, r = .ex c x → ∀ dd S' H' as', Same S' H' → Stp S H (fun a => a ∈ as) S' H' (fun a => a ∈ as') → Owns K S' H' ws vs ds' as' → as'.Nodup → (∀ a ∈ as', S' a = none) → ExR K S' x dd → E (.ref c) dd H')
def Sh.isS : Sh → Bool
  | .s => true
  | _ => false
theorem isS_eq {w : Sh} (h : w.isS = true) : w = .s := by cases w <;> first | rfl | cases h
def outs : List Sh → List D → Rho → Option (List D)
  | [], _, _ => some []
  | w :: ws, d :: ds, o :: ρ => match w.isS with
    | true => (outs ws ds ρ).map (d :: ·)
    | false => match o with
      | some d' => (outs ws ds ρ).map (d' :: ·)
      | none => none
  | _, _, _ => none
def runF (n : Nat) (ws : List Sh) (den : SM) : FD := fun ds => match den (ds.map some ++ List.replicate (n - ds.length) none) with
  | some (.nx, ρ') => (outs ws ds ρ').map fun os => (.ok .non, os)
  | some (.rt d, ρ') => (outs ws ds ρ').map fun os => (.ok d, os)
  | some (.ex c x, ρ') => (outs ws ds ρ').map fun os => (.ex c x, os)
  | _ => none
theorem outs_get : ∀ {ws : List Sh} {ds : List D} {ρ : Rho} {os : List D}, outs ws ds ρ = some os → os.length = ws.length ∧ ∀ (i : Nat) (w : Sh) (d : D), ws[i]? = some w → ds[i]? = some d → if w.isS = true then os[i]? = some d else ∃ d', ρ[i]? = some (some d') ∧ os[i]? = some d'
  | [], ds, ρ, os, h => by
    cases h
    exact ⟨rfl, fun i w d e => by simp at e⟩
  | w :: ws, [], ρ, os, h => by cases ρ <;> cases h
  | w :: ws, d :: ds, [], os, h => by cases h
  | w :: ws, d :: ds, o :: ρ, os, h => by
    unfold outs at h
    cases hw : w.isS with
    | true =>
      rw [hw] at h
      cases q : outs ws ds ρ with
      | none =>
        rw [q] at h
        cases h
      | some zs =>
        rw [q] at h
        cases h
        obtain ⟨h1, h2⟩ := outs_get q
        refine ⟨by simp [h1], fun i w' d' e1 e2 => ?_⟩
        cases i with
        | zero =>
          simp at e1 e2
          subst e1 e2
          rw [if_pos hw]
          rfl
        | succ i =>
          have := h2 i w' d' (by simpa using e1) (by simpa using e2)
          simpa using this
    | false =>
      rw [hw] at h
      cases o with
      | none => cases h
      | some d1 =>
        cases q : outs ws ds ρ with
        | none =>
          simp only [q] at h
          cases h
        | some zs =>
          simp only [q] at h
          cases h
          obtain ⟨h1, h2⟩ := outs_get q
          refine ⟨by simp [h1], fun i w' d' e1 e2 => ?_⟩
          cases i with
          | zero =>
            simp at e1 e2
            subst e1 e2
            rw [if_neg (by rw [hw]; decide)]
            exact ⟨d1, rfl, rfl⟩
          | succ i =>
            have := h2 i w' d' (by simpa using e1) (by simpa using e2)
            simpa using this
theorem getD_mem {α : Type} {ps : List (List α)} {i : Nat} {a : α} (h : a ∈ ps.getD i []) : ps[i]? = some (ps.getD i []) := by
  rw [List.getD_eq_getElem?_getD] at h ⊢
  cases e : ps[i]? with
  | none =>
    rw [e] at h
    exact absurd h (by simp)
  | some p => rfl
theorem getD_flatten {α : Type} {ps : List (List α)} {i : Nat} {a : α} (h : a ∈ ps.getD i []) : a ∈ ps.flatten := List.mem_flatten.mpr ⟨_, List.mem_of_getElem? (getD_mem h), h⟩
theorem pieces_nd {ps : List (List Addr)} (h : ps.flatten.Nodup) (i : Nat) : (ps.getD i []).Nodup := by
  rw [List.getD_eq_getElem?_getD]
  cases e : ps[i]? with
  | none => exact List.nodup_nil
  | some p => exact (List.pairwise_flatten.mp h).1 p (List.mem_of_getElem? e)
theorem pieces_dj {ps : List (List Addr)} (h : ps.flatten.Nodup) {i j : Nat} (hij : i ≠ j) {a : Addr} (ha : a ∈ ps.getD i []) : a ∉ ps.getD j [] := by
  intro hb
  have h2 := (List.pairwise_flatten.mp h).2
  have ei := getD_mem ha
  have ej := getD_mem hb
  obtain ⟨li, ei⟩ := List.getElem?_eq_some_iff.mp ei
  obtain ⟨lj, ej⟩ := List.getElem?_eq_some_iff.mp ej
  rcases Nat.lt_or_gt_of_ne hij with z | z
  · exact List.pairwise_iff_getElem.mp h2 i j li lj z a (by rw [ei]; exact ha) a (by rw [ej]; exact hb) rfl
  · exact List.pairwise_iff_getElem.mp h2 j i lj li z a (by rw [ej]; exact hb) a (by rw [ei]; exact ha) rfl
theorem nodup_pieces {ps : List (List Addr)} (h1 : ∀ i, (ps.getD i []).Nodup) (h2 : ∀ i j, i ≠ j → ∀ a ∈ ps.getD i [], a ∉ ps.getD j []) : ps.flatten.Nodup := by
  refine List.pairwise_flatten.mpr ⟨fun p hp => ?_, List.pairwise_iff_getElem.mpr fun i j hi hj hij a ha b hb e => ?_⟩
  · obtain ⟨i, hi, e⟩ := List.mem_iff_getElem.mp hp
    have := h1 i
    rw [List.getD_eq_getElem?_getD, List.getElem?_eq_getElem hi, e] at this
    exact this
  · subst e
    refine h2 i j (Nat.ne_of_lt hij) a ?_ ?_
    · rw [List.getD_eq_getElem?_getD, List.getElem?_eq_getElem hi]
      exact ha
    · rw [List.getD_eq_getElem?_getD, List.getElem?_eq_getElem hj]
      exact hb
section
variable {G : Cc} {S H : Hp}
/-- at a def's entry -/
theorem Ok.start {ws : List Sh} {vs : List V} {ds : List D} {as : List Addr} (hn : ws.length ≤ G.X.N.length) (hs : ∀ i w, ws[i]? = some w → G.sh i = w) (sb : Same S H) (ow : Owns G.X.K S H ws vs ds as) (nd : as.Nodup) (sp : ∀ a ∈ as, S a = none) :
    ∃ g, Ok G (L2.start G.X.N vs) (ds.map some ++ List.replicate (G.X.N.length - ds.length) none) S H g ∧ ∀ a, In g a → a ∈ as := by
  obtain ⟨ps, e1, e2, e3, rfl, k⟩ := ow.pieces
  refine ⟨fun i => ps.getD i [], ⟨?_, ?_, sb, fun i d e => ?_, fun i hi => ?_, pieces_nd nd, fun i j hij a ha => pieces_dj nd hij ha, fun i a ha => sp a (getD_flatten ha)⟩, fun a ⟨i, hi⟩ => getD_flatten hi⟩
  · unfold L2.start
    simp [e2]
    omega
  · simp [e3]
    omega
  · have hi : i < ds.length := by
      by_cases z : i < ds.length
      · exact z
      · rw [List.getElem?_append_right (by simpa using z)] at e
        have := List.mem_of_getElem? e
        simp at this
    rw [List.getElem?_append_left (by simpa using hi), List.getElem?_map] at e
    have hd : ds[i]? = some d := by
      cases q : ds[i]? with
      | none =>
        rw [q] at e
        cases e
      | some d' =>
        rw [q] at e
        cases e
        rfl
    have hv : i < vs.length := by omega
    have hw : i < ws.length := by omega
    refine ⟨vs[i], ?_, ?_⟩
    · unfold L2.start
      rw [List.getElem?_append_left (by simpa using hv), List.getElem?_map, List.getElem?_eq_getElem hv]
      rfl
    · rw [show G.Om.getD i .s = ws[i] from hs i ws[i] (List.getElem?_eq_getElem hw)]
      exact k i ws[i] vs[i] d (List.getElem?_eq_getElem hw) (List.getElem?_eq_getElem hv) hd
  · by_cases z : i < ds.length
    · exact absurd (by rw [List.getElem?_append_left (by simpa using z), List.getElem?_map, List.getElem?_eq_getElem z]; rfl) (hi ds[i])
    · rw [List.getD_eq_getElem?_getD, List.getElem?_eq_none (by omega)]
      rfl
/-- at a def's end -/
theorem Ok.ends {ws : List Sh} {vs : List V} {ds os : List D} {as : List Addr} {σ' : St} {ρ' : Rho} {S' H' : Hp} {g' : Nat → List Addr} (hs : ∀ i w, ws[i]? = some w → G.sh i = w) (hf : ∀ i w, ws[i]? = some w → w.isS = false → i ∈ G.fx) (ow : Owns G.X.K S H ws vs ds as) (sh : Same S S') (k : Ok G σ' ρ' S' H' g') (fx : Fix G (L2.start G.X.N vs) σ')
    (ho : outs ws ds ρ' = some os) : ∃ as', Owns G.X.K S' H' ws vs os as' ∧ as'.Nodup ∧ ∀ a ∈ as', In g' a := by
  obtain ⟨ps, e1, e2, e3, rfl, kk⟩ := ow.pieces
  obtain ⟨o1, o2⟩ := outs_get ho
  let qs : List (List Addr) := (List.range ws.length).map fun i => if (ws.getD i .s).isS = true then [] else g' i
  have hq : ∀ i w, ws[i]? = some w → qs.getD i [] = if w.isS = true then [] else g' i := fun i w e => by
    have hi := (List.getElem?_eq_some_iff.mp e).1
    show ((List.range ws.length).map _).getD i [] = _
    rw [List.getD_eq_getElem?_getD, List.getElem?_map, List.getElem?_range hi]
    show (if (ws.getD i .s).isS = true then [] else g' i) = _
    rw [List.getD_eq_getElem?_getD, e]
    rfl
  have hm : ∀ i a, a ∈ qs.getD i [] → a ∈ g' i := fun i a ha => by
    have hi : i < ws.length := by
      have := (List.getElem?_eq_some_iff.mp (getD_mem ha)).1
      have hl : qs.length = ws.length := by
        show ((List.range ws.length).map _).length = _
        simp
      omega
    rw [hq i ws[i] (List.getElem?_eq_getElem hi)] at ha
    split at ha
    · exact absurd ha (by simp)
    · exact ha
  refine ⟨qs.flatten, Owns.of (by show ((List.range ws.length).map _).length = _; simp) e2 o1 fun i w v d q1 q2 q3 => ?_, nodup_pieces (fun i => ?_) fun i j hij a ha hb => k.dj i j hij a (hm i a ha) (hm j a hb), fun a ha => ?_⟩
  · rw [hq i w q1]
    have hd : i < ds.length := by
      have := (List.getElem?_eq_some_iff.mp q1).1
      omega
    have z := o2 i w ds[i] q1 (List.getElem?_eq_getElem hd)
    cases hw : w.isS with
    | true =>
      rw [if_pos hw] at z
      rw [if_pos rfl]
      rw [q3] at z
      cases z
      have own := kk i w v ds[i] q1 q2 (List.getElem?_eq_getElem hd)
      have ew := isS_eq hw
      subst ew
      exact own_s (own.ss.2.mono sh)
    | false =>
      rw [if_neg (by rw [hw]; decide)] at z
      rw [if_neg (by decide)]
      obtain ⟨d', z1, z2⟩ := z
      rw [q3] at z2
      cases z2
      obtain ⟨v', h1, h2⟩ := k.slot i d z1
      rw [show G.Om.getD i .s = w from hs i w q1] at h2
      have h3 := fx i (hf i w q1 hw)
      rw [h1] at h3
      have hv : (L2.start G.X.N vs)[i]? = some (some v) := by
        unfold L2.start
        rw [List.getElem?_append_left (by simpa using (List.getElem?_eq_some_iff.mp q2).1), List.getElem?_map, q2]
        rfl
      rw [hv] at h3
      cases h3
      exact h2
  · by_cases hi : i < ws.length
    · rw [hq i ws[i] (List.getElem?_eq_getElem hi)]
      split
      · exact List.nodup_nil
      · exact k.nd i
    · rw [List.getD_eq_getElem?_getD, List.getElem?_eq_none (by show ((List.range ws.length).map _).length ≤ i; simp; omega)]
      exact List.nodup_nil
  · obtain ⟨p, hp, hap⟩ := List.mem_flatten.mp ha
    obtain ⟨i, hi, e⟩ := List.mem_iff_getElem.mp hp
    refine ⟨i, hm i a ?_⟩
    rw [List.getD_eq_getElem?_getD, List.getElem?_eq_getElem hi, e]
    exact hap
end
end Cl
namespace Cl
open PySem PySem.Spec PyProof.Rows L2
/-- own parameters -/
def fxOf (ws : List Sh) : List Nat := (List.range ws.length).filter fun i => !(ws.getD i .s).isS
/-- a def's body's context -/
abbrev gx (P : Program) (w : World) (K : PySem.W.Frag) (mg : Str → Option Value) (base : Heap) (N : List Str) (qual : Str) (scope : Scope) (f : Addr) (cd : Value) (A : Around) (outer : List Env) (s : Shared) (H : Hp) (E : XK) (ws ls : List Sh) (wr : Sh) : Cc :=
  ⟨cxOf (L2.CX P w) P w K mg base N qual scope f cd A outer s H E, fun cls d _ H => E cls d H, ws ++ ls, fxOf ws, wr⟩
/-- what every rule may ask of the context -/
structure GOk (G : Cc) (k : Nat) : Prop where
  nd : G.X.N.Nodup
  calm : G.X.calm = true
  tk : Takes G.X G.W
  pass : PassesOwn (model G.X.prog G.X.w) G.X.A G.X.env G.X.xe
  room : Room k G.X.A
structure FnE (P : Program) (w : World) (K : PySem.W.Frag) (mg : Str → Option Value) (base : Heap) (k : Nat) (x : Str) (ps : List Str) (sp : Sp) : Prop where
  ex : ∃ f fd, mg x = some (.ref f) ∧ PySem.W.keepIn K (.ref f) = true ∧ Binds K fd ps [] ∧ FnOk P w K mg base (L2.CX P w) k f fd ps sp
section
variable {P : Program} {w : World} {K : PySem.W.Frag} {mg : Str → Option Value} {base : Heap}
theorem Owns.len {S H : Hp} : ∀ {ws : List Sh} {vs : List V} {ds : List D} {as : List Addr}, Owns K S H ws vs ds as → vs.length = ws.length := fun h => by
  obtain ⟨ps, e1, e2, e3, _⟩ := h.pieces
  exact e2
theorem fx_of {ws : List Sh} {i : Nat} {u : Sh} (e : ws[i]? = some u) (h : u.isS = false) : i ∈ fxOf ws := by
  unfold fxOf
  refine List.mem_filter.mpr ⟨List.mem_range.mpr (List.getElem?_eq_some_iff.mp e).1, ?_⟩
  rw [List.getD_eq_getElem?_getD, e]
  show (!u.isS) = true
  rw [h]
  rfl
/-- THE RULE for a def, its function object given -/
theorem fn_ok {x : Str} {st : Stmt} {f : Addr} {fd : FuncData} {N ps : List Str} {k : Nat} {ws ls : List Sh} {wr : Sh} {den : SM} (F : FunD K x x (defArgs st) (defBody st) (defScope st) [] [] f fd) (S : FnScope N ps (defScope st)) (hw : ws.length = ps.length)
    (body : ∀ (cdv : Value) (A : Around) (outer : List Env) (s : Shared) (H : Hp) (E : XK), GOk (gx P w K mg base N x (defScope st) f cdv A outer s H E ws ls wr) k → CB (gx P w K mg base N x (defScope st) f cdv A outer s H E ws ls wr) (defBody st) den)
    (hwr : wr = .s ∨ ∀ ρ ρ', den ρ ≠ some (.nx, ρ')) : FnOk P w K mg base (L2.CX P w) (k + 1) f fd ps (spF K ws wr (runF N.length ws den)) := by
  refine F.ok S (fun vs H Q E h => ?_) fun cdv A outer s H vs Q E hr h => ?_
  · obtain ⟨S0, as, ds, r, ds', _, ow, _⟩ := h
    rw [ow.len, hw]
  · obtain ⟨S0, as, ds, r, ds', sb, ow, nd, sp, hf, q1, q2⟩ := h
    have tk : Takes (cxOf (L2.CX P w) P w K mg base N x (defScope st) f cdv A outer s H E) (fun cls d _ H => E cls d H) := takes_of rfl rfl rfl rfl
    obtain ⟨t, p, q⟩ := (body cdv A outer s H E ⟨S.nd, rfl, tk, passes_of rfl, hr⟩).ex
    refine ⟨t, p, ?_⟩
    have hN : ws.length ≤ N.length := by
      have := congrArg List.length S.pre
      rw [List.length_take] at this
      omega
    have hs : ∀ i u, ws[i]? = some u → (ws ++ ls).getD i .s = u := fun i u e => by
      rw [List.getD_eq_getElem?_getD, List.getElem?_append_left (List.getElem?_eq_some_iff.mp e).1, e]
      rfl
    obtain ⟨g, k0, hg⟩ := Ok.start (G := gx P w K mg base N x (defScope st) f cdv A outer s H E ws ls wr) hN hs sb ow nd sp
    unfold runF at hf
    have up : ∀ {S' H' : Hp} {A' : Addr → Prop}, Stp S0 H (In g) S' H' A' → Stp S0 H (fun a => a ∈ as) S' H' A' := fun st => ⟨st.sh, fun b o e n => st.fr b o e fun z => n (hg b z), fun b o e => (st.sf b o e).elim .inl fun z => z.elim (fun y => .inr (.inl y)) fun y => .inr (.inr (hg b y)), fun b z => (st.af b z).elim (fun y => .inl (hg b y)) .inr, st.dom⟩
    have fin : ∀ {σ' : St} {ρ' : Rho} {S' H' : Hp} {g' : Nat → List Addr} {v : V} {d : D} {bs : List Addr} {os : List D}, Ok (gx P w K mg base N x (defScope st) f cdv A outer s H E ws ls wr) σ' ρ' S' H' g' → Stp S0 H (In g) S' H' (fun a => In g' a ∨ a ∈ bs) → Fix (gx P w K mg base N x (defScope st) f cdv A outer s H E ws ls wr) (L2.start N vs) σ' → Own K S' H' wr v d bs → bs.Nodup → (∀ b ∈ bs, S' b = none ∧ ¬ In g' b) →
        outs ws ds ρ' = some os → r = .ok d → ds' = os → Q v H' := fun {σ' ρ' S' H' g' v d bs os} k' st' fx' ow' nd' hb' ho hr hds => by
      subst hds
      obtain ⟨as', o1, o2, o3⟩ := Ok.ends hs (fun i u e z => fx_of e z) ow st'.sh k' fx' ho
      refine q1 d hr v S' H' as' bs k'.sub ((up st').imp fun b z => z.elim (fun y => .inl (o3 b y)) .inr) o1 ow' ?_ fun a ha => ?_
      · refine List.nodup_append.mpr ⟨o2, nd', fun a ha b hb e => ?_⟩
        subst e
        exact (hb' a hb).2 (o3 a ha)
      · rcases List.mem_append.mp ha with z | z
        · exact k'.sepI (o3 a z)
        · exact (hb' a z).1
    split at hf
    · rename_i ρ' e
      refine q _ _ S0 H g k0 _ _ e _ fun σ' S' H' g' k' st' fx' => ?_
      have e2 : wr = .s := hwr.resolve_right fun z => z _ _ e
      cases eo : outs ws ds ρ' with
      | none =>
        rw [eo] at hf
        cases hf
      | some os =>
        rw [eo] at hf
        cases hf
        exact fin (v := .non) (d := .non) (bs := []) k' (st'.imp fun b z => z.elim id fun y => absurd y (by simp)) fx' (by rw [e2]; exact own_s rfl) List.nodup_nil (fun b z => absurd z (by simp)) eo rfl rfl
    · rename_i d ρ' e
      refine q _ _ S0 H g k0 _ _ e _ fun v σ' S' H' g' bs k' st' fx' ow' nd' hb' => ?_
      cases eo : outs ws ds ρ' with
      | none =>
        rw [eo] at hf
        cases hf
      | some os =>
        rw [eo] at hf
        cases hf
        exact fin k' st' fx' ow' nd' hb' eo rfl rfl
    · rename_i c xx ρ' e
      refine q _ _ S0 H g k0 _ _ e _ fun dd σ' S' H' g' k' st' fx' er => ?_
      cases eo : outs ws ds ρ' with
      | none =>
        rw [eo] at hf
        cases hf
      | some os =>
        rw [eo] at hf
        cases hf
        obtain ⟨as', o1, o2, o3⟩ := Ok.ends hs (fun i u e z => fx_of e z) ow st'.sh k' fx' eo
        exact q2 c xx rfl dd S' H' as' k'.sub ((up st').imp o3) o1 o2 (fun a ha => k'.sepI (o3 a ha)) er
    · cases hf
/-- THE RULE for a def -/
theorem fn_e {x : Str} {st : Stmt} {f : Addr} {N ps : List Str} {k : Nat} {ws ls : List Sh} {wr : Sh} {den : SM} (hm : mg x = some (.ref f)) (F : ∃ fd, FunD K x x (defArgs st) (defBody st) (defScope st) [] [] f fd) (S : FnScope N ps (defScope st)) (hw : ws.length = ps.length)
    (hb : ∀ (kV doc pm : Value) (an : Option Addr) (cdv ct : Value) (us : List Value), us.length = ps.length → bindArgs (PySem.W.fnOf x x (defArgs st) (defBody st) (defScope st) .none kV doc pm an cdv ct) ⟨us, []⟩ = pure (ps.zip us))
    (body : ∀ (cdv : Value) (A : Around) (outer : List Env) (s : Shared) (H : Hp) (E : XK), GOk (gx P w K mg base N x (defScope st) f cdv A outer s H E ws ls wr) k → CB (gx P w K mg base N x (defScope st) f cdv A outer s H E ws ls wr) (defBody st) den)
    (hwr : wr = .s ∨ ∀ ρ ρ', den ρ ≠ some (.nx, ρ')) : FnE P w K mg base (k + 1) x ps (spF K ws wr (runF N.length ws den)) := by
  obtain ⟨fd, F⟩ := F
  exact ⟨f, fd, hm, F.kp, F.bindsN hb, fn_ok F S hw body hwr⟩
end
end Cl
namespace Cl
open PySem PySem.Spec PyProof.Rows L2
/-! ### a call of a def: shared arguments, own slots -/
def ArgR (K : PySem.W.Frag) (σ : St) (S : Hp) : List (Option Nat) → List V → List D → Prop
  | [], vs, ds => vs = [] ∧ ds = []
  | none :: ks, vs, ds => ∃ v vs' d ds', vs = v :: vs' ∧ ds = d :: ds' ∧ Rep K S v d ∧ ArgR K σ S ks vs' ds'
  | some i :: ks, vs, ds => ∃ v vs' d ds', vs = v :: vs' ∧ ds = d :: ds' ∧ σ[i]? = some (some v) ∧ ArgR K σ S ks vs' ds'
theorem ArgR.mono {K : PySem.W.Frag} {σ : St} {S S' : Hp} (e : Same S S') : ∀ {ks : List (Option Nat)} {vs : List V} {ds : List D}, ArgR K σ S ks vs ds → ArgR K σ S' ks vs ds
  | [], vs, ds, h => h
  | none :: ks, vs, ds, h => by
    obtain ⟨v, vs', d, ds', h1, h2, h3, h4⟩ := h
    exact ⟨v, vs', d, ds', h1, h2, h3.mono e, h4.mono e⟩
  | some i :: ks, vs, ds, h => by
    obtain ⟨v, vs', d, ds', h1, h2, h3, h4⟩ := h
    exact ⟨v, vs', d, ds', h1, h2, h3, h4.mono e⟩
theorem ArgR.len {K : PySem.W.Frag} {σ : St} {S : Hp} : ∀ {ks : List (Option Nat)} {vs : List V} {ds : List D}, ArgR K σ S ks vs ds → vs.length = ks.length ∧ ds.length = ks.length
  | [], vs, ds, h => by
    obtain ⟨rfl, rfl⟩ := h
    exact ⟨rfl, rfl⟩
  | none :: ks, vs, ds, h => by
    obtain ⟨v, vs', d, ds', rfl, rfl, _, h4⟩ := h
    have := h4.len
    exact ⟨by simp [this.1], by simp [this.2]⟩
  | some i :: ks, vs, ds, h => by
    obtain ⟨v, vs', d, ds', rfl, rfl, _, h4⟩ := h
    have := h4.len
    exact ⟨by simp [this.1], by simp [this.2]⟩
theorem ArgR.own {K : PySem.W.Frag} {σ : St} {S : Hp} : ∀ {ks : List (Option Nat)} {vs : List V} {ds : List D} {j i : Nat}, ArgR K σ S ks vs ds → ks[j]? = some (some i) → ∃ v, vs[j]? = some v ∧ σ[i]? = some (some v)
  | [], vs, ds, j, i, h, e => by simp at e
  | none :: ks, vs, ds, j, i, h, e => by
    obtain ⟨v, vs', d, ds', rfl, rfl, _, h4⟩ := h
    cases j with
    | zero => simp at e
    | succ j =>
      obtain ⟨u, h5, h6⟩ := h4.own (j := j) (i := i) (by simpa using e)
      exact ⟨u, by simpa using h5, h6⟩
  | some i' :: ks, vs, ds, j, i, h, e => by
    obtain ⟨v, vs', d, ds', rfl, rfl, h3, h4⟩ := h
    cases j with
    | zero =>
      simp at e
      subst e
      exact ⟨v, rfl, h3⟩
    | succ j =>
      obtain ⟨u, h5, h6⟩ := h4.own (j := j) (i := i) (by simpa using e)
      exact ⟨u, by simpa using h5, h6⟩
theorem ArgR.shared {K : PySem.W.Frag} {σ : St} {S : Hp} : ∀ {ks : List (Option Nat)} {vs : List V} {ds : List D} {j : Nat}, ArgR K σ S ks vs ds → ks[j]? = some none → ∃ v d, vs[j]? = some v ∧ ds[j]? = some d ∧ Rep K S v d
  | [], vs, ds, j, h, e => by simp at e
  | none :: ks, vs, ds, j, h, e => by
    obtain ⟨v, vs', d, ds', rfl, rfl, h3, h4⟩ := h
    cases j with
    | zero => exact ⟨v, d, rfl, rfl, h3⟩
    | succ j =>
      obtain ⟨u, c, h5, h6, h7⟩ := h4.shared (j := j) (by simpa using e)
      exact ⟨u, c, by simpa using h5, by simpa using h6, h7⟩
  | some i' :: ks, vs, ds, j, h, e => by
    obtain ⟨v, vs', d, ds', rfl, rfl, h3, h4⟩ := h
    cases j with
    | zero => simp at e
    | succ j =>
      obtain ⟨u, c, h5, h6, h7⟩ := h4.shared (j := j) (by simpa using e)
      exact ⟨u, c, by simpa using h5, by simpa using h6, h7⟩
def fillA (ρ : Rho) : List (Option Nat) → List D → Option (List D)
  | [], [] => some []
  | none :: ks, d :: ds => (fillA ρ ks ds).map (d :: ·)
  | some i :: ks, _ :: ds => match ρ[i]? with
    | some (some d') => (fillA ρ ks ds).map (d' :: ·)
    | _ => none
  | _, _ => none
def setA (ρ : Rho) : List (Option Nat) → List D → Rho
  | none :: ks, _ :: ds => setA ρ ks ds
  | some i :: ks, d :: ds => (setA ρ ks ds).set i (some d)
  | _, _ => ρ
def posA (i : Nat) : List (Option Nat) → Option Nat
  | [] => none
  | o :: ks => if o = some i then some 0 else (posA i ks).map (· + 1)
theorem posA_get {i : Nat} : ∀ {ks : List (Option Nat)} {j : Nat}, posA i ks = some j → ks[j]? = some (some i)
  | [], j, h => by cases h
  | o :: ks, j, h => by
    unfold posA at h
    split at h
    · rename_i e
      cases h
      rw [e]
      rfl
    · cases q : posA i ks with
      | none =>
        rw [q] at h
        cases h
      | some j' =>
        rw [q] at h
        cases h
        have := posA_get q
        simpa using this
theorem posA_none {i : Nat} : ∀ {ks : List (Option Nat)}, posA i ks = none → some i ∉ ks
  | [], _ => by simp
  | o :: ks, h => by
    unfold posA at h
    split at h
    · cases h
    · rename_i e
      cases q : posA i ks with
      | some j' =>
        rw [q] at h
        cases h
      | none =>
        have := posA_none q
        simp only [List.mem_cons, not_or]
        exact ⟨fun z => e z.symm, this⟩
theorem setA_len {ρ : Rho} : ∀ {ks : List (Option Nat)} {ds : List D}, (setA ρ ks ds).length = ρ.length
  | [], ds => by cases ds <;> rfl
  | none :: ks, [] => rfl
  | some i :: ks, [] => rfl
  | none :: ks, d :: ds => setA_len (ks := ks) (ds := ds)
  | some i :: ks, d :: ds => by
    show ((setA ρ ks ds).set i (some d)).length = _
    rw [List.length_set]
    exact setA_len (ks := ks) (ds := ds)
theorem setA_out {ρ : Rho} {i : Nat} : ∀ {ks : List (Option Nat)} {ds : List D}, posA i ks = none → (setA ρ ks ds)[i]? = ρ[i]?
  | [], ds, _ => by cases ds <;> rfl
  | none :: ks, [], _ => rfl
  | some i' :: ks, [], _ => rfl
  | none :: ks, d :: ds, h => by
    refine setA_out (ks := ks) (ds := ds) ?_
    unfold posA at h
    rw [if_neg (by simp)] at h
    cases q : posA i ks with
    | none => rfl
    | some j =>
      rw [q] at h
      cases h
  | some i' :: ks, d :: ds, h => by
    unfold posA at h
    split at h
    · cases h
    · rename_i e
      show ((setA ρ ks ds).set i' (some d))[i]? = _
      rw [List.getElem?_set_ne fun z => e (by rw [z])]
      refine setA_out (ks := ks) (ds := ds) ?_
      cases q : posA i ks with
      | none => rfl
      | some j =>
        rw [q] at h
        cases h
theorem setA_in {ρ : Rho} {i : Nat} : ∀ {ks : List (Option Nat)} {ds : List D} {j : Nat}, posA i ks = some j → ds.length = ks.length → i < ρ.length → ∃ d, ds[j]? = some d ∧ (setA ρ ks ds)[i]? = some (some d)
  | [], ds, j, h, _, _ => by cases h
  | o :: ks, [], j, h, hl, _ => by simp at hl
  | none :: ks, d :: ds, j, h, hl, hi => by
    unfold posA at h
    rw [if_neg (by simp)] at h
    cases q : posA i ks with
    | none =>
      rw [q] at h
      cases h
    | some j' =>
      rw [q] at h
      cases h
      obtain ⟨c, h1, h2⟩ := setA_in (ρ := ρ) (ds := ds) q (by simpa using hl) hi
      exact ⟨c, by simpa using h1, h2⟩
  | some i' :: ks, d :: ds, j, h, hl, hi => by
    unfold posA at h
    split at h
    · rename_i e
      cases h
      cases e
      refine ⟨d, rfl, ?_⟩
      show ((setA ρ ks ds).set i (some d))[i]? = _
      rw [List.getElem?_set_self (by rw [setA_len]; exact hi)]
    · rename_i e
      cases q : posA i ks with
      | none =>
        rw [q] at h
        cases h
      | some j' =>
        rw [q] at h
        cases h
        obtain ⟨c, h1, h2⟩ := setA_in (ρ := ρ) (ds := ds) q (by simpa using hl) hi
        refine ⟨c, by simpa using h1, ?_⟩
        show ((setA ρ ks ds).set i' (some d))[i]? = _
        rw [List.getElem?_set_ne fun z => e (by rw [z])]
        exact h2
theorem fillA_get {ρ : Rho} : ∀ {ks : List (Option Nat)} {ds es : List D}, fillA ρ ks ds = some es → es.length = ks.length ∧ (∀ (j i : Nat), ks[j]? = some (some i) → ∃ d, ρ[i]? = some (some d) ∧ es[j]? = some d) ∧ ∀ (j : Nat), ks[j]? = some none → es[j]? = ds[j]?
  | [], [], es, h => by
    cases h
    exact ⟨rfl, fun j i e => by simp at e, fun j e => by simp at e⟩
  | [], d :: ds, es, h => by cases h
  | none :: ks, [], es, h => by cases h
  | some i :: ks, [], es, h => by cases h
  | none :: ks, d :: ds, es, h => by
    unfold fillA at h
    cases q : fillA ρ ks ds with
    | none =>
      rw [q] at h
      cases h
    | some zs =>
      rw [q] at h
      cases h
      obtain ⟨h1, h2, h3⟩ := fillA_get q
      refine ⟨by simp [h1], fun j i e => ?_, fun j e => ?_⟩
      · cases j with
        | zero => simp at e
        | succ j =>
          obtain ⟨d', q1, q2⟩ := h2 j i (by simpa using e)
          exact ⟨d', q1, by simpa using q2⟩
      · cases j with
        | zero => rfl
        | succ j =>
          have := h3 j (by simpa using e)
          simpa using this
  | some i0 :: ks, d :: ds, es, h => by
    unfold fillA at h
    split at h
    · rename_i d1 e1
      cases q : fillA ρ ks ds with
      | none =>
        rw [q] at h
        cases h
      | some zs =>
        rw [q] at h
        cases h
        obtain ⟨h1, h2, h3⟩ := fillA_get q
        refine ⟨by simp [h1], fun j i e => ?_, fun j e => ?_⟩
        · cases j with
          | zero =>
            simp at e
            subst e
            exact ⟨d1, e1, rfl⟩
          | succ j =>
            obtain ⟨d', q1, q2⟩ := h2 j i (by simpa using e)
            exact ⟨d', q1, by simpa using q2⟩
        · cases j with
          | zero => simp at e
          | succ j =>
            have := h3 j (by simpa using e)
            simpa using this
    · cases h
namespace EM
def call (f : FD) (ks : List (Option Nat)) (da : EM (List D)) : EM D := bind da fun ds ρ => match fillA ρ ks ds with
  | none => none
  | some ds1 => match f ds1 with
    | none => none
    | some (r, ds2) => some (r, setA ρ ks ds2)
end EM
structure CAo (G : Cc) (es : List Expr) (ks : List (Option Nat)) (den : EM (List D)) : Prop where
  ex : ∃ t, PA G.X es t ∧ RG G t (fun σ S vs ds => ArgR G.X.K σ S ks vs ds) den
section
variable {G : Cc} {a e : Expr} {es : List Expr} {da : EM D} {dl : EM (List D)} {ks : List (Option Nat)} {pos : Pos}
theorem cao_nil : CAo G [] [] (EM.ret []) := ⟨_, pa_nil, fun σ ρ S H g k r ρ' hd Q q px => by
  cases hd
  exact q [] rfl [] S H g k .refl ⟨rfl, rfl⟩⟩
theorem cao_cons (h : CE G a da) (h' : CAo G es ks dl) (hs : starEach (a :: es) G.X.env = (false, eval a G.X.env) :: starEach es G.X.env := by rfl) : CAo G (a :: es) (none :: ks) (EM.cons da dl) := by
  obtain ⟨t, p, q⟩ := h.ex
  obtain ⟨t', p', q'⟩ := h'.ex
  refine ⟨_, pa_cons p p' hs, fun σ ρ S H g k rr ρ' hd Q qq px => ?_⟩
  refine q.use k hd px fun d ρ1 h1 x S1 H1 g1 k1 st1 rx px1 => ?_
  refine q'.use k1 h1 px1 fun e ρ2 h2 y S2 H2 g2 k2 st2 ry px2 => ?_
  cases h2
  exact qq _ rfl (x :: y) S2 H2 g2 k2 (st1.trans st2) ⟨x, y, d, e, rfl, rfl, rx.mono st2.sh, ry⟩
/-- an own slot is lent -/
theorem cao_own (i : Nat) {x : Str} {p : Pos} (h' : CAo G es ks dl) (hN : G.X.N[i]? = some x := by rfl) (hv : Vis G.X.env.scope x := by first | exact Or.inl rfl | exact Or.inr (Or.inl rfl) | exact Or.inr (Or.inr rfl)) (hd : (x == ("__debug__" : Str)) = false := by decide)
    (hcd : (x == ("__classdict__" : Str)) = false := by decide) (hs : starEach (Expr.Name x p :: es) G.X.env = (false, eval (Expr.Name x p) G.X.env) :: starEach es G.X.env := by rfl) : CAo G (.Name x p :: es) (some i :: ks) (EM.cons (EM.get i) dl) := by
  obtain ⟨t', p', q'⟩ := h'.ex
  refine ⟨_, pa_cons (pe_var hN hv hd hcd) p' hs, fun σ ρ S H g k rr ρ' hd Q qq px => ?_⟩
  rcases bind_cases hd with ⟨d, ρ1, e1, e2⟩ | ⟨c, xx, e1, _⟩
  · unfold EM.get at e1
    split at e1
    · rename_i d' e3
      cases e1
      obtain ⟨v, h1, h2⟩ := k.slot i d e3
      refine ⟨v, h1, ?_⟩
      refine q'.use k e2 px fun ds ρ2 h3 y S2 H2 g2 k2 st2 ry px2 => ?_
      cases h3
      exact qq _ rfl (v :: y) S2 H2 g2 k2 st2 ⟨v, y, d, ds, rfl, rfl, h1, ry⟩
    · cases e1
  · unfold EM.get at e1
    split at e1 <;> cases e1
def shA (G : Cc) : Option Nat → Sh
  | none => .s
  | some i => G.sh i
theorem co_call {k : Nat} {x : Str} {ps : List Str} {ws : List Sh} {wr : Sh} {f : FD} {p : Pos} (gk : GOk G k) (F : FnE G.X.prog G.X.w G.X.K G.X.mg G.X.base k x ps (spF G.X.K ws wr f)) (ha : CAo G (e :: es) ks dl) (hks : ks.map (shA G) = ws := by rfl) (hnd : (ks.filterMap id).Nodup := by decide) (hg : Gl G.X x := by rfl)
    (hdb : (x == ("__debug__" : Str)) = false := by decide) (he : starEach (e :: es) G.X.env = (false, eval e G.X.env) :: starEach es G.X.env := by rfl) (hpl : (backTo pos (starEach es G.X.env)).any (·.1) = false := by rfl) :
    CO G wr (.Call (.Name x p) (e :: es) [] pos) (EM.call f ks dl) := by
  obtain ⟨t, pa, q⟩ := ha.ex
  obtain ⟨fa, fd, hm, hk, hb, FO⟩ := F.ex
  refine ⟨_, pe_callS FO gk.room hg hm hk hb (fun σ => passAt gk.tk σ) pa hdb he hpl, fun σ ρ S H g kk r ρ' hd Q qq px => ?_⟩
  refine q.use kk hd px fun ds ρ1 h1 vs S1 H1 g1 k1 st1 ra px1 => ?_
  cases e1 : fillA ρ1 ks ds with
  | none =>
    rw [e1] at h1
    cases h1
  | some ds1 =>
  rw [e1] at h1
  dsimp only at h1
  cases e2 : f ds1 with
  | none =>
    rw [e2] at h1
    cases h1
  | some rr =>
  obtain ⟨r', ds2⟩ := rr
  rw [e2] at h1
  cases h1
  obtain ⟨f1, f2, f3⟩ := fillA_get e1
  obtain ⟨l1, l2⟩ := ra.len
  -- the regions lent
  let qs : List (List Addr) := ks.map fun o => match o with
    | none => []
    | some i => g1 i
  have hq : ∀ j : Nat, qs.getD j [] = match ks[j]? with
    | some (some i) => g1 i
    | _ => [] := fun j => by
    show (ks.map _).getD j [] = _
    rw [List.getD_eq_getElem?_getD, List.getElem?_map]
    cases ks[j]? with
    | none => rfl
    | some o => cases o <;> rfl
  have inj : ∀ (j l i : Nat), ks[j]? = some (some i) → ks[l]? = some (some i) → j = l := fun j l i a b => by
    rcases Nat.lt_trichotomy j l with z | z | z
    · exfalso
      have h1 := List.pairwise_filterMap.mp hnd
      obtain ⟨hj, ej⟩ := List.getElem?_eq_some_iff.mp a
      obtain ⟨hl, el⟩ := List.getElem?_eq_some_iff.mp b
      exact List.pairwise_iff_getElem.mp h1 j l hj hl z i (by rw [ej]; rfl) i (by rw [el]; rfl) rfl
    · exact z
    · exfalso
      have h1 := List.pairwise_filterMap.mp hnd
      obtain ⟨hj, ej⟩ := List.getElem?_eq_some_iff.mp a
      obtain ⟨hl, el⟩ := List.getElem?_eq_some_iff.mp b
      exact List.pairwise_iff_getElem.mp h1 l j hl hj z i (by rw [el]; rfl) i (by rw [ej]; rfl) rfl
  have qnd : qs.flatten.Nodup := nodup_pieces (fun j => by
      rw [hq j]
      split
      · exact k1.nd _
      · exact List.nodup_nil) fun j l hjl a ha hb => by
      rw [hq j] at ha
      rw [hq l] at hb
      split at ha
      · rename_i i1 ej
        split at hb
        · rename_i i2 el
          by_cases z : i1 = i2
          · subst z
            exact hjl (inj j l i1 ej el)
          · exact k1.dj i1 i2 z a ha hb
        · exact absurd hb (by simp)
      · exact absurd ha (by simp)
  have qin : ∀ a ∈ qs.flatten, ∃ j i, ks[j]? = some (some i) ∧ a ∈ g1 i := fun a ha => by
    obtain ⟨z, hz, haz⟩ := List.mem_flatten.mp ha
    obtain ⟨j, hj, ej⟩ := List.mem_iff_getElem.mp hz
    have h2 : a ∈ qs.getD j [] := by
      rw [List.getD_eq_getElem?_getD, List.getElem?_eq_getElem hj, ej]
      exact haz
    rw [hq j] at h2
    split at h2
    · rename_i i ei
      exact ⟨j, i, ei, h2⟩
    · exact absurd h2 (by simp)
  have qI : ∀ a ∈ qs.flatten, In g1 a := fun a ha => let ⟨_, i, _, h⟩ := qin a ha; ⟨i, h⟩
  have lw : ws.length = ks.length := by rw [← hks, List.length_map]
  have ow1 : Owns G.X.K S1 H1 ws vs ds1 qs.flatten := Owns.of (by show (ks.map _).length = _; rw [List.length_map, lw]) (by rw [l1, lw]) (by rw [f1, lw]) fun j u v d q1 q2 q3 => by
    rw [hq j]
    have hu : u = shA G (ks[j]'(by have := (List.getElem?_eq_some_iff.mp q1).1; omega)) := by
      have hj : j < ks.length := by
        have := (List.getElem?_eq_some_iff.mp q1).1
        omega
      rw [← hks, List.getElem?_map, List.getElem?_eq_getElem hj] at q1
      exact (Option.some.inj q1).symm
    have hj : j < ks.length := by
      have := (List.getElem?_eq_some_iff.mp q1).1
      omega
    have ej : ks[j]? = some ks[j] := List.getElem?_eq_getElem hj
    cases o : ks[j] with
    | none =>
      rw [o] at hu ej
      obtain ⟨v', d', z1, z2, z3⟩ := ra.shared ej
      rw [q2] at z1
      cases z1
      rw [f3 j ej, z2] at q3
      cases q3
      rw [ej, hu]
      exact own_s z3
    | some i =>
      rw [o] at hu ej
      obtain ⟨v', z1, z2⟩ := ra.own ej
      rw [q2] at z1
      cases z1
      obtain ⟨d', z3, z4⟩ := f2 j i ej
      rw [q3] at z4
      cases z4
      obtain ⟨v2, z5, z6⟩ := k1.slot i d z3
      rw [z2] at z5
      cases z5
      rw [ej, hu]
      exact z6
  -- behind the call
  have back : ∀ {S' H' : Hp} {as' bs : List Addr}, Same S' H' → Stp S1 H1 (fun a => a ∈ qs.flatten) S' H' (fun a => a ∈ as' ∨ a ∈ bs) → Owns G.X.K S' H' ws vs ds2 as' → as'.Nodup → (∀ a ∈ as', S' a = none) →
      ∃ g2, Ok G σ (setA ρ1 ks ds2) S' H' g2 ∧ Stp S1 H1 (In g1) S' H' (fun a => In g2 a ∨ a ∈ bs) ∧ ∀ a, In g2 a → a ∈ as' ∨ ∃ i, a ∈ g1 i ∧ a ∉ qs.flatten := by
    intro S' H' as' bs sb st ow nd sp
    obtain ⟨pp, p1, p2, p3, rfl, p4⟩ := ow.pieces
    let g2 : Nat → List Addr := fun i => match posA i ks with
      | some j => pp.getD j []
      | none => g1 i
    have gin : ∀ {i j : Nat}, posA i ks = some j → g2 i = pp.getD j [] := fun {i j} e => by
      show (match posA i ks with
        | some j => pp.getD j []
        | none => g1 i) = _
      rw [e]
    have gout : ∀ {i : Nat}, posA i ks = none → g2 i = g1 i := fun {i} e => by
      show (match posA i ks with
        | some j => pp.getD j []
        | none => g1 i) = _
      rw [e]
    have notq : ∀ {i : Nat}, posA i ks = none → ∀ a ∈ g1 i, a ∉ qs.flatten := fun {i} e a ha hb => by
      obtain ⟨j, i', e1, h2⟩ := qin a hb
      by_cases z : i = i'
      · subst z
        exact posA_none e (List.mem_of_getElem? e1)
      · exact k1.dj i i' z a ha h2
    have l2' : ds2.length = ks.length := by rw [p3, lw]
    refine ⟨g2, ⟨k1.len, by rw [setA_len]; exact k1.rlen, sb, fun i d e => ?_, fun i hi => ?_, fun i => ?_, fun i j hij a ha hb => ?_, fun i a ha => ?_⟩, ⟨st.sh, fun b o e n => st.fr b o e fun z => n (qI b z), fun b o e => (st.sf b o e).elim .inl fun z => z.elim (fun y => .inr (.inl y)) fun y => .inr (.inr (qI b y)), fun b hb => ?_, st.dom⟩, fun a ⟨i, hi⟩ => ?_⟩
    · cases o : posA i ks with
      | none =>
        rw [setA_out o] at e
        obtain ⟨v, h1, h2⟩ := k1.slot i d e
        rw [gout o]
        exact ⟨v, h1, h2.mono st.sh fun a ha o' q' => st.fr a o' q' (notq o a ha)⟩
      | some j =>
        have ej := posA_get o
        obtain ⟨v, z1, z2⟩ := ra.own ej
        obtain ⟨d0, z3, _⟩ := f2 j i ej
        obtain ⟨d', z4, z5⟩ := setA_in (ρ := ρ1) o l2' (List.getElem?_eq_some_iff.mp z3).1
        rw [e] at z5
        cases z5
        rw [gin o]
        refine ⟨v, z2, p4 j (G.sh i) v d ?_ z1 z4⟩
        rw [← hks, List.getElem?_map, ej]
        rfl
    · cases o : posA i ks with
      | none =>
        rw [gout o]
        refine k1.emp i fun d e => hi d ?_
        rw [setA_out o]
        exact e
      | some j =>
        obtain ⟨d0, z3, _⟩ := f2 j i (posA_get o)
        obtain ⟨d', z4, z5⟩ := setA_in (ρ := ρ1) o l2' (List.getElem?_eq_some_iff.mp z3).1
        exact absurd z5 (hi d')
    · cases o : posA i ks with
      | none =>
        rw [gout o]
        exact k1.nd i
      | some j =>
        rw [gin o]
        exact pieces_nd nd j
    · cases o : posA i ks with
      | none =>
        rw [gout o] at ha
        cases o' : posA j ks with
        | none =>
          rw [gout o'] at hb
          exact k1.dj i j hij a ha hb
        | some l =>
          rw [gin o'] at hb
          rcases st.af a (.inl (getD_flatten hb)) with z | z
          · exact notq o a ha z
          · obtain ⟨u, hu⟩ := k1.live ⟨i, ha⟩
            rw [z] at hu
            cases hu
      | some l =>
        rw [gin o] at ha
        cases o' : posA j ks with
        | none =>
          rw [gout o'] at hb
          rcases st.af a (.inl (getD_flatten ha)) with z | z
          · exact notq o' a hb z
          · obtain ⟨u, hu⟩ := k1.live ⟨j, hb⟩
            rw [z] at hu
            cases hu
        | some m =>
          rw [gin o'] at hb
          refine pieces_dj nd (fun z => ?_) ha hb
          subst z
          have := (posA_get o).symm.trans (posA_get o')
          cases this
          exact hij rfl
    · cases o : posA i ks with
      | none =>
        rw [gout o] at ha
        cases e : S' a with
        | none => rfl
        | some u =>
          rcases st.sf a u e with z | z | z
          · rw [k1.sep i a ha] at z
            cases z
          · obtain ⟨u', hu⟩ := k1.live ⟨i, ha⟩
            rw [z] at hu
            cases hu
          · exact absurd z (notq o a ha)
      | some l =>
        rw [gin o] at ha
        exact sp a (getD_flatten ha)
    · rcases hb with ⟨i, hi⟩ | hb
      · cases o : posA i ks with
        | none =>
          rw [gout o] at hi
          exact .inl ⟨i, hi⟩
        | some l =>
          rw [gin o] at hi
          exact (st.af b (.inl (getD_flatten hi))).elim (fun z => .inl (qI b z)) .inr
      · exact (st.af b (.inr hb)).elim (fun z => .inl (qI b z)) .inr
    · cases o : posA i ks with
      | none =>
        rw [gout o] at hi
        exact .inr ⟨i, hi, notq o a hi⟩
      | some l =>
        rw [gin o] at hi
        exact .inl (getD_flatten hi)
  refine ⟨S1, qs.flatten, ds1, r, ds2, k1.sub, ow1, qnd, fun a ha => k1.sepI (qI a ha), e2, fun d hr v S' H' as' bs sb st ow orr nd sp => ?_, fun c xx hr dd S' H' as' sb st ow nd sp er => ?_⟩
  · obtain ⟨n1, n2, n3⟩ := List.nodup_append.mp nd
    obtain ⟨g2, k2, st2, gi⟩ := back sb st ow n1 fun a ha => sp a (List.mem_append_left _ ha)
    refine qq d hr v S' H' g2 bs k2 ?_ orr n2 fun b hb => ⟨sp b (List.mem_append_right _ hb), fun hi => ?_⟩
    · exact st1.trans st2
    · rcases gi b hi with z | ⟨i, z1, z2⟩
      · exact n3 b z b hb rfl
      · rcases st.af b (.inr hb) with y | y
        · exact z2 y
        · obtain ⟨u', hu⟩ := k1.live ⟨i, z1⟩
          rw [y] at hu
          cases hu
  · obtain ⟨g2, k2, st2, gi⟩ := back (bs := []) sb (st.imp fun b z => z.elim id fun y => absurd y (by simp)) ow nd sp
    exact px1 c xx hr dd S' H' g2 k2 (st2.imp fun b z => .inl z) er
end
end Cl
namespace Cl
open PySem PySem.Spec PyProof.Rows L2
/-! ### targets -/
abbrev TD := D → Rho → Option Rho
abbrev TDs := List D → Rho → Option Rho
def Out (vs : List Nat) (σ σ' : St) : Prop := σ'.length = σ.length ∧ ∀ j, j ∉ vs → σ'[j]? = σ[j]?
theorem Out.refl {vs : List Nat} {σ : St} : Out vs σ σ := ⟨rfl, fun _ _ => rfl⟩
theorem Out.trans {vs us : List Nat} {σ σ' σ'' : St} (a : Out vs σ σ') (b : Out us σ' σ'') : Out (vs ++ us) σ σ'' :=
  ⟨b.1.trans a.1, fun j h => (b.2 j fun z => h (List.mem_append_right _ z)).trans (a.2 j fun z => h (List.mem_append_left _ z))⟩
def PTg (G : Cc) (vs : List Nat) (σ : St) (S H : Hp) (g : Nat → List Addr) (ρ' : Rho) (Q : St → Hp → Prop) : Prop :=
  ∀ σ' S' H' g', Ok G σ' ρ' S' H' g' → Stp S H (In g) S' H' (In g') → Out vs σ σ' → Q σ' H'
structure CTg (G : Cc) (tg : Expr) (vs : List Nat) (den : TD) : Prop where
  ex : ∃ t : TG, PG G.X tg t ∧ ∀ σ ρ S H g, Ok G σ ρ S H g → ∀ v d, Rep G.X.K S v d → ∀ ρ', den d ρ = some ρ' → ∀ Q, PTg G vs σ S H g ρ' Q → t v σ H Q
structure CTgs (G : Cc) (ts : List Expr) (vs : List Nat) (den : TDs) : Prop where
  ex : ∃ t : TGs, PGs G.X ts t ∧ ∀ σ ρ S H g, Ok G σ ρ S H g → ∀ xs ds, Reps G.X.K S xs ds → ∀ ρ', den ds ρ = some ρ' → ∀ Q, PTg G vs σ S H g ρ' Q → t xs σ H Q
def tgN (i : Nat) : TD := fun d ρ => some (ρ.set i (some d))
def tgNil : TDs := fun ds ρ => match ds with
  | [] => some ρ
  | _ => none
def tgCons (a : TD) (b : TDs) : TDs := fun ds ρ => match ds with
  | d :: ds => (a d ρ).bind fun ρ1 => b ds ρ1
  | [] => none
def tgT (b : TDs) : TD := fun d ρ => match d with
  | .tup ds => b ds ρ
  | .lst ds => b ds ρ
  | .ktup ds => b ds ρ
  | _ => none
section
variable {G : Cc} {pos : Pos} {e : Expr} {es : List Expr}
theorem ctg_name (i : Nat) {x : Str} (nd : G.X.N.Nodup) (hi : G.X.N[i]? = some x := by rfl) (hs : G.sh i = .s := by rfl) (hx : Loc G.X.env.scope x := by first | exact Or.inl rfl | exact Or.inr rfl)
    (hf : G.X.fn x = true ∨ G.X.env.scope.names.lookup x = some .local := by first | exact .inl rfl | exact .inr rfl | assumption) : CTg G (.Name x pos) [i] (tgN i) := by
  refine ⟨_, pg_name nd hi hx hf, fun σ ρ S H g k v d rv ρ' hd Q q => ?_⟩
  cases hd
  have hg : g i = [] := by
    cases e : ρ[i]? with
    | none => exact k.emp i fun d q => by rw [e] at q; cases q
    | some o => cases o with
      | none => exact k.emp i fun d q => by rw [e] at q; cases q
      | some d' =>
        obtain ⟨u, _, h2⟩ := k.slot i d' e
        rw [show G.Om.getD i .s = .s from hs] at h2
        exact h2.ss.1
  refine q _ S H _ (k.put (bs := []) (List.getElem?_eq_some_iff.mp hi).1 (by rw [hs]; exact own_s rv) List.nodup_nil fun b hb => absurd hb (by simp)) (Stp.refl.imp fun b ⟨j, hj⟩ => ?_) ⟨List.length_set .., fun j hj => List.getElem?_set_ne fun z => hj (by rw [z]; simp)⟩
  have hj : b ∈ (if j = i then [] else g j) := hj
  by_cases hji : j = i
  · rw [if_pos hji] at hj
    exact absurd hj (by simp)
  · rw [if_neg hji] at hj
    exact ⟨j, hj⟩
theorem ctgs_nil : CTgs G [] [] tgNil := by
  refine ⟨_, pgs_nil, fun σ ρ S H g k xs ds rv ρ' hd Q q => ?_⟩
  unfold tgNil at hd
  split at hd
  · cases hd
    exact ⟨rv, q σ S H g k .refl .refl⟩
  · cases hd
theorem ctgs_cons {vs us : List Nat} {a : TD} {b : TDs} (h : CTg G e vs a) (h' : CTgs G es us b) (hs : (assignEach (e :: es) G.X.env).map (·.2) = assign e G.X.env :: (assignEach es G.X.env).map (·.2) := by rfl) : CTgs G (e :: es) (vs ++ us) (tgCons a b) := by
  obtain ⟨t, p, q⟩ := h.ex
  obtain ⟨t', p', q'⟩ := h'.ex
  refine ⟨_, pgs_cons p p' hs, fun σ ρ S H g k xs ds rv ρ' hd Q qq => ?_⟩
  unfold tgCons at hd
  split at hd
  · rename_i d ds
    obtain ⟨y, ys, rfl, r1, r2⟩ := rv
    cases e1 : a d ρ with
    | none =>
      rw [e1] at hd
      cases hd
    | some ρ1 =>
      rw [e1] at hd
      refine ⟨y, ys, rfl, q σ ρ S H g k y d r1 ρ1 e1 _ fun σ1 S1 H1 g1 k1 st1 o1 => ?_⟩
      exact q' σ1 ρ1 S1 H1 g1 k1 ys ds (r2.mono st1.sh) ρ' hd Q fun σ2 S2 H2 g2 k2 st2 o2 => qq σ2 S2 H2 g2 k2 (st1.trans st2) (o1.trans o2)
  · cases hd
theorem pg_or {t t' : TG} {X : Cx} {tg : Expr} (h : PG X tg t) (h' : PG X tg t') : PG X tg (fun v σ H Q => t v σ H Q ∨ t' v σ H Q) :=
  ⟨fun pins s σ H v u Q I r q => q.elim (fun z => h.run pins s σ H v u Q I r z) fun z => h'.run pins s σ H v u Q I r z⟩
theorem ctg_tup {vs : List Nat} {b : TDs} {n : Nat} {k0 : Nat} (hc : G.X.calm = true) (h : CTgs G es vs b) (hn : (assignEach es G.X.env).length = n := by rfl) (hst : (assignEach es G.X.env).findIdx? (·.1) = none := by rfl)
    (hl : ∀ ds ρ ρ', b ds ρ = some ρ' → ds.length = n) : CTg G (.Tuple es k0 pos) vs (tgT b) := by
  obtain ⟨t, p, q⟩ := h.ex
  refine ⟨_, pg_or (pg_tup hc p hn hst) (pg_lst hc p hn hst), fun σ ρ S H g k v d rv ρ' hd Q qq => ?_⟩
  unfold tgT at hd
  split at hd
  · rename_i ds
    obtain ⟨a, xs, rfl, h1, h2⟩ := rv
    exact .inl ⟨a, xs, rfl, SqT.sm k.sub h1, by rw [h2.len]; exact hl _ _ _ hd, q σ ρ S H g k xs ds h2 ρ' hd Q qq⟩
  · rename_i ds
    obtain ⟨a, xs, rfl, h1, h2⟩ := rv
    exact .inr ⟨a, xs, rfl, .of (k.sub _ _ h1), by rw [h2.len]; exact hl _ _ _ hd, q σ ρ S H g k xs ds h2 ρ' hd Q qq⟩
  · rename_i ds
    obtain ⟨a, xs, rfl, h1, h2⟩ := rv
    exact .inl ⟨a, xs, rfl, same_seqT k.sub h1.seq, by rw [h2.len]; exact hl _ _ _ hd, q σ ρ S H g k xs ds h2 ρ' hd Q qq⟩
  · cases hd
theorem tgNil_len {ds : List D} {ρ ρ' : Rho} (h : tgNil ds ρ = some ρ') : ds.length = 0 := by
  unfold tgNil at h
  split at h
  · rfl
  · cases h
theorem tgCons_len {a : TD} {b : TDs} {n : Nat} (hb : ∀ ds ρ ρ', b ds ρ = some ρ' → ds.length = n) {ds : List D} {ρ ρ' : Rho} (h : tgCons a b ds ρ = some ρ') : ds.length = n + 1 := by
  unfold tgCons at h
  split at h
  · rename_i d ds
    cases e1 : a d ρ with
    | none =>
      rw [e1] at h
      cases h
    | some ρ1 =>
      rw [e1] at h
      show ds.length + 1 = n + 1
      rw [hb _ _ _ h]
  · cases h
end
/-! ### what is walked -/
def ItOk (K : PySem.W.Frag) (S0 : Hp) (J : It) (ds : List D) : Prop := ∀ S H, Same S0 S → Same S H →
  (∀ i d, ds[i]? = some d → J.go i H ∧ ∀ x H', J.yld i H x H' → ∃ S', Gr S H S' H' ∧ Rep K S' x d) ∧ ∀ i, ds.length ≤ i → J.stop i H
structure CI (G : Cc) (tg iter : Expr) (den : EM (List D)) : Prop where
  ex : ∃ wi : TI, PI G.X tg iter wi ∧ RG G wi (fun _ S J ds => ItOk G.X.K S J ds) den
theorem itok_list {K : PySem.W.Frag} {S : Hp} {a : Addr} {xs : List V} {ds : List D} (h : S a = some (.lst xs)) (r : Reps K S xs ds) : ItOk K S (Itl K a) ds := by
  intro S1 H s1 s2
  have hq : SqL K H a xs := .of (s2 _ _ (s1 _ _ h))
  refine ⟨fun i d e => ?_, fun i hi => ⟨xs, hq, by rw [r.len]; exact hi⟩⟩
  obtain ⟨x, h1, h2⟩ := r.get e
  refine ⟨⟨xs, x, hq, h1⟩, fun y H' ⟨e1, e2⟩ => ?_⟩
  subst e1
  have h3 := e2 xs hq
  rw [h1] at h3
  cases h3
  exact ⟨S1, Gr.refl s2, h2.mono s1⟩
theorem itok_tup {K : PySem.W.Frag} {S : Hp} {a : Addr} {xs : List V} {ds : List D} (h : SqT K S a xs) (r : Reps K S xs ds) : ItOk K S (Itt K a) ds := by
  intro S1 H s1 s2
  have hq : SqT K H a xs := same_seqT s2 (same_seqT s1 h)
  refine ⟨fun i d e => ?_, fun i hi => ⟨xs, hq, by rw [r.len]; exact hi⟩⟩
  obtain ⟨x, h1, h2⟩ := r.get e
  refine ⟨⟨xs, x, hq, h1⟩, fun y H' ⟨e1, e2⟩ => ?_⟩
  subst e1
  have h3 := e2 xs hq
  rw [h1] at h3
  cases h3
  exact ⟨S1, Gr.refl s2, h2.mono s1⟩
theorem itok_range {K : PySem.W.Frag} {S : Hp} {lo : Int} {n : Nat} : ItOk K S (Itr lo n) ((List.range n).map fun (i : Nat) => D.int (lo + (i : Int))) := by
  intro S1 H s1 s2
  refine ⟨fun i d e => ?_, fun i hi => (show n ≤ i by simpa using hi)⟩
  rw [List.getElem?_map] at e
  by_cases hi : i < n
  · rw [List.getElem?_range hi] at e
    cases e
    refine ⟨hi, fun y H' ⟨e1, e2⟩ => ?_⟩
    subst e1 e2
    exact ⟨S1, Gr.refl s2, rfl⟩
  · rw [List.getElem?_eq_none (by simpa using hi)] at e
    cases e
/-- a shared list or tuple -/
def seqD : D → Option (List D)
  | .tup ds => some ds
  | .lst ds => some ds
  | .ktup ds => some ds
  | _ => none
theorem pi_or {X : Cx} {tg iter : Expr} {w w' : TI} (h : PI X tg iter w) (h' : PI X tg iter w') : PI X tg iter (fun σ H R => w σ H R ∨ w' σ H R) :=
  ⟨fun pins s σ H R I q => q.elim (fun z => h.run pins s σ H R I z) fun z => h'.run pins s σ H R I z⟩
section
variable {G : Cc} {tg l a b : Expr} {da db : EM D} {p pos : Pos}
theorem ci_list (h : CE G l da) : CI G tg l (EM.bind da fun d => match d with
    | .lst ds => EM.ret ds
    | _ => EM.lift none) := by
  obtain ⟨t, pe, q⟩ := h.ex
  refine ⟨_, pi_list pe, fun σ ρ S H g k r ρ' hd Q qq px => ?_⟩
  refine q.use k hd px fun d ρ1 h1 x S1 H1 g1 k1 st1 rx px1 => ?_
  split at h1
  · rename_i ds
    cases h1
    obtain ⟨a, xs, rfl, z1, z2⟩ := rx
    exact ⟨a, rfl, ⟨xs, .of (k1.sub _ _ z1)⟩, qq ds rfl _ S1 H1 g1 k1 st1 (itok_list z1 z2)⟩
  · obtain ⟨_, e, _⟩ := lift_cases h1
    cases e
theorem ci_tup (h : CE G l da) : CI G tg l (EM.bind da fun d => match d with
    | .tup ds => EM.ret ds
    | _ => EM.lift none) := by
  obtain ⟨t, pe, q⟩ := h.ex
  refine ⟨_, pi_tup pe, fun σ ρ S H g k r ρ' hd Q qq px => ?_⟩
  refine q.use k hd px fun d ρ1 h1 x S1 H1 g1 k1 st1 rx px1 => ?_
  split at h1
  · rename_i ds
    cases h1
    obtain ⟨a, xs, rfl, z1, z2⟩ := rx
    exact ⟨a, rfl, ⟨xs, SqT.sm k1.sub z1⟩, qq ds rfl _ S1 H1 g1 k1 st1 (itok_tup (.inl (.inl z1)) z2)⟩
  · obtain ⟨_, e, _⟩ := lift_cases h1
    cases e
/-- a list or a tuple, whichever comes -/
theorem ci_seq (h : CE G l da) : CI G tg l (EM.bind da fun d => EM.lift (seqD d)) := by
  obtain ⟨t, pe, q⟩ := h.ex
  refine ⟨fun σ H R => t σ H fun x H1 => (∃ a, x = .ref a ∧ (∃ xs, SqL G.X.K H1 a xs) ∧ R (Itl G.X.K a) H1) ∨ (∃ a, x = .ref a ∧ (∃ xs, SqT G.X.K H1 a xs) ∧ R (Itt G.X.K a) H1), ⟨fun pins s σ H R I h => ?_⟩, fun σ ρ S H g k r ρ' hd Q qq px => ?_⟩
  · refine thn (pe.run pins s σ H _ I h) fun v s1 ⟨x, H1, I1, r1, q1⟩ => ?_
    rcases q1 with ⟨a, e, ⟨xs, hq⟩, q⟩ | ⟨a, e, ⟨xs, hq⟩, q⟩
    · subst e
      cases r1
      obtain ⟨its, rv, p, hz⟩ := I1.list hq
      refine wpAny_pyIter_list p.isList ?_
      refine ⟨s1.heap.objs.size, [s1.heap.objs.size], _, _, H1, rfl, I1.kept (t' := s1.toks) fun b o e => Heap.get?_push_of_some _ e, turn_list a _, ⟨_, Heap.get?_push_size _ rfl, rfl, rfl⟩, fun b hb => ?_, q⟩
      have e : b = s1.heap.objs.size := by simpa using hb
      subst e
      exact I1.fpOk (Nat.le_refl _) (I1.hok.fresh (Nat.le_refl _))
    · subst e
      cases r1
      obtain ⟨its, rv, p, hz⟩ := I1.tuple hq
      refine wpAny_pyIter_tuple (show s1.heap.IsTuple a its.toArray from p) ?_
      refine ⟨s1.heap.objs.size, [s1.heap.objs.size], _, _, H1, rfl, I1.kept (t' := s1.toks) fun b o e => Heap.get?_push_of_some _ e, turn_tuple a _, ⟨_, Heap.get?_push_size _ rfl, rfl, rfl⟩, fun b hb => ?_, q⟩
      have e : b = s1.heap.objs.size := by simpa using hb
      subst e
      exact I1.fpOk (Nat.le_refl _) (I1.hok.fresh (Nat.le_refl _))
  · refine q.use k hd px fun d ρ1 h1 x S1 H1 g1 k1 st1 rx px1 => ?_
    obtain ⟨ds, e, rfl, rfl⟩ := lift_cases h1
    unfold seqD at e
    split at e
    · cases e
      obtain ⟨a, xs, rfl, z1, z2⟩ := rx
      exact .inr ⟨a, rfl, ⟨xs, SqT.sm k1.sub z1⟩, qq _ rfl _ S1 H1 g1 k1 st1 (itok_tup (.inl (.inl z1)) z2)⟩
    · cases e
      obtain ⟨a, xs, rfl, z1, z2⟩ := rx
      exact .inl ⟨a, rfl, ⟨xs, .of (k1.sub _ _ z1)⟩, qq _ rfl _ S1 H1 g1 k1 st1 (itok_list z1 z2)⟩
    · cases e
      obtain ⟨a, xs, rfl, z1, z2⟩ := rx
      exact .inr ⟨a, rfl, ⟨xs, same_seqT k1.sub z1.seq⟩, qq _ rfl _ S1 H1 g1 k1 st1 (itok_tup z1.seq z2)⟩
    · cases e
def rangeD (lo hi : Int) : List D := (List.range (hi - lo).toNat).map fun (i : Nat) => D.int (lo + (i : Int))
def range1 (ds : List D) : Option (List D) := match ds with
  | [.v (.int j)] => if -1000000000 ≤ j ∧ j ≤ 1000000000 then some (rangeD 0 j) else none
  | _ => none
def range2 (ds : List D) : Option (List D) := match ds with
  | [.v (.int i), .v (.int j)] => if -1000000000 ≤ i ∧ i ≤ 1000000000 ∧ -1000000000 ≤ j ∧ j ≤ 1000000000 then some (rangeD i j) else none
  | _ => none
theorem ci_range1 {da : EM (List D)} (h : CA G [a] da) (hm : G.X.mg "range" = none) (hg : Gl G.X "range" := by rfl) (hs : starEach [a] G.X.env = [(false, eval a G.X.env)] := by rfl) : CI G tg (.Call (.Name "range" p) [a] [] pos) (EM.bind da fun ds => EM.lift (range1 ds)) := by
  obtain ⟨t, pa, q⟩ := h.ex
  refine ⟨_, pi_range1 hg hm pa hs, fun σ ρ S H g k r ρ' hd Q qq px => ?_⟩
  refine q.use k hd px fun d ρ1 h1 x S1 H1 g1 k1 st1 rx px1 => ?_
  obtain ⟨ds, e, rfl, rfl⟩ := lift_cases h1
  unfold range1 at e
  split at e
  · rename_i j
    split at e
    · cases e
      obtain ⟨y, ys, rfl, r1, r2⟩ := rx
      rw [show ys = [] from r2, show y = V.int j from r1]
      refine ⟨j, rfl, by omega, by omega, qq _ rfl _ S1 H1 g1 k1 st1 ?_⟩
      have := itok_range (K := G.X.K) (S := S1) (lo := 0) (n := j.toNat)
      unfold rangeD
      rw [Int.sub_zero]
      exact this
    · cases e
  · cases e
theorem ci_range2 {da : EM (List D)} (h : CA G [a, b] da) (hm : G.X.mg "range" = none) (hg : Gl G.X "range" := by rfl) (hs : starEach [a, b] G.X.env = [(false, eval a G.X.env), (false, eval b G.X.env)] := by rfl) (hs2 : starEach [b] G.X.env = [(false, eval b G.X.env)] := by rfl) :
    CI G tg (.Call (.Name "range" p) [a, b] [] pos) (EM.bind da fun ds => EM.lift (range2 ds)) := by
  obtain ⟨t, pa, q⟩ := h.ex
  refine ⟨_, pi_range2 hg hm pa hs hs2, fun σ ρ S H g k r ρ' hd Q qq px => ?_⟩
  refine q.use k hd px fun d ρ1 h1 x S1 H1 g1 k1 st1 rx px1 => ?_
  obtain ⟨ds, e, rfl, rfl⟩ := lift_cases h1
  unfold range2 at e
  split at e
  · rename_i i j
    split at e
    · cases e
      obtain ⟨y, ys, rfl, r1, y2, ys2, rfl, r3, r2⟩ := rx
      rw [show ys2 = [] from r2, show y = V.int i from r1, show y2 = V.int j from r3]
      exact ⟨i, j, rfl, by omega, qq _ rfl _ S1 H1 g1 k1 st1 itok_range⟩
    · cases e
  · cases e
end
/-! ### for -/
namespace SM
def each (tg : TD) (body : SM) : List D → SM
  | [], ρ => some (.nx, ρ)
  | d :: ds, ρ => match tg d ρ with
    | none => none
    | some ρ1 => match body ρ1 with
      | some (.nx, ρ2) => each tg body ds ρ2
      | some (.ct, ρ2) => each tg body ds ρ2
      | some (.bk, ρ2) => some (.nx, ρ2)
      | o => o
def for_ (it : EM (List D)) (tg : TD) (body : SM) : SM := bind it fun ds => each tg body ds
def wh (c : EM Bool) (body : SM) : Nat → SM
  | 0, _ => none
  | n + 1, ρ => match c ρ with
    | some (.ok true, ρ1) => match body ρ1 with
      | some (.nx, ρ2) => wh c body n ρ2
      | some (.ct, ρ2) => wh c body n ρ2
      | some (.bk, ρ2) => some (.nx, ρ2)
      | o => o
    | some (.ok false, ρ1) => some (.nx, ρ1)
    | some (.ex k x, ρ1) => some (.ex k x, ρ1)
    | none => none
def while_ (n : Rho → Nat) (c : EM Bool) (body : SM) : SM := fun ρ => wh c body (n ρ) ρ
end SM
theorem Out.fix {G : Cc} {vs : List Nat} {σ σ' : St} (h : Out vs σ σ') (hv : ∀ i ∈ vs, i ∉ G.fx) : Fix G σ σ' := fun i hi => h.2 i fun z => hv i z hi
section
variable {G : Cc} {tg iter : Expr} {body : List Stmt} {pos : Pos} {di : EM (List D)} {vs : List Nat} {dt : TD} {db : SM}
theorem rs_for {wi : TI} {t : TG} {tb : TS} (hi : RG G wi (fun _ S J ds => ItOk G.X.K S J ds) di)
    (ht : ∀ σ ρ S H g, Ok G σ ρ S H g → ∀ v d, Rep G.X.K S v d → ∀ ρ', dt d ρ = some ρ' → ∀ Q, PTg G vs σ S H g ρ' Q → t v σ H Q) (hv : ∀ i ∈ vs, i ∉ G.fx) (hb : RS G tb db) : RS G (tFor wi t tb) (SM.for_ di dt db) := by
  intro σ ρ S H g k fl ρ' hd E p
  refine hi.useS k hd p fun ds ρ1 h1 J S1 H1 g1 k1 st1 hJ p1 => ?_
  refine ⟨fun i m σi Hi => m = ds.length - i ∧ i ≤ ds.length ∧ ∃ ρi Si gi, Ok G σi ρi Si Hi gi ∧ Stp S1 H1 (In g1) Si Hi (In gi) ∧ Fix G σ σi ∧ SM.each dt db (ds.drop i) ρi = some (fl, ρ'), ⟨_, rfl, Nat.zero_le _, ρ1, S1, g1, k1, .refl, .refl, h1⟩, ?_⟩
  rintro i m σi Hi ⟨rfl, hil, ρi, Si, gi, ki, sti, fxi, hdi⟩
  obtain ⟨go, stop⟩ := hJ Si Hi sti.sh ki.sub
  by_cases hlt : i < ds.length
  · have ed : ds.drop i = ds[i] :: ds.drop (i + 1) := List.drop_eq_getElem_cons hlt
    obtain ⟨g1', g2'⟩ := go i ds[i] (List.getElem?_eq_getElem hlt)
    rw [ed] at hdi
    refine .inr ⟨g1', fun σ2 H2 => ∃ ρ2 S2 g2, Ok G σ2 ρ2 S2 H2 g2 ∧ Stp S1 H1 (In g1) S2 H2 (In g2) ∧ Fix G σ σ2 ∧ SM.each dt db (ds.drop (i + 1)) ρ2 = some (fl, ρ'), fun σ2 H2 ⟨ρ2, S2, gg, k2, s2, f2, h2⟩ => ⟨ds.length - (i + 1), by omega, rfl, hlt, ρ2, S2, gg, k2, s2, f2, h2⟩, fun x H' hy => ?_⟩
    obtain ⟨S', gr, rx⟩ := g2' x H' hy
    unfold SM.each at hdi
    split at hdi
    · cases hdi
    rename_i ρ2 e2
    refine ht σi ρi S' H' gi (ki.grow gr) x ds[i] rx ρ2 e2 _ fun σ3 S3 H3 g3 k3 st3 o3 => ?_
    have st03 := (sti.trans gr.stp).trans st3
    have fx03 := fxi.trans (o3.fix hv)
    split at hdi
    · rename_i ρ4 e4
      exact hb σ3 ρ2 S3 H3 g3 k3 _ _ e4 _ fun σ4 S4 H4 g4 k4 st4 fx4 => ⟨ρ4, S4, g4, k4, st03.trans st4, fx03.trans fx4, hdi⟩
    · rename_i ρ4 e4
      exact hb σ3 ρ2 S3 H3 g3 k3 _ _ e4 _ fun σ4 S4 H4 g4 k4 st4 fx4 => ⟨ρ4, S4, g4, k4, st03.trans st4, fx03.trans fx4, hdi⟩
    · rename_i ρ4 e4
      cases hdi
      exact hb σ3 ρ2 S3 H3 g3 k3 _ _ e4 _ fun σ4 S4 H4 g4 k4 st4 fx4 => p1 σ4 S4 H4 g4 k4 (st03.trans st4) (fx03.trans fx4)
    · rename_i n1 n2 n3
      have p3 := p1.step st03 fx03
      cases fl with
      | nx => exact absurd hdi (n1 _)
      | bk => exact absurd hdi (n3 _)
      | ct => exact absurd hdi (n2 _)
      | rt d => exact hb σ3 ρ2 S3 H3 g3 k3 _ _ hdi _ p3
      | ex c xx => exact hb σ3 ρ2 S3 H3 g3 k3 _ _ hdi _ p3
  · have e : i = ds.length := by omega
    subst e
    rw [List.drop_length] at hdi
    cases hdi
    exact .inl ⟨stop _ (Nat.le_refl _), p1 σi Si Hi gi ki sti fxi⟩
theorem cs_for {k : Nat} (gk : GOk G k) (hi : CI G tg iter di) (ht : CTg G tg vs dt) (hb : CB G body db) (hv : ∀ i ∈ vs, i ∉ G.fx := by exact nfxs (by rfl)) (hs : ∀ x, foldedSetIterable iter G.X.env x = pure x := by intro _; rfl) : CS G (.For tg iter body [] pos) (SM.for_ di dt db) := by
  obtain ⟨wi, p1, q1⟩ := hi.ex
  obtain ⟨t, p2, q2⟩ := ht.ex
  obtain ⟨tb, p3, q3⟩ := hb.ex
  exact ⟨_, ps_for gk.pass gk.calm p1 p2 p3 hs, rs_for q1 q2 hv q3⟩
theorem rs_while {c : TT} {tb : TS} {n : Rho → Nat} {dc : EM Bool} (hc : RG G c (fun _ _ b a => b = a) dc) (hb : RS G tb db) : RS G (tWhile c tb) (SM.while_ n dc db) := by
  intro σ ρ S H g k fl ρ' hd E p
  refine ⟨fun m σi Hi => ∃ ρi Si gi, Ok G σi ρi Si Hi gi ∧ Stp S H (In g) Si Hi (In gi) ∧ Fix G σ σi ∧ SM.wh dc db m ρi = some (fl, ρ'), ⟨n ρ, ρ, S, g, k, .refl, .refl, hd⟩, ?_⟩
  rintro m σi Hi ⟨ρi, Si, gi, ki, sti, fxi, hdi⟩
  have pi := p.step sti fxi
  cases m with
  | zero => cases hdi
  | succ m =>
    unfold SM.wh at hdi
    cases ec : dc ρi with
    | none =>
      rw [ec] at hdi
      cases hdi
    | some q =>
      obtain ⟨r, ρ1⟩ := q
      rw [ec] at hdi
      refine hc σi ρi Si Hi gi ki _ _ ec _ (fun b eb b' S1 H1 g1 k1 st1 rb => ?_) fun c' x' ex => ?_
      · subst eb rb
        cases b' with
        | true =>
          refine iteT ⟨fun σ2 H2 => ∃ ρ2 S2 g2, Ok G σ2 ρ2 S2 H2 g2 ∧ Stp S H (In g) S2 H2 (In g2) ∧ Fix G σ σ2 ∧ SM.wh dc db m ρ2 = some (fl, ρ'), fun σ2 H2 h2 => ⟨m, Nat.lt_succ_self _, h2⟩, ?_⟩
          have st01 := sti.trans st1
          dsimp only at hdi
          split at hdi
          · rename_i ρ4 e4
            exact hb σi ρ1 S1 H1 g1 k1 _ _ e4 _ fun σ4 S4 H4 g4 k4 st4 fx4 => ⟨ρ4, S4, g4, k4, st01.trans st4, fxi.trans fx4, hdi⟩
          · rename_i ρ4 e4
            exact hb σi ρ1 S1 H1 g1 k1 _ _ e4 _ fun σ4 S4 H4 g4 k4 st4 fx4 => ⟨ρ4, S4, g4, k4, st01.trans st4, fxi.trans fx4, hdi⟩
          · rename_i ρ4 e4
            cases hdi
            exact hb σi ρ1 S1 H1 g1 k1 _ _ e4 _ fun σ4 S4 H4 g4 k4 st4 fx4 => p σ4 S4 H4 g4 k4 (st01.trans st4) (fxi.trans fx4)
          · rename_i n1 n2 n3
            have p3 := p.step st01 fxi
            cases fl with
            | nx => exact absurd hdi (n1 _)
            | bk => exact absurd hdi (n3 _)
            | ct => exact absurd hdi (n2 _)
            | rt d => exact hb σi ρ1 S1 H1 g1 k1 _ _ hdi _ p3
            | ex c xx => exact hb σi ρ1 S1 H1 g1 k1 _ _ hdi _ p3
        | false =>
          cases hdi
          exact iteF (p σi S1 H1 g1 k1 (sti.trans st1) fxi)
      · subst ex
        cases hdi
        exact pi.px
theorem cs_while {k : Nat} {c : Expr} {dc : EM Bool} (n : Rho → Nat) (gk : GOk G k) (hc : CT G c dc) (hb : CB G body db) : CS G (.While c body [] pos) (SM.while_ n dc db) := by
  obtain ⟨t, p1, q1⟩ := hc.ex
  obtain ⟨tb, p3, q3⟩ := hb.ex
  exact ⟨_, ps_while gk.pass p1 p3, rs_while q1 q3⟩
end
end Cl
namespace Cl
open PySem PySem.Spec PyProof.Rows L2
/-! ### list comprehensions -/
def wipeR (ρ : Rho) : List Nat → Rho
  | [] => ρ
  | v :: vs => (wipeR ρ vs).set v none
def back (ρ ρ2 : Rho) : List Nat → Rho
  | [] => ρ2
  | v :: vs => (back ρ ρ2 vs).set v (ρ.getD v none)
theorem wipeR_len {ρ : Rho} : ∀ {vs : List Nat}, (wipeR ρ vs).length = ρ.length
  | [] => rfl
  | v :: vs => by
    unfold wipeR
    rw [List.length_set, wipeR_len]
theorem back_len {ρ ρ2 : Rho} : ∀ {vs : List Nat}, (back ρ ρ2 vs).length = ρ2.length
  | [] => rfl
  | v :: vs => by
    unfold back
    rw [List.length_set, back_len]
theorem wipeR_out {ρ : Rho} {i : Nat} : ∀ {vs : List Nat}, i ∉ vs → (wipeR ρ vs)[i]? = ρ[i]?
  | [], _ => rfl
  | v :: vs, h => by
    unfold wipeR
    rw [List.getElem?_set_ne fun z => h (by rw [z]; simp), wipeR_out fun z => h (List.mem_cons_of_mem _ z)]
theorem wipeR_in {ρ : Rho} {i : Nat} {d : D} : ∀ {vs : List Nat}, (wipeR ρ vs)[i]? = some (some d) → i ∉ vs
  | [], _ => by simp
  | v :: vs, h => by
    unfold wipeR at h
    by_cases e : v = i
    · subst e
      by_cases z : v < (wipeR ρ vs).length
      · rw [List.getElem?_set_self z] at h
        cases h
      · rw [List.getElem?_eq_none (by simpa using z)] at h
        cases h
    · rw [List.getElem?_set_ne e] at h
      have := wipeR_in h
      simp only [List.mem_cons, not_or]
      exact ⟨fun z => e z.symm, this⟩
theorem wipe_out' {σ : St} {i : Nat} : ∀ {vs : List Nat}, i ∉ vs → (wipe σ vs)[i]? = σ[i]?
  | [], _ => rfl
  | v :: vs, h => by
    unfold wipe
    rw [List.getElem?_set_ne fun z => h (by rw [z]; simp), wipe_out' fun z => h (List.mem_cons_of_mem _ z)]
theorem wipe_in' {σ : St} {i : Nat} {x : V} : ∀ {vs : List Nat}, (wipe σ vs)[i]? = some (some x) → i ∉ vs
  | [], _ => by simp
  | v :: vs, h => by
    unfold wipe at h
    by_cases e : v = i
    · subst e
      by_cases z : v < (wipe σ vs).length
      · rw [List.getElem?_set_self z] at h
        cases h
      · rw [List.getElem?_eq_none (by simpa using z)] at h
        cases h
    · rw [List.getElem?_set_ne e] at h
      have := wipe_in' h
      simp only [List.mem_cons, not_or]
      exact ⟨fun z => e z.symm, this⟩
theorem wipe_ext {σ σ' : St} {vs us : List Nat} (hl : σ'.length = σ.length) (h : ∀ j, j ∉ us → σ'[j]? = (wipe σ vs)[j]?) (hs : ∀ j ∈ us, j ∈ vs) : wipe σ' vs = wipe σ vs := by
  have key : ∀ (σ : St) (vs : List Nat) (j : Nat), j ∈ vs → (wipe σ vs)[j]? = if j < σ.length then some none else none := by
    intro σ vs
    induction vs with
    | nil => intro j hj; exact absurd hj (by simp)
    | cons v vs ih =>
      intro j hj
      unfold wipe
      by_cases e : v = j
      · subst e
        by_cases z : v < σ.length
        · rw [List.getElem?_set_self (by rw [wipe_length]; exact z), if_pos z]
        · rw [List.getElem?_eq_none (by rw [List.length_set, wipe_length]; omega), if_neg z]
      · rw [List.getElem?_set_ne e]
        exact ih j ((List.mem_cons.mp hj).resolve_left fun z => e z.symm)
  refine List.ext_getElem? fun j => ?_
  by_cases hj : j ∈ vs
  · rw [key σ' vs j hj, key σ vs j hj, hl]
  · rw [wipe_out' hj]
    exact h j fun z => hj (hs j z)
section
variable {G : Cc} {σ : St} {ρ ρ' : Rho} {S H S' H' : Hp} {g g' : Nat → List Addr} {vs : List Nat}
theorem Ok.wiped (k : Ok G σ ρ S H g) (hv : ∀ i ∈ vs, G.sh i = .s) : Ok G (wipe σ vs) (wipeR ρ vs) S H g where
  len := by rw [wipe_length]; exact k.len
  rlen := by rw [wipeR_len]; exact k.rlen
  sub := k.sub
  slot := fun i d e => by
    have hi := wipeR_in e
    rw [wipeR_out hi] at e
    rw [wipe_out' hi]
    exact k.slot i d e
  emp := fun i hi => by
    by_cases h : i ∈ vs
    · cases e : ρ[i]? with
      | none => exact k.emp i fun d q => by rw [e] at q; cases q
      | some o => cases o with
        | none => exact k.emp i fun d q => by rw [e] at q; cases q
        | some d =>
          obtain ⟨v, _, h2⟩ := k.slot i d e
          rw [show G.Om.getD i .s = .s from hv i h] at h2
          exact h2.ss.1
    · exact k.emp i fun d q => hi d (by rw [wipeR_out h]; exact q)
  nd := k.nd
  dj := k.dj
  sep := k.sep
theorem back_out {ρ ρ2 : Rho} {i : Nat} : ∀ {vs : List Nat}, i ∉ vs → (back ρ ρ2 vs)[i]? = ρ2[i]?
  | [], _ => rfl
  | v :: vs, h => by
    unfold back
    rw [List.getElem?_set_ne fun z => h (by rw [z]; simp), back_out fun z => h (List.mem_cons_of_mem _ z)]
theorem back_in {ρ ρ2 : Rho} {i : Nat} {d : D} (hl : ρ2.length = ρ.length) : ∀ {vs : List Nat}, i ∈ vs → (back ρ ρ2 vs)[i]? = some (some d) → ρ[i]? = some (some d)
  | [], h, _ => absurd h (by simp)
  | v :: vs, h, e => by
    unfold back at e
    by_cases q : v = i
    · subst q
      by_cases z : v < ρ2.length
      · rw [List.getElem?_set_self (by rw [back_len]; exact z)] at e
        rw [List.getD_eq_getElem?_getD] at e
        cases w : ρ[v]? with
        | none =>
          rw [w] at e
          cases e
        | some o =>
          rw [w] at e
          exact e
      · rw [List.getElem?_eq_none (by rw [List.length_set, back_len]; omega)] at e
        cases e
    · rw [List.getElem?_set_ne q] at e
      exact back_in hl ((List.mem_cons.mp h).resolve_left fun z => q z.symm) e
theorem Ok.unwiped {ρ2 : Rho} {S2 H2 : Hp} {g2 : Nat → List Addr} (k : Ok G σ ρ S H g) (k2 : Ok G (wipe σ vs) ρ2 S2 H2 g2) (hv : ∀ i ∈ vs, G.sh i = .s) (sh : Same S S2) : Ok G σ (back ρ ρ2 vs) S2 H2 g2 where
  len := k.len
  rlen := by rw [back_len]; exact k2.rlen
  sub := k2.sub
  slot := fun i d e => by
    by_cases h : i ∈ vs
    · obtain ⟨v, h1, h2⟩ := k.slot i d (back_in (k2.rlen.trans k.rlen.symm) h e)
      rw [show G.Om.getD i .s = .s from hv i h] at h2 ⊢
      have hg : g2 i = [] := k2.emp i fun d' q => by
        obtain ⟨u, z, _⟩ := k2.slot i d' q
        exact wipe_in' z h
      rw [hg]
      exact ⟨v, h1, own_s (h2.ss.2.mono sh)⟩
    · rw [back_out h] at e
      obtain ⟨v, h1, h2⟩ := k2.slot i d e
      rw [wipe_out' h] at h1
      exact ⟨v, h1, h2⟩
  emp := fun i hi => by
    by_cases h : i ∈ vs
    · exact k2.emp i fun d' q => by
        obtain ⟨u, z, _⟩ := k2.slot i d' q
        exact wipe_in' z h
    · exact k2.emp i fun d' q => hi d' (by rw [back_out h]; exact q)
  nd := k2.nd
  dj := k2.dj
  sep := k2.sep
/-- readings that look the same in every block -/
def canT {β α : Type} (N : List Str) (K : PySem.W.Frag) (Om : List Sh) (R : St → Hp → β → α → Prop) (den : EM α) : St → Hp → (β → Hp → Prop) → Prop := fun σ H Q => ∃ ρ S g a ρ', OkN N K Om σ ρ S H g ∧ den ρ = some (.ok a, ρ') ∧
  ∀ b S' H' g', OkN N K Om σ ρ' S' H' g' → Stp S H (In g) S' H' (In g') → R σ S' b a → Q b H'
def canO (N : List Str) (K : PySem.W.Frag) (Om : List Sh) (w : Sh) (den : EM D) : TE := fun σ H Q => ∃ ρ S g d ρ', OkN N K Om σ ρ S H g ∧ den ρ = some (.ok d, ρ') ∧
  ∀ v S' H' g' bs, OkN N K Om σ ρ' S' H' g' → Stp S H (In g) S' H' (fun a => In g' a ∨ a ∈ bs) → Own K S' H' w v d bs → bs.Nodup → (∀ b ∈ bs, S' b = none ∧ ¬ In g' b) → Q v H'
def canG (N : List Str) (K : PySem.W.Frag) (Om : List Sh) (vs : List Nat) (den : TD) : TG := fun v σ H Q => ∃ ρ S g d ρ', OkN N K Om σ ρ S H g ∧ Rep K S v d ∧ den d ρ = some ρ' ∧
  ∀ σ' S' H' g', OkN N K Om σ' ρ' S' H' g' → Stp S H (In g) S' H' (In g') → Out vs σ σ' → Q σ' H'
theorem CO.can {w : Sh} {e : Expr} {den : EM D} (h : CO G w e den) : PE G.X e (canO G.X.N G.X.K G.Om w den) := by
  obtain ⟨t, p, q⟩ := h.ex
  refine ⟨fun pins s σ H Q I ⟨ρ, S, g, d, ρ', k, hd, hq⟩ => p.run pins s σ H Q I ?_⟩
  refine q σ ρ S H g k _ _ hd Q (fun d' e v S' H' g' bs k' st ow nd hb => ?_) fun c x e => nomatch e
  cases e
  exact hq v S' H' g' bs k' st ow nd hb
theorem CTg.can {tg : Expr} {den : TD} (h : CTg G tg vs den) : PG G.X tg (canG G.X.N G.X.K G.Om vs den) := by
  obtain ⟨t, p, q⟩ := h.ex
  exact ⟨fun pins s σ H v u Q I r ⟨ρ, S, g, d, ρ', k, rv, hd, hq⟩ => p.run pins s σ H v u Q I r (q σ ρ S H g k v d rv ρ' hd Q fun σ' S' H' g' k' st o => hq σ' S' H' g' k' st o)⟩
structure CTts (G : Cc) (ifs : List Expr) (den : EM Bool) : Prop where
  ex : ∃ t, PTs G.X ifs t ∧ RG G t (fun _ _ b a => b = a) den
theorem ctts_nil : CTts G [] (EM.ret true) := ⟨_, pts_nil, fun σ ρ S H g k r ρ' hd Q q px => by
  cases hd
  exact q true rfl true S H g k .refl rfl⟩
theorem ctts_one {c : Expr} {den : EM Bool} (h : CT G c den) : CTts G [c] den := by
  obtain ⟨t, p, q⟩ := h.ex
  exact ⟨_, pts_one p, q⟩
theorem CTts.can {ifs : List Expr} {den : EM Bool} (h : CTts G ifs den) : PTs G.X ifs (canT G.X.N G.X.K G.Om (fun _ _ b a => b = a) den) := by
  obtain ⟨t, p, q⟩ := h.ex
  refine ⟨fun pins s σ H Q I ⟨ρ, S, g, d, ρ', k, hd, hq⟩ => p.run pins s σ H Q I ?_⟩
  refine q σ ρ S H g k _ _ hd Q (fun d' e b S' H' g' k' st rb => ?_) fun c x e => nomatch e
  cases e
  exact hq b S' H' g' k' st rb
end
/-- the context of a comprehension's block -/
abbrev Cc.blk (G : Cc) (s : Shared) (H : Hp) (scope : Scope) (C : Addr) (cl : List (Str × Addr)) (fp : List Addr) : Cc := { G with X := G.X.blk s H scope (compEnvC scope cl C G.X.env) fp, W := fun _ _ _ _ => False }
theorem GOk.blk {G : Cc} {k : Nat} (h : GOk G k) {s : Shared} {H : Hp} {scope : Scope} {C : Addr} {cl : List (Str × Addr)} {fp : List Addr} : GOk (G.blk s H scope C cl fp) k :=
  ⟨h.nd, h.calm, takes0, PassesOwn.never, h.room⟩
def lcGo (vs : List Nat) (tg : TD) (tt : EM Bool) (te : EM D) : List D → Rho → Option (List D × Rho)
  | [], ρ => some ([], ρ)
  | d :: ds, ρ => match tg d ρ with
    | none => none
    | some ρ1 => match tt ρ1 with
      | some (.ok true, ρ2) => match te ρ2 with
        | some (.ok y, ρ3) => (lcGo vs tg tt te ds (wipeR ρ3 vs)).map fun q => (y :: q.1, q.2)
        | _ => none
      | some (.ok false, ρ2) => lcGo vs tg tt te ds (wipeR ρ2 vs)
      | _ => none
namespace EM
def lc (vs : List Nat) (it : EM (List D)) (tg : TD) (tt : EM Bool) (te : EM D) : EM D := fun ρ => match it ρ with
  | some (.ok ds, ρ1) => if ds.length ≤ 1000000 then (lcGo vs tg tt te ds (wipeR ρ1 vs)).map fun q => (.ok (.lst q.1), back ρ1 q.2 vs) else none
  | some (.ex c x, ρ1) => some (.ex c x, ρ1)
  | none => none
end EM
theorem Each.snoc {P : V → D → List Addr → Prop} : ∀ {xs : List V} {ds : List D} {as : List Addr} {x : V} {d : D} {bs : List Addr}, Each P xs ds as → P x d bs → Each P (xs ++ [x]) (ds ++ [d]) (as ++ bs)
  | [], [], as, x, d, bs, h, p => by
    have h : as = [] := h
    subst h
    exact ⟨bs, [], by simp, p, rfl⟩
  | y :: ys, e :: es, as, x, d, bs, h, p => by
    obtain ⟨a1, a2, rfl, h1, h2⟩ := h
    exact ⟨a1, a2 ++ bs, by simp, h1, Each.snoc h2 p⟩
  | [], _ :: _, _, _, _, _, h, _ => h.elim
  | _ :: _, [], _, _, _, _, h, _ => h.elim
theorem Each.len {P : V → D → List Addr → Prop} : ∀ {xs : List V} {ds : List D} {as : List Addr}, Each P xs ds as → xs.length = ds.length
  | [], [], as, h => rfl
  | y :: ys, e :: es, as, h => by
    obtain ⟨a1, a2, rfl, h1, h2⟩ := h
    simp [Each.len h2]
  | [], _ :: _, _, h => h.elim
  | _ :: _, [], _, h => h.elim
section
variable {G : Cc} {tg iter elt : Expr} {ifs : List Expr} {scope : Scope} {own : List (Str × Nat)} {pos : Pos} {di : EM (List D)} {vs : List Nat} {dt : TD} {dc : EM Bool} {de : EM D} {w : Sh}
theorem rg_lc {wi : TI} {us : List Nat} (hi : RG G wi (fun _ S J ds => ItOk G.X.K S J ds) di) (hv : ∀ i ∈ us, G.sh i = .s) (hu : ∀ i ∈ vs, i ∈ us) :
    RGo G (.l w) (tLc wi (canG G.X.N G.X.K G.Om vs dt) (canT G.X.N G.X.K G.Om (fun _ _ b a => b = a) dc) (canO G.X.N G.X.K G.Om w de) us) (EM.lc us di dt dc de) := by
  intro σ ρ S H g k r ρ' hd Q q px
  have hd2 : EM.bind di (fun ds ρ1 => if ds.length ≤ 1000000 then (lcGo us dt dc de ds (wipeR ρ1 us)).map fun q => (Rs.ok (D.lst q.1), back ρ1 q.2 us) else none) ρ = some (r, ρ') := by
    unfold EM.lc at hd
    unfold EM.bind
    cases e : di ρ with
    | none =>
      rw [e] at hd
      cases hd
    | some z =>
      obtain ⟨r1, ρ1⟩ := z
      rw [e] at hd
      cases r1 <;> exact hd
  clear hd
  refine hi.use k hd2 px fun ds ρ1 h1 J S1 H1 g1 k1 st1 hJ px1 => ?_
  split at h1
  case isFalse => cases h1
  rename_i hlen
  cases hg : lcGo us dt dc de ds (wipeR ρ1 us) with
  | none =>
    rw [hg] at h1
    cases h1
  | some z =>
  obtain ⟨out, ρe⟩ := z
  rw [hg] at h1
  cases h1
  intro D hD
  have k1w := k1.wiped hv
  have hSD : S1 D = none := k1.sub.free hD
  have hgD : ¬ In g1 D := fun z => by
    obtain ⟨o, ho⟩ := k1.live z
    rw [hD] at ho
    cases ho
  have smD : Same H1 (upd H1 D (.lst [])) := fun b o e => by
    rw [upd_ne (ne_of_none e hD)]
    exact e
  refine ⟨fun i m Hi => m = ds.length - i ∧ i ≤ ds.length ∧ ∃ acc da as ρi Si gi rest, OkN G.X.N G.X.K G.Om (wipe σ us) ρi Si Hi gi ∧ Stp S1 H1 (In g1) Si Hi (fun a => In gi a ∨ a ∈ D :: as) ∧ Hi D = some (.lst acc) ∧ Each (Own G.X.K Si Hi w) acc da as ∧ (D :: as).Nodup ∧ (∀ b ∈ D :: as, Si b = none ∧ ¬ In gi b) ∧ da.length ≤ i ∧
    lcGo us dt dc de (ds.drop i) ρi = some (rest, ρe) ∧ out = da ++ rest, ⟨_, rfl, Nat.zero_le _, [], [], [], wipeR ρ1 us, S1, g1, out, ?_, ?_, upd_same, rfl, by simp, ?_, Nat.le_refl _, hg, rfl⟩, ?_⟩
  · exact ⟨k1w.len, k1w.rlen, k1w.sub.trans smD, fun i d e => by
      obtain ⟨v, z1, z2⟩ := k1w.slot i d e
      exact ⟨v, z1, z2.mono (Same.refl _) fun a _ o q => smD a o q⟩, k1w.emp, k1w.nd, k1w.dj, k1w.sep⟩
  · refine ⟨Same.refl _, fun b o e _ => smD b o e, fun b o e => .inl e, fun b h => ?_, fun b h => smD.free h⟩
    rcases h with h | h
    · exact .inl h
    · have e : b = D := by simpa using h
      subst e
      exact .inr hD
  · intro b hb
    have e : b = D := by simpa using hb
    subst e
    exact ⟨hSD, hgD⟩
  rintro i m Hi ⟨rfl, hil, acc, da, as, ρi, Si, gi, rest, ki, sti, hacc, each, nd, sep, hdl, hgo, hout⟩
  obtain ⟨go, stop⟩ := hJ Si Hi sti.sh ki.sub
  by_cases hlt : i < ds.length
  · have ed : ds.drop i = ds[i] :: ds.drop (i + 1) := List.drop_eq_getElem_cons hlt
    obtain ⟨gA, gB⟩ := go i ds[i] (List.getElem?_eq_getElem hlt)
    rw [ed] at hgo
    refine .inr ⟨gA, fun Hn => ∃ acc da as ρi Si gi rest, OkN G.X.N G.X.K G.Om (wipe σ us) ρi Si Hn gi ∧ Stp S1 H1 (In g1) Si Hn (fun a => In gi a ∨ a ∈ D :: as) ∧ Hn D = some (.lst acc) ∧ Each (Own G.X.K Si Hn w) acc da as ∧ (D :: as).Nodup ∧ (∀ b ∈ D :: as, Si b = none ∧ ¬ In gi b) ∧ da.length ≤ i + 1 ∧
      lcGo us dt dc de (ds.drop (i + 1)) ρi = some (rest, ρe) ∧ out = da ++ rest, fun Hn hn => ⟨ds.length - (i + 1), by omega, rfl, hlt, hn⟩, fun x H' hy => ?_⟩
    obtain ⟨S', gr, rx⟩ := gB x H' hy
    unfold lcGo at hgo
    split at hgo
    · cases hgo
    rename_i ρ2 e2
    -- the parts of the new list stay
    have keep : ∀ {S3 H3 : Hp} {g3 : Nat → List Addr}, Stp Si Hi (In gi) S3 H3 (In g3) → Stp S1 H1 (In g1) S3 H3 (fun a => In g3 a ∨ a ∈ D :: as) ∧ H3 D = some (.lst acc) ∧ Each (Own G.X.K S3 H3 w) acc da as ∧ ∀ b ∈ D :: as, S3 b = none ∧ ¬ In g3 b := fun {S3 H3 g3} st => by
      have lv : ∀ b ∈ D :: as, ∃ o, Hi b = some o := fun b hb => by
        rcases List.mem_cons.mp hb with rfl | hb
        · exact ⟨_, hacc⟩
        · exact each.mem (fun y d bs hp => hp.live) b hb
      have fr : ∀ b ∈ D :: as, ∀ o, Hi b = some o → H3 b = some o := fun b hb o e => st.fr b o e (sep b hb).2
      refine ⟨⟨sti.sh.trans st.sh, fun b o e n => ?_, fun b o e => ?_, fun b h => ?_, fun b h => sti.dom b (st.dom b h)⟩, fr D List.mem_cons_self _ hacc, each.mono fun y d bs hb hp => hp.mono st.sh fun b z o e => fr b (List.mem_cons_of_mem _ (hb b z)) o e, fun b hb => ⟨?_, fun z => ?_⟩⟩
      · have h1 := sti.fr b o e n
        refine st.fr b o h1 fun z => ?_
        rcases sti.af b (.inl z) with y | y
        · exact n y
        · rw [y] at e
          cases e
      · rcases st.sf b o e with z | z | z
        · exact sti.sf b o z
        · exact .inr (.inl (sti.dom b z))
        · exact (sti.af b (.inl z)).elim (fun y => .inr (.inr y)) fun y => .inr (.inl y)
      · rcases h with h | h
        · rcases st.af b h with z | z
          · exact sti.af b (.inl z)
          · exact .inr (sti.dom b z)
        · exact sti.af b (.inr h)
      · cases e : S3 b with
        | none => rfl
        | some o =>
          rcases st.sf b o e with z | z | z
          · rw [(sep b hb).1] at z
            cases z
          · obtain ⟨u, hu⟩ := lv b hb
            rw [z] at hu
            cases hu
          · exact absurd z (sep b hb).2
      · rcases st.af b z with y | y
        · exact (sep b hb).2 y
        · obtain ⟨u, hu⟩ := lv b hb
          rw [y] at hu
          cases hu
    have kw : OkN G.X.N G.X.K G.Om (wipe σ us) ρi S' H' gi := Ok.grow (G := G) ki gr
    refine ⟨ρi, S', gi, ds[i], ρ2, kw, rx, e2, fun σ3 S3 H3 g3 k3 st3 o3 => ?_⟩
    have hw3 : wipe σ3 us = wipe σ us := wipe_ext (us := vs) (by rw [o3.1, wipe_length]) (fun j hj => o3.2 j hj) hu
    have st03 : Stp Si Hi (In gi) S3 H3 (In g3) := gr.stp.trans st3
    refine ⟨hw3, ?_⟩
    split at hgo
    · -- the test holds
      rename_i ρ4 e4
      split at hgo
      case h_2 => cases hgo
      rename_i y ρ5 e5
      cases hrest : lcGo us dt dc de (ds.drop (i + 1)) (wipeR ρ5 us) with
      | none =>
        rw [hrest] at hgo
        cases hgo
      | some z =>
      obtain ⟨rest', ρe'⟩ := z
      rw [hrest] at hgo
      cases hgo
      refine ⟨ρ2, S3, g3, true, ρ4, k3, e4, fun b S4 H4 g4 k4 st4 eb => ?_⟩
      subst eb
      refine iteT ⟨ρ4, S4, g4, y, ρ5, k4, e5, fun v S5 H5 g5 bs k5 st5 ow nb hb => ?_⟩
      have st04 := st03.trans st4
      obtain ⟨a1, a2, a3, a4⟩ := keep st04
      have lv4 : ∀ b ∈ D :: as, ∃ o, H4 b = some o := fun b hb => by
        rcases List.mem_cons.mp hb with rfl | hb
        · exact ⟨_, a2⟩
        · exact a3.mem (fun y d bs hp => hp.live) b hb
      have fr5 : ∀ b ∈ D :: as, ∀ o, H4 b = some o → H5 b = some o := fun b hb o e => st5.fr b o e (a4 b hb).2
      have acc5 := fr5 D List.mem_cons_self _ a2
      have apart : ∀ b ∈ D :: as, b ∉ bs := fun b hb1 hb2 => by
        rcases st5.af b (.inr hb2) with z | z
        · exact (a4 b hb1).2 z
        · obtain ⟨u, hu⟩ := lv4 b hb1
          rw [z] at hu
          cases hu
      have sep5 : ∀ b ∈ D :: as, S5 b = none ∧ ¬ In g5 b := fun b hb1 => ⟨by
        cases e : S5 b with
        | none => rfl
        | some o =>
          rcases st5.sf b o e with z | z | z
          · rw [(a4 b hb1).1] at z
            cases z
          · obtain ⟨u, hu⟩ := lv4 b hb1
            rw [z] at hu
            cases hu
          · exact absurd z (a4 b hb1).2, fun z => by
        rcases st5.af b (.inl z) with y | y
        · exact (a4 b hb1).2 y
        · obtain ⟨u, hu⟩ := lv4 b hb1
          rw [y] at hu
          cases hu⟩
      have el := each.len
      refine ⟨acc, acc5, by rw [sizeLine_eq]; omega, acc ++ [v], da ++ [y], as ++ bs, wipeR ρ5 us, S5, g5, rest', ?_, ?_, upd_same, ?_, ?_, ?_, ?_, hrest, ?_⟩
      · -- the state behind the append
        have k5w := Ok.wiped (G := G) k5 hv
        rw [hw3] at k5w
        refine ⟨k5w.len, k5w.rlen, fun b o e => ?_, fun j d e => ?_, k5w.emp, k5w.nd, k5w.dj, k5w.sep⟩
        · have hne : b ≠ D := fun z => by
            rw [z, (sep5 D List.mem_cons_self).1] at e
            cases e
          rw [upd_ne hne]
          exact k5w.sub b o e
        · obtain ⟨u, z1, z2⟩ := k5w.slot j d e
          exact ⟨u, z1, z2.mono (Same.refl _) fun a ha o e' => by
            have hne : a ≠ D := fun z => (sep5 D List.mem_cons_self).2 ⟨j, by rw [← z]; exact ha⟩
            rw [upd_ne hne]
            exact e'⟩
      · refine ⟨a1.sh.trans st5.sh, fun b o e n => ?_, fun b o e => ?_, fun b h => ?_, fun b h => ?_⟩
        · have hne : b ≠ D := fun z => by
            rw [z, hD] at e
            cases e
          rw [upd_ne hne]
          have h1 := a1.fr b o e n
          refine st5.fr b o h1 fun z => ?_
          rcases a1.af b (.inl z) with y | y
          · exact n y
          · rw [y] at e
            cases e
        · rcases st5.sf b o e with z | z | z
          · exact a1.sf b o z
          · exact .inr (.inl (a1.dom b z))
          · exact (a1.af b (.inl z)).elim (fun y => .inr (.inr y)) fun y => .inr (.inl y)
        · have h' : (In g5 b ∨ b ∈ bs) ∨ b ∈ D :: as := by
            rcases h with h | h
            · exact .inl (.inl h)
            · rcases List.mem_cons.mp h with h | h
              · exact .inr (by rw [h]; exact List.mem_cons_self)
              · rcases List.mem_append.mp h with h | h
                · exact .inr (List.mem_cons_of_mem _ h)
                · exact .inl (.inr h)
          rcases h' with h' | h'
          · rcases st5.af b h' with z | z
            · exact a1.af b (.inl z)
            · exact .inr (a1.dom b z)
          · exact a1.af b (.inr h')
        · by_cases hne : b = D
          · subst hne
            rw [upd_same] at h
            cases h
          · rw [upd_ne hne] at h
            exact a1.dom b (st5.dom b h)
      · refine (a3.mono fun y' d' bs' hb' hp => hp.mono st5.sh fun b z o e => ?_).snoc (ow.mono (Same.refl _) fun b z o e => ?_)
        · have hbas := List.mem_cons_of_mem D (hb' b z)
          have hne : b ≠ D := fun q => by
            have := (List.nodup_cons.mp nd).1
            exact this (by rw [← q]; exact hb' b z)
          rw [upd_ne hne]
          exact fr5 b hbas o e
        · have hne : b ≠ D := fun q => apart D List.mem_cons_self (by rw [← q]; exact z)
          rw [upd_ne hne]
          exact e
      · obtain ⟨n1, n2⟩ := List.nodup_cons.mp nd
        refine List.nodup_cons.mpr ⟨fun z => ?_, List.nodup_append.mpr ⟨n2, nb, fun a ha b hb' e => ?_⟩⟩
        · rcases List.mem_append.mp z with z | z
          · exact n1 z
          · exact apart D List.mem_cons_self z
        · subst e
          exact apart a (List.mem_cons_of_mem _ ha) hb'
      · intro b hb'
        rcases List.mem_cons.mp hb' with rfl | hb'
        · exact sep5 _ List.mem_cons_self
        · rcases List.mem_append.mp hb' with z | z
          · exact sep5 b (List.mem_cons_of_mem _ z)
          · exact hb b z
      · simp
        omega
      · rw [hout]
        simp
    · -- it does not
      rename_i ρ4 e4
      refine ⟨ρ2, S3, g3, false, ρ4, k3, e4, fun b S4 H4 g4 k4 st4 eb => ?_⟩
      subst eb
      obtain ⟨a1, a2, a3, a4⟩ := keep (st03.trans st4)
      have k4w := Ok.wiped (G := G) k4 hv
      rw [hw3] at k4w
      exact iteF ⟨acc, da, as, wipeR ρ4 us, S4, g4, rest, k4w, a1, a2, a3, nd, a4, by omega, hgo, hout⟩
    · cases hgo
  · have e : i = ds.length := by omega
    subst e
    rw [List.drop_length] at hgo
    cases hgo
    refine .inl ⟨stop _ (Nat.le_refl _), ?_⟩
    have kb : Ok G σ (back ρ1 ρe us) Si Hi gi := Ok.unwiped k1 ki hv sti.sh
    refine q _ rfl (.ref D) Si Hi gi (D :: as) kb ?_ ?_ nd sep
    · exact st1.trans sti
    · refine ⟨D, acc, da, as, rfl, ?_, hacc, rfl, each⟩
      rw [hout]
      simp
theorem co_lc {us : List Nat} {k : Nat} (gk : GOk G k) (hi : CI G tg iter di) (ok : BlkOk G.X.N G.X.env.scope scope own)
    (ht : ∀ (s : Shared) (H : Hp) (C : Addr) (cl : List (Str × Addr)) (fp : List Addr), CTg (G.blk s H scope C cl fp) tg vs dt)
    (hc : ∀ (s : Shared) (H : Hp) (C : Addr) (cl : List (Str × Addr)) (fp : List Addr), CTts (G.blk s H scope C cl fp) ifs dc)
    (he : ∀ (s : Shared) (H : Hp) (C : Addr) (cl : List (Str × Addr)) (fp : List Addr), CO (G.blk s H scope C cl fp) w elt de)
    (hus : own.map (·.2) = us := by rfl) (hv : ∀ i ∈ us, G.sh i = .s := by exact allS (by rfl)) (hu : ∀ i ∈ vs, i ∈ us := by decide) (hs : ∀ x, foldedSetIterable iter G.X.env x = pure x := by intro _; rfl) : CO G (.l w) (.ListComp elt [⟨tg, iter, ifs, 0⟩] scope pos) (EM.lc us di dt dc de) := by
  obtain ⟨wi, p, q⟩ := hi.ex
  subst hus
  exact ⟨_, pe_lc gk.calm gk.nd p ok (fun s H C cl fp => (ht s H C cl fp).can) (fun s H C cl fp => (hc s H C cl fp).can) (fun s H C cl fp => (he s H C cl fp).can) hs, rg_lc q hv hu⟩
/-- name = [..] on one line -/
theorem cs_setLc (i : Nat) {y : Str} {py spos : Pos} {us : List Nat} {k : Nat} (gk : GOk G k) (hi : CI G tg iter di) (ok : BlkOk G.X.N G.X.env.scope scope own)
    (ht : ∀ (s : Shared) (H : Hp) (C : Addr) (cl : List (Str × Addr)) (fp : List Addr), CTg (G.blk s H scope C cl fp) tg vs dt)
    (hc : ∀ (s : Shared) (H : Hp) (C : Addr) (cl : List (Str × Addr)) (fp : List Addr), CTts (G.blk s H scope C cl fp) ifs dc)
    (he : ∀ (s : Shared) (H : Hp) (C : Addr) (cl : List (Str × Addr)) (fp : List Addr), CO (G.blk s H scope C cl fp) w elt de)
    (hsw : swapsWith (.ListComp elt [⟨tg, iter, ifs, 0⟩] scope pos) (some (.Name y py)) spos.line G.X.env = pure true)
    (hy : G.X.N[i]? = some y := by rfl) (hw : G.sh i = .l w := by rfl) (hfx : i ∉ G.fx := by exact nfx (by rfl)) (hyl : G.X.env.scope.names.lookup y = some .local := by rfl)
    (hus : own.map (·.2) = us := by rfl) (hv : ∀ i ∈ us, G.sh i = .s := by exact allS (by rfl)) (hu : ∀ i ∈ vs, i ∈ us := by decide) (hs : ∀ x, foldedSetIterable iter G.X.env x = pure x := by intro _; rfl) :
    CS G (.Assign [.Name y py] (.ListComp elt [⟨tg, iter, ifs, 0⟩] scope pos) spos) (SM.set i (EM.lc us di dt dc de)) := by
  obtain ⟨wi, p, q⟩ := hi.ex
  subst hus
  exact ⟨_, ps_setLc gk.calm gk.nd hy hyl hsw p ok (fun s H C cl fp => (ht s H C cl fp).can) (fun s H C cl fp => (hc s H C cl fp).can) (fun s H C cl fp => (he s H C cl fp).can) hs, rs_set (List.getElem?_eq_some_iff.mp hy).1 hw hfx (rg_lc q hv hu)⟩
end
end Cl
namespace Cl
open PySem PySem.Spec PyProof.Rows L2
/-! ### reading own slots: for the time of an expression all is shared -/
mutual
def imm : D → Bool
  | .v _ => true
  | .tup ds => imms ds
  | .lst _ => false
  | .dK _ _ => false
  | .dT _ _ => false
  | .obj _ _ _ => false
  | .scr _ => false
  | .ktup ds => imms ds
def imms : List D → Bool
  | [] => true
  | d :: ds => imm d && imms ds
end
def immO : Sh → D → Bool
  | .s, d => imm d
  | .l w, .lst ds => ds.all (immO w)
  | .k w, .dK _ ds => ds.all (immO w)
  | .t w, .dT _ ds => ds.all (immO w)
  | _, _ => false
def notTup (u : HO) : Prop := (∀ xs, u ≠ .tup xs) ∧ ∀ o xs, u ≠ .frz o (.tup xs)
noncomputable def joinP (S H : Hp) (A : Addr → Prop) : Hp := fun b => open Classical in if A b then H b else S b
noncomputable def cutP (S : Hp) (A : Addr → Prop) : Hp := fun b => open Classical in if A b then none else S b
section
variable {S H S' H' : Hp} {A : Addr → Prop} {b : Addr}
theorem joinP_mem (h : A b) : joinP S H A b = H b := by
  unfold joinP
  rw [if_pos h]
theorem joinP_out (h : ¬ A b) : joinP S H A b = S b := by
  unfold joinP
  rw [if_neg h]
theorem cutP_mem (h : A b) : cutP S A b = none := by
  unfold cutP
  rw [if_pos h]
theorem cutP_out (h : ¬ A b) : cutP S A b = S b := by
  unfold cutP
  rw [if_neg h]
theorem cutP_sub : Same (cutP S A) S := fun b o e => by
  by_cases h : A b
  · rw [cutP_mem h] at e
    cases e
  · rw [cutP_out h] at e
    exact e
end
mutual
theorem Rep.cut {K : PySem.W.Frag} {S : Hp} {A : Addr → Prop} (n : ∀ b, A b → ∀ u, S b = some u → notTup u) : ∀ {x : V} {d : D}, imm d = true → Rep K S x d → Rep K (cutP S A) x d
  | x, .v y, _, h => h
  | x, .tup ds, e, h => by
    obtain ⟨a, xs, h1, h2, h3⟩ := h
    refine ⟨a, xs, h1, ?_, Reps.cut n e h3⟩
    rw [cutP_out fun z => (n a z _ h2).1 xs rfl]
    exact h2
  | x, .lst _, e, _ => by cases e
  | x, .dK _ _, e, _ => by cases e
  | x, .dT _ _, e, _ => by cases e
  | x, .obj _ _ _, e, _ => by cases e
  | x, .scr _, e, _ => by cases e
  | x, .ktup ds, e, h => by
    obtain ⟨a, xs, h1, h2, h3⟩ := h
    refine ⟨a, xs, h1, ?_, Reps.cut n e h3⟩
    rcases h2 with ⟨o, h2, hd⟩ | h2
    · refine .inl ⟨o, ?_, hd⟩
      rw [cutP_out fun z => (n a z _ h2).2 o xs rfl]
      exact h2
    · exact .inr h2
theorem Reps.cut {K : PySem.W.Frag} {S : Hp} {A : Addr → Prop} (n : ∀ b, A b → ∀ u, S b = some u → notTup u) : ∀ {xs : List V} {ds : List D}, imms ds = true → Reps K S xs ds → Reps K (cutP S A) xs ds
  | xs, [], _, h => h
  | xs, d :: ds, e, h => by
    obtain ⟨y, ys, h1, h2, h3⟩ := h
    have e' : (imm d && imms ds) = true := e
    obtain ⟨e1, e2⟩ := Bool.and_eq_true_iff.mp e'
    exact ⟨y, ys, h1, Rep.cut n e1 h2, Reps.cut n e2 h3⟩
end
theorem Each.cut {P Q : V → D → List Addr → Prop} {t : D → Bool} : ∀ {xs : List V} {ds : List D} {as : List Addr}, ds.all t = true → Each P xs ds as → (∀ x d bs, t d = true → P x d bs → Q x d bs) → Each Q xs ds as
  | [], [], as, _, h, _ => h
  | x :: xs, d :: ds, as, e, h, f => by
    obtain ⟨a1, a2, h0, h1, h2⟩ := h
    rw [List.all_cons] at e
    obtain ⟨e1, e2⟩ := Bool.and_eq_true_iff.mp e
    exact ⟨a1, a2, h0, f x d a1 e1 h1, Each.cut e2 h2 f⟩
  | [], _ :: _, _, _, h, _ => h.elim
  | _ :: _, [], _, _, h, _ => h.elim
theorem Own.cut {K : PySem.W.Frag} {S H : Hp} {A : Addr → Prop} (n : ∀ b, A b → ∀ u, S b = some u → notTup u) : ∀ {w : Sh} {x : V} {d : D} {as : List Addr}, immO w d = true → Own K S H w x d as → Own K (cutP S A) H w x d as
  | .s, x, d, as, e, h => by
    unfold Own at h ⊢
    exact ⟨h.1, h.2.cut n e⟩
  | .l w, x, d, as, e, h => by
    unfold Own at h ⊢
    obtain ⟨a, xs, ds, as', h1, h2, h3, h4, h5⟩ := h
    subst h2
    exact ⟨a, xs, ds, as', h1, rfl, h3, h4, Each.cut e h5 fun x d bs e hp => Own.cut n e hp⟩
  | .k w, x, d, as, e, h => by
    unfold Own at h ⊢
    obtain ⟨a, kvs, ks, ds, as', h1, h2, h3, h4, h5, h6, h7⟩ := h
    subst h2
    exact ⟨a, kvs, ks, ds, as', h1, rfl, h3, h4, h5, h6, Each.cut e h7 fun x d bs e hp => Own.cut n e hp⟩
  | .t w, x, d, as, e, h => by
    unfold Own at h ⊢
    obtain ⟨a, kvs, ks, ds, as', h1, h2, h3, h4, h5, h6, h7⟩ := h
    subst h2
    exact ⟨a, kvs, ks, ds, as', h1, rfl, h3, h4, h5, h6, Each.cut e h7 fun x d bs e hp => Own.cut n e hp⟩
  | .o ws, x, d, as, e, h => by
    cases d <;> cases e
mutual
theorem Own.kind {K : PySem.W.Frag} {S H : Hp} : ∀ {w : Sh} {x : V} {d : D} {as : List Addr}, Own K S H w x d as → ∀ b ∈ as, ∀ u, H b = some u → notTup u
  | .s, x, d, as, h, b, hb => by
    unfold Own at h
    rw [h.1] at hb
    exact absurd hb (by simp)
  | .l w, x, d, as, h, b, hb => by
    unfold Own at h
    obtain ⟨a, xs, ds, as', h1, h2, h3, h4, h5⟩ := h
    subst h4
    rcases List.mem_cons.mp hb with rfl | z
    · intro u e
      rw [h3] at e
      cases e
      exact ⟨(fun _ q => by cases q), (fun _ _ q => by cases q)⟩
    · exact h5.mem (R := fun b => ∀ u, H b = some u → notTup u) (fun y d' bs hp b hb => Own.kind hp b hb) b z
  | .k w, x, d, as, h, b, hb => by
    unfold Own at h
    obtain ⟨a, kvs, ks, ds, as', h1, h2, h3, h4, h5, h6, h7⟩ := h
    subst h6
    rcases List.mem_cons.mp hb with rfl | z
    · intro u e
      rw [h3] at e
      cases e
      exact ⟨(fun _ q => by cases q), (fun _ _ q => by cases q)⟩
    · exact h7.mem (R := fun b => ∀ u, H b = some u → notTup u) (fun y d' bs hp b hb => Own.kind hp b hb) b z
  | .t w, x, d, as, h, b, hb => by
    unfold Own at h
    obtain ⟨a, kvs, ks, ds, as', h1, h2, h3, h4, h5, h6, h7⟩ := h
    subst h6
    rcases List.mem_cons.mp hb with rfl | z
    · intro u e
      rw [h3] at e
      cases e
      exact ⟨(fun _ q => by cases q), (fun _ _ q => by cases q)⟩
    · exact h7.mem (R := fun b => ∀ u, H b = some u → notTup u) (fun y d' bs hp b hb => Own.kind hp b hb) b z
  | .o ws, x, d, as, h, b, hb => by
    unfold Own at h
    obtain ⟨a, C, dx, fs, ns, ds, as', h1, h2, h3, h3', h4, h5, h6⟩ := h
    subst h5
    rcases List.mem_cons.mp hb with rfl | z
    · intro u e
      rw [h3] at e
      cases e
      exact ⟨(fun _ q => by cases q), (fun _ _ q => by cases q)⟩
    rcases List.mem_cons.mp z with rfl | z
    · intro u e
      rw [h3'] at e
      cases e
      exact ⟨(fun _ q => by cases q), (fun _ _ q => by cases q)⟩
    · exact Owns.kind h6 b z
theorem Owns.kind {K : PySem.W.Frag} {S H : Hp} : ∀ {ws : List Sh} {xs : List V} {ds : List D} {as : List Addr}, Owns K S H ws xs ds as → ∀ b ∈ as, ∀ u, H b = some u → notTup u
  | [], xs, ds, as, h, b, hb => by
    rw [h.2.2] at hb
    exact absurd hb (by simp)
  | w :: ws, xs, ds, as, h, b, hb => by
    obtain ⟨y, ys, d, ds', a1, a2, h1, h2, h3, h4, h5⟩ := h
    subst h3
    rcases List.mem_append.mp hb with z | z
    · exact Own.kind h4 b z
    · exact Owns.kind h5 b z
end
/-- the context in which nothing is own -/
abbrev Cc.pure (G : Cc) : Cc := { G with Om := [] }
theorem GOk.pure {G : Cc} {k : Nat} (h : GOk G k) : GOk G.pure k := ⟨h.nd, h.calm, h.tk, h.pass, h.room⟩
namespace EM
def lend (w : Sh) (den : EM D) : EM D := fun ρ => match den ρ with
  | some (.ok d, _) => if immO w d = true then some (.ok d, ρ) else none
  | _ => none
def lendB (den : EM Bool) : EM Bool := fun ρ => match den ρ with
  | some (.ok b, _) => some (.ok b, ρ)
  | _ => none
end EM
section
variable {G : Cc} {σ : St} {ρ ρ' : Rho} {S H S' H' : Hp} {g g' : Nat → List Addr} {e : Expr}
theorem Ok.kindI (k : Ok G σ ρ S H g) {a : Addr} (h : In g a) : ∀ u, H a = some u → notTup u := by
  obtain ⟨i, hi⟩ := h
  cases e : ρ[i]? with
  | none =>
    rw [k.emp i (by rw [e]; intro d q; cases q)] at hi
    exact absurd hi (by simp)
  | some od =>
    cases od with
    | none =>
      rw [k.emp i (by rw [e]; intro d q; cases q)] at hi
      exact absurd hi (by simp)
    | some d =>
      obtain ⟨v, _, ow⟩ := k.slot i d e
      exact ow.kind a hi
theorem Ok.lent (k : Ok G σ ρ S H g) : Ok G.pure σ ρ (joinP S H (In g)) H (fun _ => []) ∧ Same S (joinP S H (In g)) := by
  have sm : Same S (joinP S H (In g)) := fun b o e => by
    rw [joinP_out fun z => by rw [k.sepI z] at e; cases e]
    exact e
  refine ⟨⟨k.len, k.rlen, fun b o e => ?_, fun i d e => ?_, fun _ _ => rfl, fun _ => List.nodup_nil, fun i j _ a ha => absurd ha (by simp), fun i a ha => absurd ha (by simp)⟩, sm⟩
  · by_cases z : In g b
    · rw [joinP_mem z] at e
      exact e
    · rw [joinP_out z] at e
      exact k.sub b o e
  · obtain ⟨v, h1, h2⟩ := k.slot i d e
    exact ⟨v, h1, own_s (h2.rep sm fun b hb o q => by rw [joinP_mem ⟨i, hb⟩]; exact q)⟩
theorem Ok.unlent {g2 : Nat → List Addr} (k : Ok G σ ρ S H g) (k2 : Ok G.pure σ ρ' S' H' g2) {B : Addr → Prop} (st : Stp (joinP S H (In g)) H (In fun _ => []) S' H' B) : Ok G σ ρ (cutP S' (In g)) H' g ∧ Same S (cutP S' (In g)) ∧ (∀ b o, H b = some o → H' b = some o) ∧ ∀ b, In g b → ∀ u, S' b = some u → notTup u := by
  have no : ∀ b, ¬ In (fun _ => ([] : List Addr)) b := fun b ⟨_, h⟩ => absurd h (by simp)
  have hh : ∀ b o, H b = some o → H' b = some o := fun b o e => st.fr b o e (no b)
  have sm : Same S (cutP S' (In g)) := fun b o e => by
    have n : ¬ In g b := fun z => by
      rw [k.sepI z] at e
      cases e
    rw [cutP_out n]
    refine st.sh b o ?_
    rw [joinP_out n]
    exact e
  refine ⟨⟨k.len, k.rlen, fun b o e => k2.sub b o (cutP_sub b o e), fun i d e => ?_, k.emp, k.nd, k.dj, fun i a ha => cutP_mem ⟨i, ha⟩⟩, sm, hh, fun b hb u e => ?_⟩
  · obtain ⟨v, h1, h2⟩ := k.slot i d e
    exact ⟨v, h1, h2.mono sm fun a _ o q => hh a o q⟩
  · obtain ⟨o, ho⟩ := k.live hb
    have h1 := k2.sub b u e
    rw [hh b o ho] at h1
    cases h1
    exact k.kindI hb _ ho
theorem co_lend {w : Sh} {den : EM D} (h : CO G.pure w e den) : CO G w e (EM.lend w den) := by
  obtain ⟨t, p, q⟩ := h.ex
  refine ⟨t, p, fun σ ρ S H g k r ρ' hd Q qq px => ?_⟩
  unfold EM.lend at hd
  split at hd
  · rename_i d ρ1 e1
    split at hd
    · rename_i hi
      cases hd
      obtain ⟨kl, sl⟩ := k.lent
      refine q σ ρ _ H _ kl _ _ e1 Q (fun d' ed v S' H' g' bs k' st ow nd hb => ?_) fun c x e => nomatch e
      cases ed
      obtain ⟨ku, s1, hh, kd⟩ := k.unlent k' st
      have no : ∀ b, ¬ In (fun _ => ([] : List Addr)) b := fun b ⟨_, h⟩ => absurd h (by simp)
      refine qq d rfl v _ H' g bs ku ⟨s1, fun b o e _ => hh b o e, fun b o e => ?_, fun b hb' => ?_, fun b e => ?_⟩ (ow.cut kd hi) nd fun b hb' => ⟨?_, fun z => ?_⟩
      · have e2 := cutP_sub b o e
        rcases st.sf b o e2 with z | z | z
        · have n : ¬ In g b := fun y => by
            rw [cutP_mem y] at e
            cases e
          rw [joinP_out n] at z
          exact .inl z
        · exact .inr (.inl z)
        · exact absurd z (no b)
      · rcases hb' with z | z
        · exact .inl z
        · exact (st.af b (.inr z)).elim (fun y => absurd y (no b)) .inr
      · cases e2 : H b with
        | none => rfl
        | some o =>
          rw [hh b o e2] at e
          cases e
      · by_cases y : In g b
        · exact cutP_mem y
        · rw [cutP_out y]
          exact (hb b hb').1
      · obtain ⟨o, ho⟩ := k.live z
        rcases st.af b (.inr hb') with y | y
        · exact no b y
        · rw [y] at ho
          cases ho
    · cases hd
  · cases hd
theorem ce_lend {den : EM D} (h : CE G.pure e den) : CE G e (EM.lend .s den) := (co_lend h.co).ce
theorem ct_lend {den : EM Bool} (h : CT G.pure e den) : CT G e (EM.lendB den) := by
  obtain ⟨t, p, q⟩ := h.ex
  refine ⟨t, p, fun σ ρ S H g k r ρ' hd Q qq px => ?_⟩
  unfold EM.lendB at hd
  split at hd
  · rename_i d ρ1 e1
    cases hd
    obtain ⟨kl, sl⟩ := k.lent
    refine q σ ρ _ H _ kl _ _ e1 Q (fun d' ed b S' H' g' k' st rb => ?_) fun c x e => nomatch e
    cases ed
    obtain ⟨ku, s1, hh, kd⟩ := k.unlent k' st
    have no : ∀ b, ¬ In (fun _ => ([] : List Addr)) b := fun b ⟨_, h⟩ => absurd h (by simp)
    refine qq d rfl b _ H' g ku ⟨s1, fun b o e _ => hh b o e, fun b o e => ?_, fun b hb' => .inl hb', fun b e => ?_⟩ rb
    · have e2 := cutP_sub b o e
      rcases st.sf b o e2 with z | z | z
      · have n : ¬ In g b := fun y => by
          rw [cutP_mem y] at e
          cases e
        rw [joinP_out n] at z
        exact .inl z
      · exact .inr (.inl z)
      · exact absurd z (no b)
    · cases e2 : H b with
      | none => rfl
      | some o =>
        rw [hh b o e2] at e
        cases e
  · cases hd
end
end Cl
namespace Cl
open PySem PySem.Spec PyProof.Rows L2
/-! ### new lists -/
def ROL (K : PySem.W.Frag) (r : List V → Hp → VK → Prop) (f : List D → Option (List D)) : Prop :=
  ∀ S H xs ds c, Same S H → Reps K S xs ds → f ds = some c → ∀ Q : VK, (∀ zs S' H' p, Gr S H S' H' → Reps K S' zs c → H' p = none → Q (.ref p) (upd H' p (.lst zs))) → r xs H Q
theorem each_s {K : PySem.W.Frag} {S H : Hp} : ∀ {xs : List V} {ds : List D}, Reps K S xs ds → Each (Own K S H .s) xs ds []
  | xs, [], h => by
    rw [show xs = [] from h]
    rfl
  | xs, d :: ds, h => by
    obtain ⟨y, ys, rfl, h1, h2⟩ := h
    exact ⟨[], [], rfl, own_s h1, each_s h2⟩
namespace EM
def opl (f : List D → Option (List D)) (a : EM (List D)) : EM D := bind a fun ds => lift ((f ds).map D.lst)
end EM
section
variable {G : Cc} {σ : St} {ρ ρ' : Rho} {S H S' H' : Hp} {g g' : Nat → List Addr}
/-- a new list outside the slots -/
theorem new_own {p : Addr} {zs : List V} {ds : List D} (k : Ok G σ ρ S H g) (hp : H p = none) (r : Reps G.X.K S zs ds) : Ok G σ ρ S (upd H p (.lst zs)) g ∧ Stp S H (In g) S (upd H p (.lst zs)) (fun a => In g a ∨ a ∈ [p]) ∧ Own G.X.K S (upd H p (.lst zs)) (.l .s) (.ref p) (.lst ds) [p] ∧ (∀ b ∈ [p], S b = none ∧ ¬ In g b) := by
  have ng : ¬ In g p := fun z => by
    obtain ⟨o, ho⟩ := k.live z
    rw [hp] at ho
    cases ho
  have hh : ∀ b o, H b = some o → upd H p (.lst zs) b = some o := fun b o e => by
    rw [upd_ne (ne_of_none e hp)]
    exact e
  refine ⟨⟨k.len, k.rlen, k.sub.trans hh, fun i d e => ?_, k.emp, k.nd, k.dj, k.sep⟩, ⟨Same.refl _, fun b o e _ => hh b o e, fun b o e => .inl e, fun b h => ?_, fun b h => ?_⟩, ⟨p, zs, ds, [], rfl, rfl, upd_same, rfl, each_s r⟩, fun b hb => ?_⟩
  · obtain ⟨v, h1, h2⟩ := k.slot i d e
    exact ⟨v, h1, h2.mono (Same.refl _) fun a _ o q => hh a o q⟩
  · rcases h with h | h
    · exact .inl h
    · have e : b = p := by simpa using h
      subst e
      exact .inr hp
  · cases e : H b with
    | none => rfl
    | some o =>
      rw [hh b o e] at h
      cases h
  · have e : b = p := by simpa using hb
    subst e
    exact ⟨k.sub.free hp, ng⟩
theorem rgo_opl {r : List V → Hp → VK → Prop} {f : List D → Option (List D)} {t : TA} {da : EM (List D)} (hr : ROL G.X.K r f) (ha : RG G t (RepsR G) da) : RGo G (.l .s) (fun σ H Q => t σ H fun xs H1 => r xs H1 Q) (EM.opl f da) := by
  intro σ ρ S H g k rr ρ' hd Q q px
  refine ha.use k hd px fun d ρ1 h1 x S1 H1 g1 k1 st1 rx px1 => ?_
  obtain ⟨c, e1, rfl, rfl⟩ := lift_cases h1
  cases e2 : f d with
  | none =>
    rw [e2] at e1
    cases e1
  | some zs =>
    rw [e2] at e1
    cases e1
    refine hr S1 H1 x d zs k1.sub rx e2 Q fun ws S2 H2 p gr rz hp => ?_
    obtain ⟨a1, a2, a3, a4⟩ := new_own (k1.grow gr) hp rz
    exact q _ rfl _ S2 _ g1 [p] a1 ((st1.trans gr.stp).trans a2) a3 (by simp) a4
end
section
variable {G : Cc} {a b c e l : Expr} {es rest : List Expr} {da db dc : EM D} {dl : EM (List D)} {ta tb : EM Bool} {pos : Pos}
theorem co_list (ha : CA G es dl) : CO G (.l .s) (.List es pos) (EM.opl (fun ds => if ds.length ≤ 4096 then some ds else none) dl) := by
  obtain ⟨t, p, q⟩ := ha.ex
  refine ⟨_, pe_lst p, ?_⟩
  refine rgo_opl (r := fun xs H Q => xs.length ≤ sizeLine ∧ ∀ p, H p = none → Q (.ref p) (upd H p (.lst xs))) ?_ q
  intro S H xs ds c sb rx hc Q q
  dsimp only at hc
  split at hc
  · cases hc
    exact ⟨by rw [rx.len, sizeLine_eq]; omega, fun p hp => q xs S H p (Gr.refl sb) rx hp⟩
  · cases hc
theorem co_callTyL {T : String} {x : Str} {p : Pos} {r : List V → Hp → VK → Prop} {f : List D → Option (List D)} (hc : CallR G.X (.type T) r) (hr : ROL G.X.K r f) (hm : G.X.mg x = none) (ha : CA G (e :: es) dl) (hv : bootBuiltins x = some (.type T) := by decide +kernel) (hg : Gl G.X x := by rfl) (hn : x ≠ "__name__" := by decide)
    (hdb : (x == ("__debug__" : Str)) = false := by decide) (he : starEach (e :: es) G.X.env = (false, eval e G.X.env) :: starEach es G.X.env := by rfl) (hpl : (backTo pos (starEach es G.X.env)).any (·.1) = false := by rfl) : CO G (.l .s) (.Call (.Name x p) (e :: es) [] pos) (EM.opl f dl) := by
  obtain ⟨t, p, q⟩ := ha.ex
  exact ⟨_, pe_callTy hc hg hm hv p hn hdb he hpl, rgo_opl hr q⟩
theorem co_callBL {id : String} {x : Str} {p : Pos} {r : List V → Hp → VK → Prop} {f : List D → Option (List D)} (hc : CallR G.X (.builtin id) r) (hr : ROL G.X.K r f) (hm : G.X.mg x = none) (ha : CA G (e :: es) dl) (hv : bootBuiltins x = some (.builtin id) := by decide +kernel) (hg : Gl G.X x := by rfl) (hn : x ≠ "__name__" := by decide)
    (hdb : (x == ("__debug__" : Str)) = false := by decide) (he : starEach (e :: es) G.X.env = (false, eval e G.X.env) :: starEach es G.X.env := by rfl) (hpl : (backTo pos (starEach es G.X.env)).any (·.1) = false := by rfl) : CO G (.l .s) (.Call (.Name x p) (e :: es) [] pos) (EM.opl f dl) := by
  obtain ⟨t, p, q⟩ := ha.ex
  exact ⟨_, pe_callB hc hg hm hv p hn hdb he hpl, rgo_opl hr q⟩
end
/-! ### list(..), tuple(..) -/
def listOf (ds : List D) : Option (List D) := match ds with
  | [.tup xs] => some xs
  | [.lst xs] => some xs
  | [.scr ns] => some (ns.map fun i => D.int i)
  | [.ktup xs] => some xs
  | _ => none
theorem reps_ints {K : PySem.W.Frag} {S : Hp} (ns : List Int) : Reps K S (ns.map V.int) (ns.map fun i => D.int i) := by
  have := reps_atoms (K := K) (S := S) (vs := ns.map V.int)
  rw [List.map_map] at this
  exact this
theorem ro_listOf {K : PySem.W.Frag} : ROL K (fun xs H Q => ∃ p ys, xs = [.ref p] ∧ (SqL K H p ys ∨ SqT K H p ys) ∧ ∀ l, H l = none → Q (.ref l) (upd H l (.lst ys))) listOf := by
  intro S H xs ds c sb rx hc Q q
  unfold listOf at hc
  split at hc
  · cases hc
    obtain ⟨y, ys, rfl, ⟨a, zs, rfl, h1, h2⟩, r⟩ := rx
    rw [show ys = [] from r]
    exact ⟨a, zs, rfl, .inr (SqT.sm sb h1), fun l hl => q zs S H l (Gr.refl sb) h2 hl⟩
  · cases hc
    obtain ⟨y, ys, rfl, ⟨a, zs, rfl, h1, h2⟩, r⟩ := rx
    rw [show ys = [] from r]
    exact ⟨a, zs, rfl, .inl (.of (sb _ _ h1)), fun l hl => q zs S H l (Gr.refl sb) h2 hl⟩
  · cases hc
    obtain ⟨y, ys, rfl, ⟨a, rfl, h1⟩, r⟩ := rx
    rw [show ys = [] from r]
    exact ⟨a, _, rfl, .inl (same_seqL sb h1), fun l hl => q _ S H l (Gr.refl sb) (reps_ints _) hl⟩
  · cases hc
    obtain ⟨y, ys, rfl, ⟨a, zs, rfl, h1, h2⟩, r⟩ := rx
    rw [show ys = [] from r]
    exact ⟨a, zs, rfl, .inr (same_seqT sb h1.seq), fun l hl => q zs S H l (Gr.refl sb) h2 hl⟩
  · cases hc
def tupleOf (ds : List D) : Option D := match ds with
  | [.tup xs] => some (.tup xs)
  | [.lst xs] => some (.tup xs)
  | [.ktup xs] => some (.ktup xs)
  | _ => none
theorem ro_tupleOf {K : PySem.W.Frag} : ROn K (fun xs H Q => ∃ p ys, xs = [.ref p] ∧ ((SqL K H p ys ∧ ∀ l, H l = none → Q (.ref l) (upd H l (.tup ys))) ∨ (SqT K H p ys ∧ Q (.ref p) H))) tupleOf := by
  intro S H xs ds c sb rx hc Q q
  unfold tupleOf at hc
  split at hc
  · cases hc
    obtain ⟨y, ys, rfl, ⟨a, zs, rfl, h1, h2⟩, r⟩ := rx
    rw [show ys = [] from r]
    exact ⟨a, zs, rfl, .inr ⟨SqT.sm sb h1, q _ S H (Gr.refl sb) ⟨a, zs, rfl, h1, h2⟩⟩⟩
  · cases hc
    obtain ⟨y, ys, rfl, ⟨a, zs, rfl, h1, h2⟩, r⟩ := rx
    rw [show ys = [] from r]
    exact ⟨a, zs, rfl, .inl ⟨.of (sb _ _ h1), fun l hl => q _ _ _ (Gr.new sb hl) ⟨l, zs, rfl, upd_same, h2.mono (Gr.new (o := .tup zs) sb hl).sh⟩⟩⟩
  · cases hc
    obtain ⟨y, ys, rfl, ⟨a, zs, rfl, h1, h2⟩, r⟩ := rx
    rw [show ys = [] from r]
    exact ⟨a, zs, rfl, .inr ⟨same_seqT sb h1.seq, q _ S H (Gr.refl sb) ⟨a, zs, rfl, h1, h2⟩⟩⟩
  · cases hc
/-! ### isinstance -/
def tyName : D → Option String
  | .v .non => some "NoneType"
  | .v (.bl _) => some "bool"
  | .v (.int _) => some "int"
  | .v (.str _) => some "str"
  | .tup _ => some "tuple"
  | .lst _ => some "list"
  | .scr _ => some "list"
  | .dK _ _ => some "dict"
  | .dT _ _ => some "dict"
  | .ktup _ => some "tuple"
  | _ => none
theorem rep_ty {K : PySem.W.Frag} {S H : Hp} {x : V} {d : D} {n : String} (sb : Same S H) (r : Rep K S x d) (h : tyName d = some n) : TyX K H x (.type n) := by
  unfold tyName at h
  split at h
  · cases h; rw [show x = _ from r]; exact .base .non
  · cases h; rw [show x = _ from r]; exact .base (.bl _)
  · cases h; rw [show x = _ from r]; exact .base (.int _)
  · cases h; rw [show x = _ from r]; exact .base (.str _)
  · cases h
    obtain ⟨a, xs, rfl, h1, _⟩ := r
    exact .base (.tup (sb _ _ h1))
  · cases h
    obtain ⟨a, xs, rfl, h1, _⟩ := r
    exact .base (.lst (sb _ _ h1))
  · cases h
    obtain ⟨a, rfl, h1⟩ := r
    rcases h1 with (h1 | ⟨o, h1⟩) | ⟨o, its, n, h1, h2, _⟩
    · exact .base (.lst (sb _ _ h1))
    · exact .base (.frz (sb _ _ h1))
    · exact .kList h1 h2
  · cases h
    obtain ⟨a, kvs, rfl, h1, _⟩ := r
    exact .base (.dK (sb _ _ h1))
  · cases h
    obtain ⟨a, kvs, rfl, h1, _⟩ := r
    exact .base (.dT (sb _ _ h1))
  · cases h
    obtain ⟨a, xs, rfl, h1, _⟩ := r
    rcases h1 with ⟨o, h1, _⟩ | ⟨o, its, n, h1, h2, _⟩
    · exact .fTuple (sb _ _ h1)
    · exact .kTuple h1 h2
  · cases h
/-- the built-in types that are asked of -/
def isKind (n T : String) : Option Bool := match T with
  | "int" => if n = "int" ∨ n = "bool" then some true else if n ∈ ["NoneType", "str", "tuple", "list", "dict"] then some false else none
  | "bool" => if n = "bool" then some true else if n ∈ ["NoneType", "int", "str", "tuple", "list", "dict"] then some false else none
  | "str" => if n = "str" then some true else if n ∈ ["NoneType", "int", "bool", "tuple", "list", "dict"] then some false else none
  | "tuple" => if n = "tuple" then some true else if n ∈ ["NoneType", "int", "bool", "str", "list", "dict"] then some false else none
  | "list" => if n = "list" then some true else if n ∈ ["NoneType", "int", "bool", "str", "tuple", "dict"] then some false else none
  | "dict" => if n = "dict" then some true else if n ∈ ["NoneType", "int", "bool", "str", "tuple", "list"] then some false else none
  | _ => none
theorem isKind_kit {n T : String} {b : Bool} (h : isKind n T = some b) : kitB n T = some b := by
  unfold isKind at h
  split at h <;> first
    | cases h
    | (split at h
       · rename_i e
         first
         | (rcases e with e | e <;> (subst e; cases h; decide +kernel))
         | (subst e; cases h; decide +kernel)
       · split at h
         · rename_i e
           cases h
           simp only [List.mem_cons, List.not_mem_nil, or_false] at e
           first
           | (rcases e with e | e | e | e | e | e <;> (subst e; decide +kernel))
           | (rcases e with e | e | e | e | e <;> (subst e; decide +kernel))
         · cases h)
def isiD (ds : List D) : Option D := match ds with
  | [d, .v (.ty T)] => match tyName d with
    | some n => (isKind n T).map D.bl
    | none => none
  | _ => none
theorem ro_isi {K : PySem.W.Frag} : ROn K (rIsi K) isiD := by
  intro S H xs ds c sb rx hc Q q
  unfold isiD at hc
  split at hc
  · rename_i d T
    split at hc
    · rename_i n e1
      cases e2 : isKind n T with
      | none =>
        rw [e2] at hc
        cases hc
      | some b =>
        rw [e2] at hc
        cases hc
        obtain ⟨y, ys, rfl, h1, z, zs, rfl, h2, h3⟩ := rx
        rw [show zs = [] from h3, show z = _ from h2]
        exact ⟨y, .ty T, .type n, .type T, b, rfl, .ty T, rep_ty sb h1 e1, kit_ty (isKind_kit e2), q _ S H (Gr.refl sb) rfl⟩
    · cases hc
  · cases hc
/-! ### len -/
def lenD (ds : List D) : Option D := match ds with
  | [.tup xs] => some (.int xs.length)
  | [.lst xs] => some (.int xs.length)
  | [.v (.str s)] => if s.length ≤ 16777216 then some (.int s.length) else none
  | [.ktup xs] => some (.int xs.length)
  | _ => none
theorem ro_len {K : PySem.W.Frag} : ROn K (fun xs H Q => ∃ x n, xs = [x] ∧ LenV K x H n ∧ Q (.int n) H) lenD := by
  intro S H xs ds c sb rx hc Q q
  unfold lenD at hc
  split at hc
  · cases hc
    obtain ⟨y, ys, rfl, ⟨a, zs, rfl, h1, h2⟩, r⟩ := rx
    rw [show ys = [] from r]
    exact ⟨_, _, rfl, .inr ⟨zs, SqT.sm sb h1, rfl⟩, by rw [h2.len]; exact q _ S H (Gr.refl sb) rfl⟩
  · cases hc
    obtain ⟨y, ys, rfl, ⟨a, zs, rfl, h1, h2⟩, r⟩ := rx
    rw [show ys = [] from r]
    exact ⟨_, _, rfl, .inl ⟨zs, .of (sb _ _ h1), rfl⟩, by rw [h2.len]; exact q _ S H (Gr.refl sb) rfl⟩
  · split at hc
    · rename_i s hl
      cases hc
      obtain ⟨y, ys, rfl, h1, r⟩ := rx
      rw [show ys = [] from r, show y = _ from h1]
      exact ⟨_, _, rfl, ⟨by rw [sizeLine_eq]; exact hl, rfl⟩, q _ S H (Gr.refl sb) rfl⟩
    · cases hc
  · cases hc
    obtain ⟨y, ys, rfl, ⟨a, zs, rfl, h1, h2⟩, r⟩ := rx
    rw [show ys = [] from r]
    exact ⟨_, _, rfl, .inr ⟨zs, same_seqT sb h1.seq, rfl⟩, by rw [h2.len]; exact q _ S H (Gr.refl sb) rfl⟩
  · cases hc
/-! ### all, any, sum, abs, int, min, max -/
def allD (ds : List D) : Option D := match ds with
  | [.lst xs] => (asBls xs).map fun bs => .bl (bs.all id)
  | _ => none
def anyD (ds : List D) : Option D := match ds with
  | [.lst xs] => (asBls xs).map fun bs => .bl (bs.any id)
  | _ => none
theorem ro_all {K : PySem.W.Frag} : ROn K (rAll K) allD := by
  intro S H xs ds c sb rx hc Q q
  unfold allD at hc
  split at hc
  · rename_i zs
    cases e : asBls zs with
    | none =>
      rw [e] at hc
      cases hc
    | some bs =>
      rw [e] at hc
      cases hc
      obtain ⟨y, ys, rfl, ⟨a, ws, rfl, h1, h2⟩, r⟩ := rx
      rw [show ys = [] from r]
      rw [asBls_eq e] at h2
      rw [h2.atoms] at h1
      exact ⟨a, bs, rfl, .of (sb _ _ h1), q _ S H (Gr.refl sb) rfl⟩
  · cases hc
theorem ro_any {K : PySem.W.Frag} : ROn K (rAny K) anyD := by
  intro S H xs ds c sb rx hc Q q
  unfold anyD at hc
  split at hc
  · rename_i zs
    cases e : asBls zs with
    | none =>
      rw [e] at hc
      cases hc
    | some bs =>
      rw [e] at hc
      cases hc
      obtain ⟨y, ys, rfl, ⟨a, ws, rfl, h1, h2⟩, r⟩ := rx
      rw [show ys = [] from r]
      rw [asBls_eq e] at h2
      rw [h2.atoms] at h1
      exact ⟨a, bs, rfl, .of (sb _ _ h1), q _ S H (Gr.refl sb) rfl⟩
  · cases hc
def rSumA (K : PySem.W.Frag) : List V → Hp → VK → Prop := fun vs H Q => ∃ (a : Addr) (ns : List Int), vs = [V.ref a] ∧ (SqL K H a (ns.map V.int) ∨ SqT K H a (ns.map V.int)) ∧ Q (.int ns.sum) H
theorem cr_sumA {X : Cx} (hc : X.calm = true) : CallR X (.builtin "sum") (rSumA X.K) := by
  intro pins s σ H vs us Q I r h
  obtain ⟨a, ns, rfl, hs, q⟩ := h
  rcases hs with hs | hs
  · exact cr_sum hc pins s σ H _ us Q I r ⟨a, ns, rfl, hs, q⟩
  · obtain ⟨its, rv, ht, _⟩ := I.tuple hs
    rw [Vals.ref1 r]
    have hi := rv.ints
    obtain ⟨xs, hx⟩ := hi.allInts.items
    have hn : numsOf its.toArray.toList = ns := by rw [show its.toArray.toList = its from rfl, hi.numsOf]
    have ht2 : s.heap.IsTuple a its.toArray := ht
    rw [hx] at ht2 hn
    rw [nums_intItems] at hn
    refine PySem.W.ktm_sumG (I.ok.hd hc) ht2 fun h' tk t' hk => ⟨.int _, H, I.kept hk, ⟨_, rfl⟩, ?_⟩
    rw [preSum_eq, List.take_of_length_le (by simp), hn]
    exact q
def sumD (ds : List D) : Option D := match ds with
  | [.lst xs] => (asInts xs).map fun ns => .int ns.sum
  | [.tup xs] => (asInts xs).map fun ns => .int ns.sum
  | [.ktup xs] => (asInts xs).map fun ns => .int ns.sum
  | _ => none
theorem ro_sum {K : PySem.W.Frag} : ROn K (rSumA K) sumD := by
  intro S H xs ds c sb rx hc Q q
  unfold sumD at hc
  split at hc
  · rename_i zs
    cases e : asInts zs with
    | none =>
      rw [e] at hc
      cases hc
    | some bs =>
      rw [e] at hc
      cases hc
      obtain ⟨y, ys, rfl, ⟨a, ws, rfl, h1, h2⟩, r⟩ := rx
      rw [show ys = [] from r]
      rw [asInts_eq e] at h2
      rw [h2.atoms] at h1
      exact ⟨a, bs, rfl, .inl (.of (sb _ _ h1)), q _ S H (Gr.refl sb) rfl⟩
  · rename_i zs
    cases e : asInts zs with
    | none =>
      rw [e] at hc
      cases hc
    | some bs =>
      rw [e] at hc
      cases hc
      obtain ⟨y, ys, rfl, ⟨a, ws, rfl, h1, h2⟩, r⟩ := rx
      rw [show ys = [] from r]
      rw [asInts_eq e] at h2
      rw [h2.atoms] at h1
      exact ⟨a, bs, rfl, .inr (SqT.sm sb h1), q _ S H (Gr.refl sb) rfl⟩
  · rename_i zs
    cases e : asInts zs with
    | none =>
      rw [e] at hc
      cases hc
    | some bs =>
      rw [e] at hc
      cases hc
      obtain ⟨y, ys, rfl, ⟨a, ws, rfl, h1, h2⟩, r⟩ := rx
      rw [show ys = [] from r]
      rw [asInts_eq e] at h2
      have h3 := h1.seq
      rw [h2.atoms] at h3
      exact ⟨a, bs, rfl, .inr (same_seqT sb h3), q _ S H (Gr.refl sb) rfl⟩
  · cases hc
def absD (ds : List D) : Option D := match ds with
  | [.v (.int i)] => some (.int (if i < 0 then -i else i))
  | _ => none
theorem ro_abs {K : PySem.W.Frag} : ROn K (fun xs H Q => ∃ i, xs = [.int i] ∧ Q (.int (if i < 0 then -i else i)) H) absD := by
  intro S H xs ds c sb rx hc Q q
  unfold absD at hc
  split at hc
  · cases hc
    obtain ⟨y, ys, rfl, h1, r⟩ := rx
    rw [show ys = [] from r, show y = _ from h1]
    exact ⟨_, rfl, q _ S H (Gr.refl sb) rfl⟩
  · cases hc
def intD (ds : List D) : Option D := match ds with
  | [.v (.int i)] => some (.int i)
  | [.v (.bl b)] => some (.int (if b then 1 else 0))
  | _ => none
theorem ro_intD {K : PySem.W.Frag} : ROn K (fun xs H Q => (∃ i, xs = [.int i] ∧ Q (.int i) H) ∨ ∃ k, xs = [.bl k] ∧ Q (.int (if k then 1 else 0)) H) intD := by
  intro S H xs ds c sb rx hc Q q
  unfold intD at hc
  split at hc
  · cases hc
    obtain ⟨y, ys, rfl, h1, r⟩ := rx
    rw [show ys = [] from r, show y = _ from h1]
    exact .inl ⟨_, rfl, q _ S H (Gr.refl sb) rfl⟩
  · cases hc
    obtain ⟨y, ys, rfl, h1, r⟩ := rx
    rw [show ys = [] from r, show y = _ from h1]
    exact .inr ⟨_, rfl, q _ S H (Gr.refl sb) rfl⟩
  · cases hc
def max2D (ds : List D) : Option D := match ds with
  | [.v (.int i), .v (.int j)] => some (.int (if j > i then j else i))
  | _ => none
def min2D (ds : List D) : Option D := match ds with
  | [.v (.int i), .v (.int j)] => some (.int (if j < i then j else i))
  | _ => none
theorem ro_max2 {K : PySem.W.Frag} : ROn K (fun xs H Q => ∃ i j, xs = [.int i, .int j] ∧ Q (.int (if j > i then j else i)) H) max2D := by
  intro S H xs ds c sb rx hc Q q
  unfold max2D at hc
  split at hc
  · cases hc
    obtain ⟨y, ys, rfl, h1, z, zs, rfl, h2, r⟩ := rx
    rw [show zs = [] from r, show y = _ from h1, show z = _ from h2]
    exact ⟨_, _, rfl, q _ S H (Gr.refl sb) rfl⟩
  · cases hc
theorem ro_min2 {K : PySem.W.Frag} : ROn K (fun xs H Q => ∃ i j, xs = [.int i, .int j] ∧ Q (.int (if j < i then j else i)) H) min2D := by
  intro S H xs ds c sb rx hc Q q
  unfold min2D at hc
  split at hc
  · cases hc
    obtain ⟨y, ys, rfl, h1, z, zs, rfl, h2, r⟩ := rx
    rw [show zs = [] from r, show y = _ from h1, show z = _ from h2]
    exact ⟨_, _, rfl, q _ S H (Gr.refl sb) rfl⟩
  · cases hc
end Cl
namespace Cl
open PySem PySem.Spec PyProof.Rows L2
/-! ### an own list is changed -/
theorem each_reps {K : PySem.W.Frag} {S H : Hp} : ∀ {xs : List V} {ds : List D} {as : List Addr}, Each (Own K S H .s) xs ds as → as = [] ∧ Reps K S xs ds
  | [], [], as, h => ⟨h, rfl⟩
  | x :: xs, d :: ds, as, h => by
    obtain ⟨a1, a2, rfl, h1, h2⟩ := h
    obtain ⟨e, r⟩ := each_reps h2
    exact ⟨by rw [h1.ss.1, e] <;> rfl, x, xs, rfl, h1.ss.2, r⟩
  | [], _ :: _, _, h => h.elim
  | _ :: _, [], _, h => h.elim
section
variable {G : Cc} {σ : St} {ρ ρ' : Rho} {S H S' H' : Hp} {g g' : Nat → List Addr}
/-- one object of a slot's own part is written -/
theorem Ok.wr {i : Nat} {v : V} {d d' : D} {a : Addr} {o' : HO} (k : Ok G σ ρ S H g) (e : ρ[i]? = some (some d)) (hv : σ[i]? = some (some v)) (ha : a ∈ g i) (ow : Own G.X.K S (upd H a o') (G.sh i) v d' (g i)) :
    Ok G σ (ρ.set i (some d')) S (upd H a o') g ∧ Stp S H (In g) S (upd H a o') (In g) := by
  have hi : i < G.X.N.length := by
    rw [← k.rlen]
    exact (List.getElem?_eq_some_iff.mp e).1
  have hS : S a = none := k.sep i a ha
  have k2 := k.mut (S' := S) (H' := upd H a o') (d := d') (bs := g i) hi hv (fun b u e => by
      rw [upd_ne fun z => by rw [z, hS] at e; cases e]
      exact k.sub b u e) (Same.refl S) (fun j hj b hb u e => by
      rw [upd_ne fun z => k.dj j i hj b hb (by rw [z]; exact ha)]
      exact e) (fun j _ b hb => k.sep j b hb) ow (k.nd i) fun b hb => ⟨k.sep i b hb, fun j hj => k.dj i j (Ne.symm hj) b hb⟩
  have eg : (fun j => if j = i then g i else g j) = g := by
    funext j
    by_cases h : j = i
    · rw [if_pos h, h]
    · rw [if_neg h]
  rw [eg] at k2
  refine ⟨k2, Same.refl S, fun b u e n => ?_, fun b u e => .inl e, fun b h => .inl h, fun b h => ?_⟩
  · rw [upd_ne fun z => n (by rw [z]; exact ⟨i, ha⟩)]
    exact e
  · by_cases z : b = a
    · rw [z, upd_same] at h
      cases h
    · rw [upd_ne z] at h
      exact h
theorem slotL {i : Nat} {ds : List D} (k : Ok G σ ρ S H g) (hs : G.sh i = .l .s) (e : ρ[i]? = some (some (.lst ds))) : ∃ a xs, σ[i]? = some (some (.ref a)) ∧ H a = some (.lst xs) ∧ Reps G.X.K S xs ds ∧ g i = [a] ∧
    ∀ ds' xs', Reps G.X.K S xs' ds' → Ok G σ (ρ.set i (some (.lst ds'))) S (upd H a (.lst xs')) g ∧ Stp S H (In g) S (upd H a (.lst xs')) (In g) := by
  obtain ⟨v, h1, h2⟩ := k.slot i _ e
  rw [show G.Om.getD i .s = .l .s from hs] at h2
  obtain ⟨a, xs, ds', as', rfl, ed, h3, h4, h5⟩ := h2
  cases ed
  obtain ⟨rfl, r⟩ := each_reps h5
  refine ⟨a, xs, h1, h3, r, h4, fun ds' xs' r' => k.wr e h1 (by rw [h4]; simp) ?_⟩
  rw [hs, h4]
  exact ⟨a, xs', ds', [], rfl, rfl, upd_same, rfl, each_s r'⟩
theorem slotK {i : Nat} {ks : List Key} {ds : List D} (k : Ok G σ ρ S H g) (hs : G.sh i = .k .s) (e : ρ[i]? = some (some (.dK ks ds))) : ∃ a kvs, σ[i]? = some (some (.ref a)) ∧ H a = some (.dK kvs) ∧ kvs.map (·.1) = ks ∧ ks.Nodup ∧ Reps G.X.K S (kvs.map (·.2)) ds ∧ g i = [a] ∧
    ∀ kvs' ds', (kvs'.map (·.1)).Nodup → Reps G.X.K S (kvs'.map (·.2)) ds' → Ok G σ (ρ.set i (some (.dK (kvs'.map (·.1)) ds'))) S (upd H a (.dK kvs')) g ∧ Stp S H (In g) S (upd H a (.dK kvs')) (In g) := by
  obtain ⟨v, h1, h2⟩ := k.slot i _ e
  rw [show G.Om.getD i .s = .k .s from hs] at h2
  obtain ⟨a, kvs, ks', ds', as', rfl, ed, h3, h4, h5, h6, h7⟩ := h2
  cases ed
  obtain ⟨rfl, r⟩ := each_reps h7
  refine ⟨a, kvs, h1, h3, h4, h5, r, h6, fun kvs' ds' nd r' => k.wr e h1 (by rw [h6]; simp) ?_⟩
  rw [hs, h6]
  exact ⟨a, kvs', _, ds', [], rfl, rfl, upd_same, rfl, nd, rfl, each_s r'⟩
theorem slotT {i : Nat} {ks : List (List Key)} {ds : List D} (k : Ok G σ ρ S H g) (hs : G.sh i = .t .s) (e : ρ[i]? = some (some (.dT ks ds))) : ∃ a kvs, σ[i]? = some (some (.ref a)) ∧ H a = some (.dT kvs) ∧ kvs.map (·.1) = ks ∧ ks.Nodup ∧ Reps G.X.K S (kvs.map (·.2)) ds ∧ g i = [a] ∧
    ∀ kvs' ds', (kvs'.map (·.1)).Nodup → Reps G.X.K S (kvs'.map (·.2)) ds' → Ok G σ (ρ.set i (some (.dT (kvs'.map (·.1)) ds'))) S (upd H a (.dT kvs')) g ∧ Stp S H (In g) S (upd H a (.dT kvs')) (In g) := by
  obtain ⟨v, h1, h2⟩ := k.slot i _ e
  rw [show G.Om.getD i .s = .t .s from hs] at h2
  obtain ⟨a, kvs, ks', ds', as', rfl, ed, h3, h4, h5, h6, h7⟩ := h2
  cases ed
  obtain ⟨rfl, r⟩ := each_reps h7
  refine ⟨a, kvs, h1, h3, h4, h5, r, h6, fun kvs' ds' nd r' => k.wr e h1 (by rw [h6]; simp) ?_⟩
  rw [hs, h6]
  exact ⟨a, kvs', _, ds', [], rfl, rfl, upd_same, rfl, nd, rfl, each_s r'⟩
end
namespace EM
/-- a method of an own list: the arguments, then the list is changed -/
def modL (i : Nat) (f : List D → List D → Option (D × List D)) (da : EM (List D)) : EM D := bind (get i) fun _ => bind da fun as ρ => match ρ[i]? with
  | some (some (.lst ds)) => match f as ds with
    | some (r, ds') => some (.ok r, ρ.set i (some (.lst ds')))
    | none => none
  | _ => none
end EM
/-- a list's method by values -/
def ROM (K : PySem.W.Frag) (r : V → List V → Hp → VK → Prop) (f : List D → List D → Option (D × List D)) : Prop :=
  ∀ S H a xs ds vs as c ds', Same S H → S a = none → H a = some (.lst xs) → Reps K S xs ds → Reps K S vs as → f as ds = some (c, ds') → ∀ Q : VK, (∀ v xs', Rep K S v c → Reps K S xs' ds' → Q v (upd H a (.lst xs'))) → r (.ref a) vs H Q
theorem get_cases {i : Nat} {ρ ρ' : Rho} {r : Rs D} (h : EM.get i ρ = some (r, ρ')) : ∃ d, ρ[i]? = some (some d) ∧ r = .ok d ∧ ρ' = ρ := by
  unfold EM.get at h
  split at h
  · cases h
    exact ⟨_, by assumption, rfl, rfl⟩
  · cases h
section
variable {G : Cc} {a b c e : Expr} {es rest : List Expr} {da db dc : EM D} {dl : EM (List D)} {pos cpos apos p : Pos}
theorem rg_modL {i : Nat} {T : String} {r : V → List V → Hp → VK → Prop} {f : List D → List D → Option (D × List D)} {t : TA} (hs : G.sh i = .l .s) (hT : T = "list") (hr : ROM G.X.K r f) (q : RG G t (RepsR G) dl) : RG G (tBM G.X.K T r (tVar i) t) (RepR G) (EM.modL i f dl) := by
  intro σ ρ S H g k rr ρ' hden Q qq px
  subst hT
  rcases bind_cases hden with ⟨d0, ρ0, e0, hden2⟩ | ⟨c, xx, e0, _⟩
  · obtain ⟨d, e1, ed, rfl⟩ := get_cases e0
    cases ed
    obtain ⟨v, z1, z2⟩ := k.slot i d0 e1
    rw [show G.Om.getD i .s = .l .s from hs] at z2
    obtain ⟨a, xs, _, _, rfl, _, z3, _⟩ := z2
    refine ⟨.ref a, z1, .inl ⟨rfl, xs, .of z3⟩, ?_⟩
    refine q.use k hden2 px fun as ρ1 h1 vs S1 H1 g1 k1 st1 rv px1 => ?_
    split at h1
    · rename_i ds e3
      split at h1
      · rename_i c ds' e4
        cases h1
        obtain ⟨a', xs1, y1, y2, y3, y4, y5⟩ := slotL k1 hs e3
        rw [z1] at y1
        cases y1
        refine hr S1 H1 a xs1 ds vs as c ds' k1.sub (k1.sep i a (by rw [y4]; simp)) y2 y3 rv e4 Q fun v xs' rc rx => ?_
        obtain ⟨k2, st2⟩ := y5 ds' xs' rx
        exact qq c rfl v S1 _ g1 k2 (st1.trans st2) rc
      · cases h1
    · cases h1
  · obtain ⟨_, _, e, _⟩ := get_cases e0
    cases e
theorem rg_modL0 {i : Nat} {T : String} {r : V → List V → Hp → VK → Prop} {f : List D → List D → Option (D × List D)} (hs : G.sh i = .l .s) (hT : T = "list") (hr : ROM G.X.K r f) : RG G (tBM0 G.X.K T r (tVar i)) (RepR G) (EM.modL i f (EM.ret [])) := by
  intro σ ρ S H g k rr ρ' hden Q qq px
  subst hT
  rcases bind_cases hden with ⟨d0, ρ0, e0, hden2⟩ | ⟨c, xx, e0, _⟩
  · obtain ⟨d, e1, ed, rfl⟩ := get_cases e0
    cases ed
    obtain ⟨v, z1, z2⟩ := k.slot i d0 e1
    rw [show G.Om.getD i .s = .l .s from hs] at z2
    obtain ⟨a, xs, _, _, rfl, _, z3, _⟩ := z2
    refine ⟨.ref a, z1, .inl ⟨rfl, xs, .of z3⟩, ?_⟩
    rcases bind_cases hden2 with ⟨as0, ρ2, e2, h1⟩ | ⟨c, xx, e2, _⟩
    case inr => cases e2
    cases e2
    split at h1
    · rename_i ds e3
      split at h1
      · rename_i c ds' e4
        cases h1
        obtain ⟨a', xs1, y1, y2, y3, y4, y5⟩ := slotL k hs e3
        rw [z1] at y1
        cases y1
        refine hr S H a xs1 ds [] [] c ds' k.sub (k.sep i a (by rw [y4]; simp)) y2 y3 rfl e4 Q fun v xs' rc rx => ?_
        obtain ⟨k2, st2⟩ := y5 ds' xs' rx
        exact qq c rfl v S _ g k2 st2 rc
      · cases h1
    · cases h1
  · obtain ⟨_, _, e, _⟩ := get_cases e0
    cases e
theorem ce_modL {id : String} {name x : Str} {r : V → List V → Hp → VK → Prop} {f : List D → List D → Option (D × List D)} (i : Nat) (slot : Slot "list" name id) (hty : typeOf (.builtin id) = pure (.type "method_descriptor")) (hm : MtR G.X id r) (hr : ROM G.X.K r f) (ha : CA G (e :: es) dl)
    (hN : G.X.N[i]? = some x := by rfl) (hs : G.sh i = .l .s := by rfl) (hv : Vis G.X.env.scope x := by first | exact Or.inl rfl | exact Or.inr (Or.inl rfl) | exact Or.inr (Or.inr rfl)) (hd : (x == ("__debug__" : Str)) = false := by decide) (hcd : (x == ("__classdict__" : Str)) = false := by decide)
    (hbase : attributeBase (.Name x p) name G.X.env (eval (.Name x p) G.X.env) = eval (.Name x p) G.X.env := by rfl)
    (hfew : ((backTo cpos (starEach (e :: es) G.X.env)).all (fun x => !x.1) && (backToKw cpos (keywordEach [] G.X.env)).all (fun x => x.1.isSome)
      && decide ((e :: es).length + ([] : List Keyword).length + (if ([] : List Keyword).isEmpty then 0 else 1) < 30)) = true := by rfl)
    (hline : (apos.endLine == cpos.line) = true := by rfl) (hst : starEach (e :: es) G.X.env = (false, eval e G.X.env) :: starEach es G.X.env := by rfl) (hplain : (backTo cpos (starEach es G.X.env)).any (·.1) = false := by rfl) :
    CE G (.Call (.Attribute (.Name x p) name apos) (e :: es) [] cpos) (EM.modL i f dl) := by
  obtain ⟨t, pa, q⟩ := ha.ex
  exact ⟨_, pe_bm PySem.F.plainAttrs_list slot hty hm (pe_var hN hv hd hcd) pa hbase hfew hline hst hplain, rg_modL hs rfl hr q⟩
theorem ce_modL0 {id : String} {name x : Str} {r : V → List V → Hp → VK → Prop} {f : List D → List D → Option (D × List D)} (i : Nat) (slot : Slot "list" name id) (hty : typeOf (.builtin id) = pure (.type "method_descriptor")) (hm : MtR G.X id r) (hr : ROM G.X.K r f)
    (hN : G.X.N[i]? = some x := by rfl) (hs : G.sh i = .l .s := by rfl) (hv : Vis G.X.env.scope x := by first | exact Or.inl rfl | exact Or.inr (Or.inl rfl) | exact Or.inr (Or.inr rfl)) (hd : (x == ("__debug__" : Str)) = false := by decide) (hcd : (x == ("__classdict__" : Str)) = false := by decide)
    (hbase : attributeBase (.Name x p) name G.X.env (eval (.Name x p) G.X.env) = eval (.Name x p) G.X.env := by rfl) (hline : (apos.endLine == cpos.line) = true := by rfl) :
    CE G (.Call (.Attribute (.Name x p) name apos) [] [] cpos) (EM.modL i f (EM.ret [])) :=
  ⟨_, pe_bm0 PySem.F.plainAttrs_list slot hty hm (pe_var hN hv hd hcd) hbase hline, rg_modL0 hs rfl hr⟩
end
def appendF (as ds : List D) : Option (D × List D) := match as with
  | [d] => if ds.length < 4000000 then some (.non, ds ++ [d]) else none
  | _ => none
theorem ro_append {K : PySem.W.Frag} : ROM K rAppend appendF := by
  intro S H a xs ds vs as c ds' sb hS hH rx rv hf Q q
  unfold appendF at hf
  split at hf
  · rename_i d
    split at hf
    · rename_i hl
      cases hf
      obtain ⟨y, ys, rfl, h1, h2⟩ := rv
      rw [show ys = [] from h2]
      exact ⟨a, xs, y, rfl, rfl, hH, by rw [rx.len, sizeLine_eq]; omega, q _ _ rfl (rx.app ⟨y, [], rfl, h1, rfl⟩)⟩
    · cases hf
  · cases hf
def extendF (as ds : List D) : Option (D × List D) := match as with
  | [.lst es] => if ds.length + es.length < 4000000 then some (.non, ds ++ es) else none
  | _ => none
theorem ro_extend {K : PySem.W.Frag} : ROM K rExtend extendF := by
  intro S H a xs ds vs as c ds' sb hS hH rx rv hf Q q
  unfold extendF at hf
  split at hf
  · rename_i es
    split at hf
    · rename_i hl
      cases hf
      obtain ⟨y, ys, rfl, ⟨b, zs, rfl, h1, h2⟩, h3⟩ := rv
      rw [show ys = [] from h3]
      exact ⟨a, b, xs, zs, rfl, rfl, hH, sb _ _ h1, by rw [rx.len, h2.len, sizeLine_eq]; omega, q _ _ rfl (rx.app h2)⟩
    · cases hf
  · cases hf
def popF (as ds : List D) : Option (D × List D) := match as with
  | [] => (ds[ds.length - 1]?).map fun d => (d, ds.dropLast)
  | _ => none
theorem Reps.dropLast {K : PySem.W.Frag} {S : Hp} {xs : List V} {ds : List D} (h : Reps K S xs ds) : Reps K S xs.dropLast ds.dropLast := by
  rw [List.dropLast_eq_take, List.dropLast_eq_take, h.len]
  exact h.take _
theorem ro_pop {K : PySem.W.Frag} : ROM K rPop popF := by
  intro S H a xs ds vs as c ds' sb hS hH rx rv hf Q q
  unfold popF at hf
  split at hf
  · cases e : ds[ds.length - 1]? with
    | none =>
      rw [e] at hf
      cases hf
    | some d =>
      rw [e] at hf
      cases hf
      obtain ⟨y, h1, h2⟩ := rx.get e
      rw [show vs = [] from rv]
      exact ⟨a, xs, y, rfl, rfl, hH, by rw [rx.len]; exact h1, q _ _ h2 rx.dropLast⟩
  · cases hf
def popAtF (as ds : List D) : Option (D × List D) := match as with
  | [.v (.int k)] => if 0 ≤ k ∧ k < ds.length ∧ ds.length < 4000000 then (ds[k.toNat]?).map fun d => (d, ds.eraseIdx k.toNat) else none
  | _ => none
theorem ro_popAt {K : PySem.W.Frag} : ROM K rPopAt popAtF := by
  intro S H a xs ds vs as c ds' sb hS hH rx rv hf Q q
  unfold popAtF at hf
  split at hf
  · rename_i k
    split at hf
    · rename_i hk
      cases e : ds[k.toNat]? with
      | none =>
        rw [e] at hf
        cases hf
      | some d =>
        rw [e] at hf
        cases hf
        obtain ⟨y, h1, h2⟩ := rx.get e
        obtain ⟨z, zs, rfl, h3, h4⟩ := rv
        rw [show zs = [] from h4, show z = _ from h3]
        exact ⟨a, xs, k, k.toNat, y, rfl, rfl, hH, by omega, by omega, PySem.seqIndex_of hk.1 (by rw [rx.len]; omega), h1, q _ _ h2 (rx.erase _)⟩
    · cases hf
  · cases hf
/-! ### x[k] = e, of an own list -/
namespace SM
def setL (i : Nat) (de : EM D) (dk : EM D) : SM := bind de fun d => bind (EM.get i) fun _ => bind dk fun kd ρ => match ρ[i]?, kd with
  | some (some (.lst ds)), .v (.int k) => (ixN ds.length k).map fun j => (.nx, ρ.set i (some (.lst (ds.set j d))))
  | _, _ => none
/-- x[k] op= e -/
def augL (f : D → D → Option D) (i : Nat) (dk : EM D) (de : EM D) : SM := bind (EM.get i) fun _ => bind dk fun kd => bind (EM.bind (EM.get i) fun l => EM.lift (ixSeq l kd)) fun old => bind de fun d => bind (EM.lift (f old d)) fun new ρ => match ρ[i]?, kd with
  | some (some (.lst ds)), .v (.int k) => (ixN ds.length k).map fun j => (.nx, ρ.set i (some (.lst (ds.set j new))))
  | _, _ => none
end SM
section
variable {G : Cc} {k e : Expr} {dk de : EM D} {p pos pos' : Pos}
theorem cs_setL (i : Nat) {x : Str} (he : CE G e de) (hk : CE G k dk) (hN : G.X.N[i]? = some x := by rfl) (hs : G.sh i = .l .s := by rfl) (hv : Vis G.X.env.scope x := by first | exact Or.inl rfl | exact Or.inr (Or.inl rfl) | exact Or.inr (Or.inr rfl)) (hd : (x == ("__debug__" : Str)) = false := by decide) (hcd : (x == ("__classdict__" : Str)) = false := by decide)
    (ha : ∀ v, assign (.Subscript (.Name x p) k pos') G.X.env v = (do
      let ov ← holding [v] (eval (.Name x p) G.X.env)
      let iv ← holding [v, ov] (eval k G.X.env)
      standAt pos'
      holding [v, ov, iv] (setItem ov iv v)
      release [v, ov, iv] []) := by intro _; rfl)
    (hsw : swapsWithSole [.Subscript (.Name x p) k pos'] e pos.line G.X.env = pure false := by rfl) (hw : swappedStores [.Subscript (.Name x p) k pos'] e G.X.env = pure none := by rfl) (h1 : (assignEach [.Subscript (.Name x p) k pos'] G.X.env).map (·.2) = [assign (.Subscript (.Name x p) k pos') G.X.env] := by rfl) :
    CS G (.Assign [.Subscript (.Name x p) k pos'] e pos) (SM.setL i de dk) := by
  obtain ⟨t, pe, q⟩ := he.ex
  obtain ⟨t', pk, q'⟩ := hk.ex
  refine ⟨_, ps_asg pe (pg_sub (pe_var hN hv hd hcd) pk set_list ha) hsw hw h1, fun σ ρ S H g kk fl ρ' hden E px => ?_⟩
  refine q.useS kk hden px fun d ρ1 h0 v S1 H1 g1 k1 st1 rv p1 => ?_
  rcases sbind_cases h0 with ⟨d0, ρ0, e0, h1⟩ | ⟨c, xx, e0, _⟩
  · obtain ⟨d2, e1, ed, rfl⟩ := get_cases e0
    cases ed
    obtain ⟨v0, z1, z2⟩ := k1.slot i d0 e1
    rw [show G.Om.getD i .s = .l .s from hs] at z2
    obtain ⟨a, xs, _, _, rfl, _, z3, _⟩ := z2
    refine ⟨.ref a, z1, ?_⟩
    refine q'.useS k1 h1 p1 fun kd ρ2 h2 y S2 H2 g2 k2 st2 ry p2 => ?_
    split at h2
    · rename_i ds kk' e3
      cases ej : ixN ds.length kk' with
      | none =>
        rw [ej] at h2
        cases h2
      | some j =>
        rw [ej] at h2
        cases h2
        obtain ⟨a', xs2, y1, y2, y3, y4, y5⟩ := slotL k2 hs e3
        rw [z1] at y1
        cases y1
        obtain ⟨k3, st3⟩ := y5 (ds.set j d) (xs2.set j v) (Reps.set (rv.mono st2.sh) j y3)
        exact ⟨a, xs2, kk', j, rfl, ry, y2, by rw [y3.len]; exact ej, p2 σ S2 _ g2 k3 st3 .refl⟩
    · cases h2
  · obtain ⟨_, _, e, _⟩ := get_cases e0
    cases e
theorem pget_list {X : Cx} : PGet X (rIxL X.K) := by
  intro pins s σ H o i ov iv Q I ro ri h
  obtain ⟨p, xs, k, z, rfl, rfl, hq, he, q⟩ := h
  cases ro
  obtain ⟨t, rfl⟩ := ri
  obtain ⟨its, r, pl, hz⟩ := I.list hq
  obtain ⟨j, h1, h2, h3, h4, h5⟩ := atI_get he
  obtain ⟨w, ew, rw'⟩ := r.get h2
  have hl := r.length
  have hn := line63
  have fin : EP X pins σ Q w s := ⟨z, H, I, rw', q⟩
  by_cases h0 : 0 ≤ k
  · have hj : k.toNat = j := by
      rw [PySem.seqIndex_of h0 h5] at h1
      exact Option.some.inj h1
    exact wpAny_getItem_list pl.isList h0 (by omega) (by rw [hj]; simpa using ew) fin
  · have hj : (k + (its.toArray.size : Int)).toNat = j := by
      rw [seqIndex_neg (by omega) h4] at h1
      rw [List.size_toArray, ← hl]
      exact Option.some.inj h1
    exact wpAny_getItem_list_neg pl.isList (by omega) (by rw [List.size_toArray] <;> omega) (by omega) (by rw [hj]; simpa using ew) fin
theorem cs_augL (i : Nat) {x : Str} {op : Operator} {r : TIp} {f : D → D → Option D} (hp : PIp G.X op r) (hr : RO2 G.X.K r f) (hk : CE G k dk) (he : CE G e de) (hN : G.X.N[i]? = some x := by rfl) (hs : G.sh i = .l .s := by rfl) (hv : Vis G.X.env.scope x := by first | exact Or.inl rfl | exact Or.inr (Or.inl rfl) | exact Or.inr (Or.inr rfl)) (hd : (x == ("__debug__" : Str)) = false := by decide) (hcd : (x == ("__classdict__" : Str)) = false := by decide)
    (ha : ∀ ov iv new, augStore k ov iv new = (do holding [new, ov, iv] (setItem ov iv new); release [new, ov, iv] []; pure .next) := by intros; rfl) :
    CS G (.AugAssign (.Subscript (.Name x p) k pos') op e pos) (SM.augL f i dk de) := by
  obtain ⟨t, pe, q⟩ := he.ex
  obtain ⟨t', pk, q'⟩ := hk.ex
  refine ⟨_, ps_augS (pe_var hN hv hd hcd) pk pget_list pe hp set_list ha, fun σ ρ S H g kk fl ρ' hden E px => ?_⟩
  rcases sbind_cases hden with ⟨d0, ρ0, e0, h1⟩ | ⟨c, xx, e0, _⟩
  · obtain ⟨d2, e1, ed, rfl⟩ := get_cases e0
    cases ed
    obtain ⟨v0, z1, z2⟩ := kk.slot i d0 e1
    rw [show G.Om.getD i .s = .l .s from hs] at z2
    obtain ⟨a, xs, _, _, rfl, _, z3, _⟩ := z2
    refine ⟨.ref a, z1, ?_⟩
    refine q'.useS kk h1 px fun kd ρ2 h2 y S2 H2 g2 k2 st2 ry p2 => ?_
    rcases sbind_cases h2 with ⟨old, ρ3, e3, h3⟩ | ⟨c, xx, e3, rfl⟩
    · rcases bind_cases e3 with ⟨l, ρ4, e4, e5⟩ | ⟨c, xx, e4, z⟩
      · obtain ⟨d4, e6, ed4, rfl⟩ := get_cases e4
        cases ed4
        obtain ⟨old', e7, eo, rfl⟩ := lift_cases e5
        cases eo
        unfold ixSeq at e7
        have hl : ∃ ds kz, l = .lst ds ∧ kd = .int kz ∧ atI ds kz = some old := by
          obtain ⟨v1, w1, w2⟩ := k2.slot i l e6
          rw [show G.Om.getD i .s = .l .s from hs] at w2
          obtain ⟨_, _, ds1, _, _, el, _⟩ := w2
          subst el
          split at e7
          · rename_i q1
            cases q1
          · rename_i ds kz q1
            cases q1
            exact ⟨_, _, rfl, rfl, e7⟩
          · rename_i q1
            cases q1
          · cases e7
        obtain ⟨ds, kz, rfl, rfl, eat⟩ := hl
        obtain ⟨a', xs2, y1, y2, y3, y4, y5⟩ := slotL k2 hs e6
        rw [z1] at y1
        cases y1
        obtain ⟨zo, b1, b2⟩ := y3.at eat
        refine ⟨a, xs2, kz, zo, rfl, ry, .of y2, b1, ?_⟩
        refine q.useS k2 h3 p2 fun d ρ5 h5 v S5 H5 g5 k5 st5 rv p5 => ?_
        rcases sbind_cases h5 with ⟨new, ρ6, e6', h6⟩ | ⟨c, xx, e6', _⟩
        · obtain ⟨new', en, enw, rfl⟩ := lift_cases e6'
          cases enw
          refine hr S5 H5 zo v old d new k5.sub (b2.mono st5.sh) rv en _ fun w S6 H6 gr6 rw6 => ?_
          have k6 := k5.grow gr6
          split at h6
          · rename_i ds6 kk6 e8 e9
            cases e9
            cases ej : ixN ds6.length kz with
            | none =>
              rw [ej] at h6
              cases h6
            | some j =>
              rw [ej] at h6
              cases h6
              obtain ⟨a', xs6, y1, y2', y3', y4', y5'⟩ := slotL k6 hs e8
              rw [z1] at y1
              cases y1
              obtain ⟨k7, st7⟩ := y5' (ds6.set j new) (xs6.set j w) (Reps.set rw6 j y3')
              exact ⟨a, xs6, kz, j, rfl, ry, y2', by rw [y3'.len]; exact ej, p5 σ S6 _ g5 k7 (gr6.stp.trans st7) .refl⟩
          · cases h6
        · obtain ⟨_, _, e, _⟩ := lift_cases e6'
          cases e
      · obtain ⟨_, _, e, _⟩ := get_cases e4
        cases e
    · rcases bind_cases e3 with ⟨l, ρ4, e4, e5⟩ | ⟨c', xx', e4, z⟩
      · obtain ⟨_, _, e, _⟩ := lift_cases e5
        cases e
      · obtain ⟨_, _, e, _⟩ := get_cases e4
        cases e
  · obtain ⟨_, _, e, _⟩ := get_cases e0
    cases e
end
end Cl
namespace Cl
open PySem PySem.Spec PyProof.Rows L2
/-! ### slices -/
namespace EM
def part (d : EM D) : EM (Option Int) := bind d fun x => match x with
  | .v (.int i) => ret (some i)
  | _ => lift none
def slL (f : D → Option Int → Option Int → Option (List D)) (de : EM D) (dl du : EM (Option Int)) : EM D := bind de fun d => bind dl fun lo => bind du fun hi => lift ((f d lo hi).map D.lst)
def slS (f : D → Option Int → Option Int → Option D) (de : EM D) (dl du : EM (Option Int)) : EM D := bind de fun d => bind dl fun lo => bind du fun hi => lift (f d lo hi)
end EM
structure CPa (G : Cc) (e : Option Expr) (den : EM (Option Int)) : Prop where
  ex : ∃ t, PO G.X e t ∧ RG G t (fun _ _ b a => b = a) den
def cutD (xs : List D) (lo hi : Option Int) : List D := (xs.drop (HT.sIx xs.length 0 lo)).take (HT.sIx xs.length xs.length hi - HT.sIx xs.length 0 lo)
theorem Reps.cutD {K : PySem.W.Frag} {S : Hp} {xs : List V} {ds : List D} (h : Reps K S xs ds) (lo hi : Option Int) : Reps K S (cutV xs lo hi) (cutD ds lo hi) := by
  unfold cutV Cl.cutD
  rw [h.len]
  exact (h.drop _).take _
section
variable {G : Cc} {e : Expr} {lo hi : Option Expr} {de : EM D} {dl du : EM (Option Int)} {pos p2 : Pos}
theorem cpa_none : CPa G none (EM.ret none) := ⟨_, po_none, fun σ ρ S H g k r ρ' hd Q q px => by
  cases hd
  exact q none rfl none S H g k .refl rfl⟩
theorem cpa_some {e : Expr} (h : CE G e de) : CPa G (some e) (EM.part de) := by
  obtain ⟨t, p, q⟩ := h.ex
  refine ⟨_, po_some p, fun σ ρ S H g k r ρ' hd Q qq px => ?_⟩
  refine q.use k hd px fun d ρ1 h1 x S1 H1 g1 k1 st1 rx px1 => ?_
  split at h1
  · rename_i i
    cases h1
    exact ⟨i, rx, qq _ rfl _ S1 H1 g1 k1 st1 rfl⟩
  · obtain ⟨_, e, _⟩ := lift_cases h1
    cases e
def slList (d : D) (lo hi : Option Int) : Option (List D) := match d with
  | .lst xs => some (cutD xs lo hi)
  | .scr ns => some (cutD (ns.map fun i => D.int i) lo hi)
  | _ => none
def slTup (d : D) (lo hi : Option Int) : Option D := match d with
  | .tup xs => some (.tup (cutD xs lo hi))
  | _ => none
theorem cut_whole {α : Type} {xs : List α} {lo hi : Option Int} (h : HT.sIx xs.length 0 lo = 0 ∧ HT.sIx xs.length xs.length hi = xs.length) : (xs.drop (HT.sIx xs.length 0 lo)).take (HT.sIx xs.length xs.length hi - HT.sIx xs.length 0 lo) = xs := by
  rw [h.1, h.2]
  simp
/-- a slice of a list: a new list -/
theorem co_slL (he : CE G e de) (hl : CPa G lo dl) (hu : CPa G hi du) : CO G (.l .s) (.Subscript e (.Slice lo hi none p2) pos) (EM.slL slList de dl du) := by
  obtain ⟨t, p, q⟩ := he.ex
  obtain ⟨t1, p1, q1⟩ := hl.ex
  obtain ⟨t2, p2, q2⟩ := hu.ex
  refine ⟨_, pe_slice sl_list p p1 p2, fun σ ρ S H g k r ρ' hd Q qq px => ?_⟩
  refine q.use k hd px fun d ρ1 h1 x S1 H1 g1 k1 st1 rx px1 => ?_
  refine q1.use k1 h1 px1 fun l ρ2 h2 l' S2 H2 g2 k2 st2 el px2 => ?_
  refine q2.use k2 h2 px2 fun u ρ3 h3 u' S3 H3 g3 k3 st3 eu px3 => ?_
  subst el eu
  obtain ⟨c, e1, rfl, rfl⟩ := lift_cases h3
  have rx3 := (rx.mono st2.sh).mono st3.sh
  unfold slList at e1
  split at e1
  · rename_i ds
    cases e1
    obtain ⟨a, xs, rfl, z1, z2⟩ := rx3
    refine ⟨a, xs, rfl, .of (k3.sub _ _ z1), fun p hp => ?_⟩
    obtain ⟨a1, a2, a3, a4⟩ := new_own k3 hp (z2.cutD l' u')
    exact qq _ rfl _ S3 _ g3 [p] a1 (((st1.trans st2).trans st3).trans a2) a3 (by simp) a4
  · rename_i ns
    cases e1
    obtain ⟨a, rfl, z1⟩ := rx3
    refine ⟨a, _, rfl, same_seqL k3.sub z1, fun p hp => ?_⟩
    obtain ⟨a1, a2, a3, a4⟩ := new_own k3 hp ((reps_ints ns).cutD l' u')
    exact qq _ rfl _ S3 _ g3 [p] a1 (((st1.trans st2).trans st3).trans a2) a3 (by simp) a4
  · cases e1
theorem ce_slT (he : CE G e de) (hl : CPa G lo dl) (hu : CPa G hi du) : CE G (.Subscript e (.Slice lo hi none p2) pos) (EM.slS slTup de dl du) := by
  obtain ⟨t, p, q⟩ := he.ex
  obtain ⟨t1, p1, q1⟩ := hl.ex
  obtain ⟨t2, p2, q2⟩ := hu.ex
  refine ⟨_, pe_slice sl_tupA p p1 p2, fun σ ρ S H g k r ρ' hd Q qq px => ?_⟩
  refine q.use k hd px fun d ρ1 h1 x S1 H1 g1 k1 st1 rx px1 => ?_
  refine q1.use k1 h1 px1 fun l ρ2 h2 l' S2 H2 g2 k2 st2 el px2 => ?_
  refine q2.use k2 h2 px2 fun u ρ3 h3 u' S3 H3 g3 k3 st3 eu px3 => ?_
  subst el eu
  obtain ⟨c, e1, rfl, rfl⟩ := lift_cases h3
  have rx3 := (rx.mono st2.sh).mono st3.sh
  unfold slTup at e1
  split at e1
  · rename_i ds
    cases e1
    obtain ⟨a, xs, rfl, z1, z2⟩ := rx3
    refine ⟨a, xs, rfl, SqT.sm k3.sub z1, fun hw => ?_, fun hw p hp => ?_⟩
    · have e : cutD ds l' u' = ds := by
        unfold cutD
        rw [← z2.len]
        exact by
          have := hw
          rw [z2.len] at this ⊢
          exact cut_whole this
      rw [e] at qq
      exact qq _ rfl _ S3 H3 g3 k3 ((st1.trans st2).trans st3) ⟨a, xs, rfl, z1, z2⟩
    · have gr := Gr.new (o := .tup (cutV xs l' u')) k3.sub hp
      exact qq _ rfl _ _ _ g3 (k3.grow gr) (((st1.trans st2).trans st3).trans gr.stp) ⟨p, _, rfl, upd_same, (z2.cutD l' u').mono gr.sh⟩
  · cases e1
/-- xs[::-1] -/
theorem co_revL {k : Nat} {p1 p2 p3 : Pos} (he : CE G e de) : CO G (.l .s) (.Subscript e (.Slice none none (some (.UnaryOp .USub (.Constant (.int 1) k p1) p2)) p3) pos) (EM.bind de fun d => match d with
    | .lst xs => EM.ret (.lst xs.reverse)
    | _ => EM.lift none) := by
  obtain ⟨t, p, q⟩ := he.ex
  refine ⟨_, pe_revL p, fun σ ρ S H g k r ρ' hd Q qq px => ?_⟩
  refine q.use k hd px fun d ρ1 h1 x S1 H1 g1 k1 st1 rx px1 => ?_
  split at h1
  · rename_i ds
    cases h1
    obtain ⟨a, xs, rfl, z1, z2⟩ := rx
    refine ⟨a, xs, rfl, .of (k1.sub _ _ z1), fun p hp => ?_⟩
    obtain ⟨a1, a2, a3, a4⟩ := new_own k1 hp z2.rev
    exact qq _ rfl _ S1 _ g1 [p] a1 (st1.trans a2) a3 (by simp) a4
  · obtain ⟨_, e, _⟩ := lift_cases h1
    cases e
end
/-! ### list(range(..)) -/
section
variable {G : Cc} {a b e : Expr} {da db : EM D} {p p2 pos pos2 : Pos}
theorem rgV_reps {K : PySem.W.Frag} {S : Hp} (i j : Int) : Reps K S (rgV i j) (rangeD i j) := by
  have : rangeD i j = (rgV i j).map D.v := by
    unfold rgV rangeD
    rw [List.map_map]
    rfl
  rw [this]
  exact reps_atoms
def rangeL1 (d : D) : Option (List D) := match d with
  | .v (.int j) => if j ≤ 16777216 ∧ -16777216 ≤ j then some (rangeD 0 j) else none
  | _ => none
theorem co_listRange1 {k : Nat} (gk : GOk G k) (h : CE G a da) (hm : G.X.mg "list" = none) (hm2 : G.X.mg "range" = none) (hg : Gl G.X "list" := by rfl) (hg2 : Gl G.X "range" := by rfl) (na : starEach [a] G.X.env = (false, eval a G.X.env) :: starEach [] G.X.env := by rfl)
    (nb : starEach [.Call (.Name "range" p2) [a] [] pos2] G.X.env = (false, eval (.Call (.Name "range" p2) [a] [] pos2) G.X.env) :: starEach [] G.X.env := by rfl) :
    CO G (.l .s) (.Call (.Name "list" p) [.Call (.Name "range" p2) [a] [] pos2] [] pos) (EM.bind da fun d => EM.lift ((rangeL1 d).map D.lst)) := by
  obtain ⟨t, p, q⟩ := h.ex
  refine ⟨_, pe_listRg gk.calm hg hm (prg_1 hg2 hm2 p na) nb, fun σ ρ S H g k r ρ' hd Q qq px => ?_⟩
  refine q.use k hd px fun d ρ1 h1 x S1 H1 g1 k1 st1 rx px1 => ?_
  obtain ⟨c, e1, rfl, rfl⟩ := lift_cases h1
  unfold rangeL1 at e1
  split at e1
  · rename_i j
    split at e1
    · rename_i hj
      cases e1
      refine ⟨j, rx, ⟨by omega, by omega, by omega, by omega, by omega⟩, fun p hp => ?_⟩
      obtain ⟨a1, a2, a3, a4⟩ := new_own k1 hp (rgV_reps 0 j)
      exact qq _ rfl _ S1 _ g1 [p] a1 (st1.trans a2) a3 (by simp) a4
    · cases e1
  · cases e1
end
/-! ### dicts -/
def keyD : D → Option Key
  | .v (.int i) => some (.inl i)
  | .v (.str s) => some (.inr s)
  | _ => none
def keysD : List D → Option (List Key)
  | [] => some []
  | d :: ds => match keyD d, keysD ds with
    | some k, some ks => some (k :: ks)
    | _, _ => none
theorem keyD_rep {K : PySem.W.Frag} {S : Hp} {x : V} {d : D} {k : Key} (r : Rep K S x d) (e : keyD d = some k) : x = kV k := by
  unfold keyD at e
  split at e
  · cases e
    exact r
  · cases e
    exact r
  · cases e
theorem keysD_rep {K : PySem.W.Frag} {S : Hp} : ∀ {xs : List V} {ds : List D} {ks : List Key}, Reps K S xs ds → keysD ds = some ks → xs = ks.map kV
  | xs, [], ks, r, e => by
    cases e
    exact r
  | xs, d :: ds, ks, r, e => by
    obtain ⟨y, ys, rfl, r1, r2⟩ := r
    unfold keysD at e
    split at e
    · rename_i k ks' e1 e2
      cases e
      rw [keyD_rep r1 e1, keysD_rep r2 e2]
      rfl
    · cases e
def lookD {κ : Type} [DecidableEq κ] : List κ → List D → κ → Option D
  | k :: ks, d :: ds, x => if k = x then some d else lookD ks ds x
  | _, _, _ => none
def putD {κ : Type} [DecidableEq κ] : List κ → List D → κ → D → List κ × List D
  | k :: ks, d :: ds, x, e => if k = x then (k :: ks, e :: ds) else ((k :: (putD ks ds x e).1), (d :: (putD ks ds x e).2))
  | _, _, x, e => ([x], [e])
theorem lookD_val {κ : Type} [DecidableEq κ] {K : PySem.W.Frag} {S : Hp} {x : κ} : ∀ {kvs : List (κ × V)} {ds : List D}, Reps K S (kvs.map (·.2)) ds → (lookD (kvs.map (·.1)) ds x = none → valV kvs x = none) ∧ ∀ d, lookD (kvs.map (·.1)) ds x = some d → ∃ v, valV kvs x = some v ∧ Rep K S v d
  | [], ds, r => by
    refine ⟨fun _ => rfl, fun d e => ?_⟩
    cases ds <;> cases e
  | (k, v) :: kvs, [], r => by cases r
  | (k, v) :: kvs, d :: ds, r => by
    obtain ⟨y, ys, e, r1, r2⟩ := r
    simp only [List.map_cons, List.cons.injEq] at e
    obtain ⟨rfl, rfl⟩ := e
    obtain ⟨h1, h2⟩ := lookD_val (x := x) r2
    show ((if k = x then some d else lookD (kvs.map (·.1)) ds x) = none → _) ∧ ∀ d', (if k = x then some d else lookD (kvs.map (·.1)) ds x) = some d' → _
    by_cases hk : k = x
    · rw [if_pos hk]
      exact ⟨fun z => (by cases z), fun d' z => (by
        cases z
        exact ⟨v, valV_pos hk, r1⟩)⟩
    · rw [if_neg hk, valV_neg hk]
      exact ⟨h1, h2⟩
theorem putD_val {κ : Type} [DecidableEq κ] {K : PySem.W.Frag} {S : Hp} {x : κ} {v : V} {e : D} (re : Rep K S v e) : ∀ {kvs : List (κ × V)} {ds : List D}, (kvs.map (·.1)).Nodup → Reps K S (kvs.map (·.2)) ds → (putK kvs x v).map (·.1) = (putD (kvs.map (·.1)) ds x e).1 ∧ Reps K S ((putK kvs x v).map (·.2)) (putD (kvs.map (·.1)) ds x e).2 ∧ ((putK kvs x v).map (·.1)).Nodup ∧ (∀ y ∈ (putK kvs x v).map (·.1), y = x ∨ y ∈ kvs.map (·.1))
  | [], ds, nd, r => by
    have h : putK ([] : List (κ × V)) x v = [(x, v)] := rfl
    rw [h]
    cases ds with
    | nil => exact ⟨rfl, ⟨v, [], rfl, re, rfl⟩, by simp, by simp⟩
    | cons d ds =>
      obtain ⟨y, ys, e', _⟩ := r
      cases e'
  | (k, u) :: kvs, [], nd, r => by cases r
  | (k, u) :: kvs, d :: ds, nd, r => by
    obtain ⟨y, ys, e', r1, r2⟩ := r
    simp only [List.map_cons, List.cons.injEq] at e'
    obtain ⟨rfl, rfl⟩ := e'
    rw [List.map_cons] at nd
    obtain ⟨n1, n2⟩ := List.nodup_cons.mp nd
    obtain ⟨h1, h2, h3, h4⟩ := putD_val (x := x) re n2 r2
    by_cases hk : k = x
    · subst hk
      have hp : putK ((k, u) :: kvs) k v = (k, v) :: kvs := by
        unfold putK
        rw [if_pos (by simp)]
        rw [List.map_cons, if_pos rfl]
        congr 1
        conv => rhs; rw [← List.map_id kvs]
        refine List.map_congr_left fun q hq => if_neg fun z => n1 ?_
        exact List.mem_map.mpr ⟨q, hq, z⟩
      rw [hp]
      refine ⟨?_, ?_, ?_, ?_⟩
      · show _ = (if k = k then (k :: kvs.map (·.1), e :: ds) else _).1
        rw [if_pos rfl]
        rfl
      · show Reps K S _ (if k = k then (k :: kvs.map (·.1), e :: ds) else _).2
        rw [if_pos rfl]
        exact ⟨v, _, rfl, re, r2⟩
      · exact nd
      · intro y hy
        exact .inr hy
    · have hp : putK ((k, u) :: kvs) x v = (k, u) :: putK kvs x v := by
        unfold putK
        by_cases ha : (kvs.any fun kv => decide (kv.1 = x)) = true
        · rw [if_pos (by simp only [List.any_cons, ha, Bool.or_true]), if_pos ha, List.map_cons, if_neg hk]
        · rw [if_neg (by simp only [List.any_cons, decide_eq_false hk, Bool.false_or]; exact ha), if_neg ha]
          rfl
      rw [hp]
      refine ⟨?_, ?_, ?_, ?_⟩
      · show k :: _ = (if k = x then (k :: kvs.map (·.1), e :: ds) else (k :: (putD (kvs.map (·.1)) ds x e).1, d :: (putD (kvs.map (·.1)) ds x e).2)).1
        rw [if_neg hk, h1]
      · show Reps K S _ (if k = x then (k :: kvs.map (·.1), e :: ds) else (k :: (putD (kvs.map (·.1)) ds x e).1, d :: (putD (kvs.map (·.1)) ds x e).2)).2
        rw [if_neg hk]
        exact ⟨u, _, rfl, r1, h2⟩
      · rw [List.map_cons]
        exact List.nodup_cons.mpr ⟨fun z => (h4 k z).elim hk n1, h3⟩
      · intro y hy
        rw [List.map_cons] at hy
        rcases List.mem_cons.mp hy with z | z
        · exact .inr (by rw [z]; simp)
        · rcases h4 y z with q | q
          · exact .inl q
          · exact .inr (List.mem_cons_of_mem _ q)
end Cl
namespace Cl
open PySem PySem.Spec PyProof.Rows L2 RT
section
variable {G : Cc} {a b c e i o : Expr} {es rest : List Expr} {da db de di do_ : EM D} {dl : EM (List D)} {pos cpos apos p pos' : Pos}
theorem new_dict {σ : St} {ρ : Rho} {S H : Hp} {g : Nat → List Addr} {p : Addr} {o : HO} (k : Ok G σ ρ S H g) (hp : H p = none) : Ok G σ ρ S (upd H p o) g ∧ Stp S H (In g) S (upd H p o) (fun a => In g a ∨ a ∈ [p]) ∧ (∀ b ∈ [p], S b = none ∧ ¬ In g b) := by
  have ng : ¬ In g p := fun z => by
    obtain ⟨o, ho⟩ := k.live z
    rw [hp] at ho
    cases ho
  have hh : ∀ b u, H b = some u → upd H p o b = some u := fun b u e => by
    rw [upd_ne (ne_of_none e hp)]
    exact e
  refine ⟨⟨k.len, k.rlen, k.sub.trans hh, fun i d e => ?_, k.emp, k.nd, k.dj, k.sep⟩, ⟨Same.refl _, fun b o e _ => hh b o e, fun b o e => .inl e, fun b h => ?_, fun b h => ?_⟩, fun b hb => ?_⟩
  · obtain ⟨v, h1, h2⟩ := k.slot i d e
    exact ⟨v, h1, h2.mono (Same.refl _) fun a _ o q => hh a o q⟩
  · rcases h with h | h
    · exact .inl h
    · have e : b = p := by simpa using h
      subst e
      exact .inr hp
  · cases e : H b with
    | none => rfl
    | some o =>
      rw [hh b o e] at h
      cases h
  · have e : b = p := by simpa using hb
    subst e
    exact ⟨k.sub.free hp, ng⟩
theorem co_dnewK : CO G (.k .s) (.Dict [] [] pos) (EM.ret (.dK [] [])) := ⟨_, pe_dnewK, fun σ ρ S H g k r ρ' hd Q q px => by
  cases hd
  intro p hp
  obtain ⟨k1, st, hb⟩ := new_dict (o := .dK []) k hp
  exact q _ rfl (.ref p) S _ g [p] k1 st ⟨p, [], [], [], [], rfl, rfl, upd_same, rfl, List.nodup_nil, rfl, rfl⟩ (by simp) hb⟩
theorem co_dnewT : CO G (.t .s) (.Dict [] [] pos) (EM.ret (.dT [] [])) := ⟨_, pe_dnewT, fun σ ρ S H g k r ρ' hd Q q px => by
  cases hd
  intro p hp
  obtain ⟨k1, st, hb⟩ := new_dict (o := .dT []) k hp
  exact q _ rfl (.ref p) S _ g [p] k1 st ⟨p, [], [], [], [], rfl, rfl, upd_same, rfl, List.nodup_nil, rfl, rfl⟩ (by simp) hb⟩
/-- what a dict holds -/
def dgetD (d y : D) : Option (Option D) := match d with
  | .dK ks ds => (keyD y).map fun k => lookD ks ds k
  | .dT ks ds => match y with
    | .tup ys => (keysD ys).map fun k => lookD ks ds k
    | _ => none
  | _ => none
theorem dget_rep {K : PySem.W.Frag} {S H : Hp} {x y : V} {d e : D} {r : Option D} (sb : Same S H) (rx : Rep K S x d) (ry : Rep K S y e) (h : dgetD d e = some r) : ∃ a, x = .ref a ∧ (r = none → DGet H a y none) ∧ ∀ c, r = some c → ∃ v, DGet H a y (some v) ∧ Rep K S v c := by
  unfold dgetD at h
  split at h
  · rename_i ks ds
    obtain ⟨a, kvs, rfl, h1, h2, h3⟩ := rx
    cases q : keyD e with
    | none =>
      rw [q] at h
      cases h
    | some k =>
      rw [q] at h
      cases h
      rw [keyD_rep ry q]
      subst h2
      obtain ⟨z1, z2⟩ := lookD_val (x := k) h3
      refine ⟨a, rfl, fun q => ?_, fun c q => ?_⟩
      · rw [← z1 q]
        exact DGet.k (sb _ _ h1)
      · obtain ⟨v, w1, w2⟩ := z2 c q
        refine ⟨v, ?_, w2⟩
        rw [← w1]
        exact DGet.k (sb _ _ h1)
  · rename_i ks ds
    obtain ⟨a, kvs, rfl, h1, h2, h3⟩ := rx
    split at h
    · rename_i ys
      cases q : keysD ys with
      | none =>
        rw [q] at h
        cases h
      | some k =>
        rw [q] at h
        cases h
        obtain ⟨b, zs, rfl, hb, hr⟩ := ry
        rw [keysD_rep hr q] at hb
        subst h2
        obtain ⟨z1, z2⟩ := lookD_val (x := k) h3
        refine ⟨a, rfl, fun q => ?_, fun c q => ?_⟩
        · rw [← z1 q]
          exact DGet.t (sb _ _ h1) (sb _ _ hb)
        · obtain ⟨v, w1, w2⟩ := z2 c q
          refine ⟨v, ?_, w2⟩
          rw [← w1]
          exact DGet.t (sb _ _ h1) (sb _ _ hb)
    · cases h
  · cases h
def ixDict (d y : D) : Option D := (dgetD d y).bind id
def inDict (y d : D) : Option D := (dgetD d y).map fun r => .bl r.isSome
def notInDict (y d : D) : Option D := (dgetD d y).map fun r => .bl (!r.isSome)
theorem hu_G {k : Nat} (gk : GOk G k) : G.X.A.units + 1 < cLine := hu_of gk.room
theorem ce_dget {k : Nat} (gk : GOk G k) (ho : CE G o do_) (hi : CE G i di) (hs : NoSl i := by exact fun _ _ => rfl) : CE G (.Subscript o i pos) (EM.op2 ixDict do_ di) := by
  obtain ⟨t, p, q⟩ := ho.ex
  obtain ⟨t', p', q'⟩ := hi.ex
  refine ⟨_, pe_dget (hu_G gk) p p' hs, rg_op2 (r := fun x y H Q => ∃ a v, x = .ref a ∧ DGet H a y (some v) ∧ Q v H) ?_ q q'⟩
  intro S H x y d e c sb rx ry hc Q qq
  unfold ixDict at hc
  cases h : dgetD d e with
  | none =>
    rw [h] at hc
    cases hc
  | some r =>
    rw [h] at hc
    have hc : r = some c := hc
    obtain ⟨a, rfl, _, h2⟩ := dget_rep sb rx ry h
    obtain ⟨v, h3, h4⟩ := h2 c hc
    exact ⟨a, v, rfl, h3, qq v S H (Gr.refl sb) h4⟩
theorem ro_inDict {K : PySem.W.Frag} : RO2 K (fun y x H Q => ∃ a o, x = .ref a ∧ DGet H a y o ∧ Q (.bl o.isSome) H) inDict := by
  intro S H y x e d c sb ry rx hc Q qq
  unfold inDict at hc
  cases h : dgetD d e with
  | none =>
    rw [h] at hc
    cases hc
  | some r =>
    rw [h] at hc
    cases hc
    obtain ⟨a, rfl, h1, h2⟩ := dget_rep sb rx ry h
    cases r with
    | none => exact ⟨a, none, rfl, h1 rfl, qq _ S H (Gr.refl sb) rfl⟩
    | some c =>
      obtain ⟨v, h3, h4⟩ := h2 c rfl
      exact ⟨a, some v, rfl, h3, qq _ S H (Gr.refl sb) rfl⟩
theorem ro_notInDict {K : PySem.W.Frag} : RO2 K (fun y x H Q => ∃ a o, x = .ref a ∧ DGet H a y o ∧ Q (.bl (!o.isSome)) H) notInDict := by
  intro S H y x e d c sb ry rx hc Q qq
  unfold notInDict at hc
  cases h : dgetD d e with
  | none =>
    rw [h] at hc
    cases hc
  | some r =>
    rw [h] at hc
    cases hc
    obtain ⟨a, rfl, h1, h2⟩ := dget_rep sb rx ry h
    cases r with
    | none => exact ⟨a, none, rfl, h1 rfl, qq _ S H (Gr.refl sb) rfl⟩
    | some c =>
      obtain ⟨v, h3, h4⟩ := h2 c rfl
      exact ⟨a, some v, rfl, h3, qq _ S H (Gr.refl sb) rfl⟩
theorem ce_din {k : Nat} (gk : GOk G k) (hi : CE G i di) (ho : CE G o do_) (hm : behindInMarks .In o = false := by rfl) : CE G (.Compare i [.In] [o] pos) (EM.op2 inDict di do_) := by
  obtain ⟨t, p, q⟩ := ho.ex
  obtain ⟨t', p', q'⟩ := hi.ex
  exact ⟨_, pe_cmp (pc_din (hu_G gk) p' p) hm, rg_op2 ro_inDict q' q⟩
theorem ct_din {k : Nat} (gk : GOk G k) (hi : CE G i di) (ho : CE G o do_) (hm : behindInMarks .In o = false := by rfl) : CT G (.Compare i [.In] [o] pos) (EM.tru (EM.op2 inDict di do_)) := by
  obtain ⟨t, p, q⟩ := ho.ex
  obtain ⟨t', p', q'⟩ := hi.ex
  exact ⟨_, pt_cmp (pc_din (hu_G gk) p' p) hm, rg_tru (rg_op2 ro_inDict q' q)⟩
theorem ce_dnin {k : Nat} (gk : GOk G k) (hi : CE G i di) (ho : CE G o do_) (hm : behindInMarks .NotIn o = false := by rfl) : CE G (.Compare i [.NotIn] [o] pos) (EM.op2 notInDict di do_) := by
  obtain ⟨t, p, q⟩ := ho.ex
  obtain ⟨t', p', q'⟩ := hi.ex
  exact ⟨_, pe_cmp (pc_dnotin (hu_G gk) p' p) hm, rg_op2 ro_notInDict q' q⟩
theorem ct_dnin {k : Nat} (gk : GOk G k) (hi : CE G i di) (ho : CE G o do_) (hm : behindInMarks .NotIn o = false := by rfl) : CT G (.Compare i [.NotIn] [o] pos) (EM.tru (EM.op2 notInDict di do_)) := by
  obtain ⟨t, p, q⟩ := ho.ex
  obtain ⟨t', p', q'⟩ := hi.ex
  exact ⟨_, pt_cmp (pc_dnotin (hu_G gk) p' p) hm, rg_tru (rg_op2 ro_notInDict q' q)⟩
end
namespace SM
/-- d[k] = v of an own dict: value, dict, key -/
def putK_ (i : Nat) (de dk : EM D) : SM := bind de fun d => bind (EM.get i) fun _ => bind dk fun kd ρ => match ρ[i]?, keyD kd with
  | some (some (.dK ks ds)), some k => if ks.length ≤ 1000000 then some (.nx, ρ.set i (some (.dK (putD ks ds k d).1 (putD ks ds k d).2))) else none
  | _, _ => none
def putT_ (i : Nat) (de dk : EM D) : SM := bind de fun d => bind (EM.get i) fun _ => bind dk fun kd ρ => match ρ[i]?, kd with
  | some (some (.dT ks ds)), .tup ys => match keysD ys with
    | some k => if ks.length ≤ 1000000 then some (.nx, ρ.set i (some (.dT (putD ks ds k d).1 (putD ks ds k d).2))) else none
    | none => none
  | _, _ => none
/-- x op= e -/
def aug (f : D → D → Option D) (i : Nat) (de : EM D) : SM := bind (EM.get i) fun d => bind de fun e => bind (EM.lift (f d e)) fun c ρ => some (.nx, ρ.set i (some c))
end SM
section
variable {G : Cc} {k e : Expr} {dk de : EM D} {p pos pos' : Pos}
theorem cs_putK {lv : Nat} (gk : GOk G lv) (i : Nat) {x : Str} (he : CE G e de) (hk : CE G k dk) (hN : G.X.N[i]? = some x := by rfl) (hs : G.sh i = .k .s := by rfl) (hv : Vis G.X.env.scope x := by first | exact Or.inl rfl | exact Or.inr (Or.inl rfl) | exact Or.inr (Or.inr rfl)) (hd : (x == ("__debug__" : Str)) = false := by decide) (hcd : (x == ("__classdict__" : Str)) = false := by decide)
    (hsw : swapsWith e (some (.Subscript (.Name x p) k pos')) pos.line G.X.env = pure false := by rfl) :
    CS G (.Assign [.Subscript (.Name x p) k pos'] e pos) (SM.putK_ i de dk) := by
  obtain ⟨t, pe, q⟩ := he.ex
  obtain ⟨t', pk, q'⟩ := hk.ex
  refine ⟨_, ps_dput (hu_G gk) (pe_var hN hv hd hcd) pk pe hsw, fun σ ρ S H g kk fl ρ' hden E px => ?_⟩
  refine q.useS kk hden px fun d ρ1 h0 v S1 H1 g1 k1 st1 rv p1 => ?_
  rcases sbind_cases h0 with ⟨d0, ρ0, e0, h1⟩ | ⟨c, xx, e0, _⟩
  · obtain ⟨d2, e1, ed, rfl⟩ := get_cases e0
    cases ed
    obtain ⟨v0, z1, z2⟩ := k1.slot i d0 e1
    rw [show G.Om.getD i .s = .k .s from hs] at z2
    obtain ⟨a, kvs, _, _, _, rfl, _, z3, _⟩ := z2
    refine ⟨.ref a, z1, ?_⟩
    refine q'.useS k1 h1 p1 fun kd ρ2 h2 y S2 H2 g2 k2 st2 ry p2 => ?_
    split at h2
    · rename_i ks ds kx e3 ek
      split at h2
      · rename_i hlen
        cases h2
        obtain ⟨a', kvs2, y1, y2, y3, y4, y5, y6, y7⟩ := slotK k2 hs e3
        rw [z1] at y1
        cases y1
        subst y3
        obtain ⟨w1, w2, w3, _⟩ := putD_val (x := kx) (rv.mono st2.sh) y4 y5
        obtain ⟨k3, st3⟩ := y7 (putK kvs2 kx v) _ w3 w2
        rw [w1] at k3
        rw [keyD_rep ry ek]
        exact ⟨a, _, rfl, DPut.k y2 (by rw [List.length_map] at hlen; rw [sizeLine_eq]; omega), p2 σ S2 _ g2 k3 st3 .refl⟩
      · cases h2
    · cases h2
  · obtain ⟨_, _, e, _⟩ := get_cases e0
    cases e
theorem cs_putT {lv : Nat} (gk : GOk G lv) (i : Nat) {x : Str} (he : CE G e de) (hk : CE G k dk) (hN : G.X.N[i]? = some x := by rfl) (hs : G.sh i = .t .s := by rfl) (hv : Vis G.X.env.scope x := by first | exact Or.inl rfl | exact Or.inr (Or.inl rfl) | exact Or.inr (Or.inr rfl)) (hd : (x == ("__debug__" : Str)) = false := by decide) (hcd : (x == ("__classdict__" : Str)) = false := by decide)
    (hsw : swapsWith e (some (.Subscript (.Name x p) k pos')) pos.line G.X.env = pure false := by rfl) :
    CS G (.Assign [.Subscript (.Name x p) k pos'] e pos) (SM.putT_ i de dk) := by
  obtain ⟨t, pe, q⟩ := he.ex
  obtain ⟨t', pk, q'⟩ := hk.ex
  refine ⟨_, ps_dput (hu_G gk) (pe_var hN hv hd hcd) pk pe hsw, fun σ ρ S H g kk fl ρ' hden E px => ?_⟩
  refine q.useS kk hden px fun d ρ1 h0 v S1 H1 g1 k1 st1 rv p1 => ?_
  rcases sbind_cases h0 with ⟨d0, ρ0, e0, h1⟩ | ⟨c, xx, e0, _⟩
  · obtain ⟨d2, e1, ed, rfl⟩ := get_cases e0
    cases ed
    obtain ⟨v0, z1, z2⟩ := k1.slot i d0 e1
    rw [show G.Om.getD i .s = .t .s from hs] at z2
    obtain ⟨a, kvs, _, _, _, rfl, _, z3, _⟩ := z2
    refine ⟨.ref a, z1, ?_⟩
    refine q'.useS k1 h1 p1 fun kd ρ2 h2 y S2 H2 g2 k2 st2 ry p2 => ?_
    split at h2
    · rename_i ks ds ys e3
      split at h2
      · rename_i kx ek
        split at h2
        · rename_i hlen
          cases h2
          obtain ⟨a', kvs2, y1, y2, y3, y4, y5, y6, y7⟩ := slotT k2 hs e3
          rw [z1] at y1
          cases y1
          subst y3
          obtain ⟨w1, w2, w3, _⟩ := putD_val (x := kx) (rv.mono st2.sh) y4 y5
          obtain ⟨k3, st3⟩ := y7 (putK kvs2 kx v) _ w3 w2
          rw [w1] at k3
          obtain ⟨b, zs, rfl, hb, hr⟩ := ry
          rw [keysD_rep hr ek] at hb
          exact ⟨a, _, rfl, DPut.t y2 (k2.sub _ _ hb) (by rw [List.length_map] at hlen; rw [sizeLine_eq]; omega), p2 σ S2 _ g2 k3 st3 .refl⟩
        · cases h2
      · cases h2
    · cases h2
  · obtain ⟨_, _, e, _⟩ := get_cases e0
    cases e
theorem cs_aug (i : Nat) {x : Str} {op : Operator} {r : TIp} {f : D → D → Option D} {lv : Nat} (gk : GOk G lv) (hp : PIp G.X op r) (hr : RO2 G.X.K r f) (he : CE G e de) (hi : G.X.N[i]? = some x := by rfl) (hs : G.sh i = .s := by rfl) (hfx : i ∉ G.fx := by exact nfx (by rfl)) (hx : Loc G.X.env.scope x := by first | exact Or.inl rfl | exact Or.inr rfl)
    (hf : G.X.fn x = true ∨ G.X.env.scope.names.lookup x = some .local := by first | exact .inl rfl | exact .inr rfl | assumption) : CS G (.AugAssign (.Name x p) op e pos) (SM.aug f i de) := by
  obtain ⟨t, pe, q⟩ := he.ex
  refine ⟨_, ps_aug gk.nd hi hx pe hp hf, fun σ ρ S H g kk fl ρ' hden E px => ?_⟩
  rcases sbind_cases hden with ⟨d0, ρ0, e0, h1⟩ | ⟨c, xx, e0, _⟩
  · obtain ⟨d2, e1, ed, rfl⟩ := get_cases e0
    cases ed
    obtain ⟨v0, z1, z2⟩ := kk.slot i d0 e1
    rw [show G.Om.getD i .s = .s from hs] at z2
    refine ⟨v0, z1, ?_⟩
    refine q.useS kk h1 px fun d ρ2 h2 y S2 H2 g2 k2 st2 ry p2 => ?_
    rcases sbind_cases h2 with ⟨c, ρ3, e3, h3⟩ | ⟨c, xx, e3, _⟩
    · obtain ⟨c', ec, ecc, rfl⟩ := lift_cases e3
      cases ecc
      cases h3
      refine hr S2 H2 v0 y d0 d c k2.sub (z2.ss.2.mono st2.sh) ry ec _ fun w S3 H3 gr rw' => ?_
      have k3 := k2.grow gr
      have hg : g2 i = [] := by
        cases e : ρ3[i]? with
        | none => exact k2.emp i fun d q => by rw [e] at q; cases q
        | some o => cases o with
          | none => exact k2.emp i fun d q => by rw [e] at q; cases q
          | some d' =>
            obtain ⟨u, _, h2⟩ := k2.slot i d' e
            rw [show G.Om.getD i .s = .s from hs] at h2
            exact h2.ss.1
      refine p2 _ S3 H3 _ (k3.put (bs := []) (List.getElem?_eq_some_iff.mp hi).1 (by rw [hs]; exact own_s rw') List.nodup_nil fun b hb => absurd hb (by simp)) (gr.stp.imp fun b ⟨j, hj⟩ => ?_) fun j hj => List.getElem?_set_ne fun z => hfx (by rw [z]; exact hj)
      have hj : b ∈ (if j = i then [] else g2 j) := hj
      by_cases hji : j = i
      · rw [if_pos hji] at hj
        exact absurd hj (by simp)
      · rw [if_neg hji] at hj
        exact ⟨j, hj⟩
    · obtain ⟨_, _, e, _⟩ := lift_cases e3
      cases e
  · obtain ⟨_, _, e, _⟩ := get_cases e0
    cases e
end
/-! ### in a sequence of plain things -/
def asFlat : List D → Option (List V)
  | [] => some []
  | .v x :: ds => if flatV x = true then (asFlat ds).map (x :: ·) else none
  | _ :: _ => none
theorem asFlat_eq : ∀ {ds : List D} {vs : List V}, asFlat ds = some vs → ds = vs.map D.v ∧ vs.all flatV = true
  | [], vs, h => by
    cases h
    exact ⟨rfl, rfl⟩
  | d :: ds, vs, h => by
    unfold asFlat at h
    split at h
    · rename_i e
      cases e
    · rename_i x ds' e
      cases e
      split at h
      · rename_i hf
        cases q : asFlat ds with
        | none =>
          rw [q] at h
          cases h
        | some ms =>
          rw [q] at h
          cases h
          obtain ⟨h1, h2⟩ := asFlat_eq q
          rw [h1]
          exact ⟨rfl, by rw [List.all_cons, hf, h2] <;> rfl⟩
      · cases h
    · cases h
def inSeq (neg : Bool) (d e : D) : Option D := match d, seqD e with
  | .v x, some ds => if flatV x = true then (asFlat ds).map fun vs => .bl (if neg then !inV x vs else inV x vs) else none
  | _, _ => none
theorem ro_inSeq {K : PySem.W.Frag} {neg : Bool} : RO2 K (rIn K neg) (inSeq neg) := by
  intro S H x y d e c sb rx ry hc Q q
  unfold inSeq at hc
  split at hc
  · rename_i x' ds es
    have rx : x = x' := rx
    subst rx
    split at hc
    · rename_i hf
      cases eq : asFlat ds with
      | none =>
        rw [eq] at hc
        cases hc
      | some vs =>
        rw [eq] at hc
        cases hc
        obtain ⟨h1, h2⟩ := asFlat_eq eq
        subst h1
        have key : ∃ a, y = .ref a ∧ (SqL K H a vs ∨ SqT K H a vs) := by
          unfold seqD at es
          split at es
          · cases es
            obtain ⟨a, zs, rfl, z1, z2⟩ := ry
            rw [z2.atoms] at z1
            exact ⟨a, rfl, .inr (SqT.sm sb z1)⟩
          · cases es
            obtain ⟨a, zs, rfl, z1, z2⟩ := ry
            rw [z2.atoms] at z1
            exact ⟨a, rfl, .inl (.of (sb _ _ z1))⟩
          · cases es
            obtain ⟨a, zs, rfl, z1, z2⟩ := ry
            rw [z2.atoms] at z1
            exact ⟨a, rfl, .inr (same_seqT sb z1.seq)⟩
          · cases es
        obtain ⟨a, rfl, ha⟩ := key
        exact ⟨a, vs, rfl, ha, hf, h2, q _ S H (Gr.refl sb) rfl⟩
    · cases hc
  · cases hc
/-! ### raise -/
theorem pmk_own0 {X : Cx} {C : Addr} {bmB : List Value} {B newId initId : String} {x : Str} {p pos : Pos} (F : ExcBaseFacts B newId initId bmB) (q : PySem.W.excIn X.K C bmB newId = true) (gC : X.mg x = some (.ref C)) (kC : PySem.W.keepIn X.K (.ref C) = true) (r : Raises X (.ref C)) (hg : Gl X x)
    (hdb : (x == ("__debug__" : Str)) = false := by decide) : PMk X (.Call (.Name x p) [] [] pos) (fun _ H Q => Q (.ref C) none H) := by
  intro pins s σ H Q I h
  refine wpAny_Call_Name_kw (ld_glob I hg gC ?_ hdb)
  refine PySem.W.callWith_K0 I.kIn kC ?_
  obtain ⟨bm, N, nm, qn, bs, hdct, sn, sub, ab, col, dd, k0, k1, k2, k3, k5, mN, hC, hN, hni, T⟩ := exc_obj I.kIn q
  refine wpAny_call_exc_subT F T hC hN hni (fun h' e hm => ?_) (by show 0 ≤ sizeLine; rw [sizeLine_eq]; omega)
  exact mk_of I hm r h (I.hok.gone hm.new)
/-- what is asked of an own exception class that is no more than its name -/
structure ExC (K : PySem.W.Frag) (mg : Str → Option Value) (x : Str) (C : Addr) : Prop where
  gl : mg x = some (.ref C)
  ex : PySem.W.excIn K C [.type "ValueError", .type "Exception", .type "BaseException", .type "object"] "ValueError.__new__" = true
  kp : PySem.W.keepIn K (.ref C) = true
  sb : PySem.W.subIn K (.ref C) (.type "BaseException") = some true
  ty : PySem.W.typeIn K (.ref C) = some (.type "type")
namespace SM
def raise0 (C : Addr) : SM := fun ρ => some (.ex C none, ρ)
end SM
theorem cs_raise0 {G : Cc} {lv : Nat} {x : Str} {C : Addr} {p pos cpos : Pos} (gk : GOk G lv) (T : ExC G.X.K G.X.mg x C) (hg : Gl G.X x := by rfl) (hdb : (x == ("__debug__" : Str)) = false := by decide) : CS G (.Raise (some (.Call (.Name x p) [] [] cpos)) none pos) (SM.raise0 C) :=
  ⟨_, ps_raise gk.calm gk.tk (pmk_own0 PySem.F.excBase_ValueError T.ex T.gl T.kp (raises_own T.sb T.ty) hg hdb), fun σ ρ S H g k fl ρ' hd E px => by
    cases hd
    exact px none σ S H g k .refl .refl rfl⟩
/-! ### reversed, enumerate -/
theorem itok_rev {K : PySem.W.Frag} {S : Hp} {a : Addr} {xs : List V} {ds : List D} (h : S a = some (.lst xs)) (r : Reps K S xs ds) : ItOk K S (Itv K a xs.length) ds.reverse := by
  intro S1 H s1 s2
  have hq : SqL K H a xs := .of (s2 _ _ (s1 _ _ h))
  have el := r.len
  refine ⟨fun i d e => ?_, fun i hi => (show xs.length ≤ i by rw [List.length_reverse] at hi; omega)⟩
  have hi : i < ds.length := by
    have := (List.getElem?_eq_some_iff.mp e).1
    rw [List.length_reverse] at this
    exact this
  rw [List.getElem?_reverse hi] at e
  obtain ⟨x, h1, h2⟩ := r.get e
  rw [← el] at h1
  refine ⟨⟨by omega, xs, x, hq, h1⟩, fun y H' ⟨e1, e2⟩ => ?_⟩
  subst e1
  have h3 := e2 xs hq
  rw [h1] at h3
  cases h3
  exact ⟨S1, Gr.refl s2, h2.mono s1⟩
theorem itok_revT {K : PySem.W.Frag} {S : Hp} {a : Addr} {xs : List V} {ds : List D} (h : SqT K S a xs) (r : Reps K S xs ds) : ItOk K S (ItvT K a xs.length) ds.reverse := by
  intro S1 H s1 s2
  have hq : SqT K H a xs := same_seqT s2 (same_seqT s1 h)
  have el := r.len
  refine ⟨fun i d e => ?_, fun i hi => (show xs.length ≤ i by rw [List.length_reverse] at hi; omega)⟩
  have hi : i < ds.length := by
    have := (List.getElem?_eq_some_iff.mp e).1
    rw [List.length_reverse] at this
    exact this
  rw [List.getElem?_reverse hi] at e
  obtain ⟨x, h1, h2⟩ := r.get e
  rw [← el] at h1
  refine ⟨⟨by omega, xs, x, hq, h1⟩, fun y H' ⟨e1, e2⟩ => ?_⟩
  subst e1
  have h3 := e2 xs hq
  rw [h1] at h3
  cases h3
  exact ⟨S1, Gr.refl s2, h2.mono s1⟩
section
variable {G : Cc} {tg e : Expr} {de : EM D} {p pos p2 pos2 tpos : Pos} {elts : List Expr} {kk : Nat}
theorem ci_rev (h : CE G e de) (hm : G.X.mg "reversed" = none) (hg : Gl G.X "reversed" := by rfl) (hs : starEach [e] G.X.env = (false, eval e G.X.env) :: starEach [] G.X.env := by rfl) : CI G tg (.Call (.Name "reversed" p) [e] [] pos) (EM.bind de fun d => EM.lift ((seqD d).map List.reverse)) := by
  obtain ⟨t, pe, q⟩ := h.ex
  refine ⟨_, pi_revA hg hm pe hs, fun σ ρ S H g k r ρ' hd Q qq px => ?_⟩
  refine q.use k hd px fun d ρ1 h1 x S1 H1 g1 k1 st1 rx px1 => ?_
  obtain ⟨ds, e, rfl, rfl⟩ := lift_cases h1
  unfold seqD at e
  split at e
  · cases e
    obtain ⟨a, xs, rfl, z1, z2⟩ := rx
    exact ⟨a, xs, rfl, .inr ⟨SqT.sm k1.sub z1, qq _ rfl _ S1 H1 g1 k1 st1 (itok_revT (.inl (.inl z1)) z2)⟩⟩
  · cases e
    obtain ⟨a, xs, rfl, z1, z2⟩ := rx
    exact ⟨a, xs, rfl, .inl ⟨.of (k1.sub _ _ z1), qq _ rfl _ S1 H1 g1 k1 st1 (itok_rev z1 z2)⟩⟩
  · cases e
    obtain ⟨a, xs, rfl, z1, z2⟩ := rx
    exact ⟨a, xs, rfl, .inr ⟨same_seqT k1.sub z1.seq, qq _ rfl _ S1 H1 g1 k1 st1 (itok_revT z1.seq z2)⟩⟩
  · cases e
/-- tuple(reversed(x)), x a list -/
theorem ce_tupRev {lv : Nat} (gk : GOk G lv) (h : CE G e de) (hm : G.X.mg "tuple" = none) (hm2 : G.X.mg "reversed" = none) (hg : Gl G.X "tuple" := by rfl) (hg2 : Gl G.X "reversed" := by rfl) (hs : starEach [e] G.X.env = (false, eval e G.X.env) :: starEach [] G.X.env := by rfl)
    (hs2 : starEach [.Call (.Name "reversed" p2) [e] [] pos2] G.X.env = (false, eval (.Call (.Name "reversed" p2) [e] [] pos2) G.X.env) :: starEach [] G.X.env := by rfl) :
    CE G (.Call (.Name "tuple" p) [.Call (.Name "reversed" p2) [e] [] pos2] [] pos) (EM.bind de fun d => match d with
      | .lst xs => EM.ret (.tup xs.reverse)
      | _ => EM.lift none) := by
  obtain ⟨t, pe, q⟩ := h.ex
  refine ⟨_, pe_tupRev gk.calm hg hm hg2 hm2 pe hs hs2, fun σ ρ S H g k r ρ' hd Q qq px => ?_⟩
  refine q.use k hd px fun d ρ1 h1 x S1 H1 g1 k1 st1 rx px1 => ?_
  split at h1
  · rename_i ds
    cases h1
    obtain ⟨a, xs, rfl, z1, z2⟩ := rx
    refine ⟨a, xs, rfl, .of (k1.sub _ _ z1), fun p hp => ?_⟩
    have gr := Gr.new (o := .tup xs.reverse) k1.sub hp
    exact qq _ rfl _ _ _ g1 (k1.grow gr) (st1.trans gr.stp) ⟨p, _, rfl, upd_same, z2.rev.mono gr.sh⟩
  · obtain ⟨_, e, _⟩ := lift_cases h1
    cases e
def enumD (i : Nat) : List D → List D
  | [] => []
  | d :: ds => .tup [.int i, d] :: enumD (i + 1) ds
theorem enumD_get : ∀ {ds : List D} {n i : Nat} {d : D}, (enumD n ds)[i]? = some d → ∃ c, ds[i]? = some c ∧ d = .tup [.int (n + i : Nat), c]
  | [], n, i, d, h => by
    simp [enumD] at h
  | c :: ds, n, 0, d, h => by
    simp [enumD] at h
    exact ⟨c, rfl, h.symm⟩
  | c :: ds, n, i + 1, d, h => by
    simp [enumD] at h
    obtain ⟨c', h1, h2⟩ := enumD_get h
    refine ⟨c', by simpa using h1, ?_⟩
    rw [h2]
    congr 4
    omega
theorem enumD_len : ∀ {ds : List D} {n : Nat}, (enumD n ds).length = ds.length
  | [], n => rfl
  | c :: ds, n => by simp [enumD, enumD_len]
theorem itok_enum {K : PySem.W.Frag} {S : Hp} {a : Addr} {xs : List V} {ds : List D} (h : S a = some (.lst xs)) (r : Reps K S xs ds) : ItOk K S (Ite K a) (enumD 0 ds) := by
  intro S1 H s1 s2
  have hq : SqL K H a xs := .of (s2 _ _ (s1 _ _ h))
  refine ⟨fun i d e => ?_, fun i hi => ?_⟩
  · obtain ⟨c, ec, ed⟩ := enumD_get e
    subst ed
    obtain ⟨x, h1, h2⟩ := r.get ec
    refine ⟨⟨xs, x, hq, h1⟩, fun y H' hy => ?_⟩
    obtain ⟨T, x', rfl, hT, rfl, e2⟩ := hy
    have h3 := e2 xs hq
    rw [h1] at h3
    cases h3
    have gr := Gr.new (o := .tup [.int i, x]) s2 hT
    refine ⟨_, gr, T, _, rfl, upd_same, .int i, [x], rfl, ?_, x, [], rfl, (h2.mono s1).mono gr.sh, rfl⟩
    show V.int i = V.int (0 + i : Nat)
    rw [Nat.zero_add]
  · rw [enumD_len] at hi
    exact ⟨xs, hq, by rw [r.len]; exact hi⟩
theorem ci_enumL (h : CE G e de) (hm : G.X.mg "enumerate" = none) (hg : Gl G.X "enumerate" := by rfl) (hs : starEach [e] G.X.env = [(false, eval e G.X.env)] := by rfl) : CI G (.Tuple elts kk tpos) (.Call (.Name "enumerate" p) [e] [] pos) (EM.bind de fun d => match d with
    | .lst ds => EM.ret (enumD 0 ds)
    | _ => EM.lift none) := by
  obtain ⟨t, pe, q⟩ := h.ex
  refine ⟨_, pi_enum hg hm (pa_cons pe pa_nil hs) hs, fun σ ρ S H g k r ρ' hd Q qq px => ?_⟩
  refine q.use k hd px fun d ρ1 h1 x S1 H1 g1 k1 st1 rx px1 => ?_
  split at h1
  · rename_i ds
    cases h1
    obtain ⟨a, xs, rfl, z1, z2⟩ := rx
    exact ⟨a, xs, rfl, .of (k1.sub _ _ z1), qq _ rfl _ S1 H1 g1 k1 st1 (itok_enum z1 z2)⟩
  · obtain ⟨_, e, _⟩ := lift_cases h1
    cases e
end
end Cl
namespace Cl
open PySem PySem.Spec PyProof.Rows L2
/-! ### a def with more room -/
theorem FnE.up {P : Program} {w : World} {K : PySem.W.Frag} {mg : Str → Option Value} {base : Heap} {k k' : Nat} {x : Str} {ps : List Str} {sp : Sp} (h : FnE P w K mg base k x ps sp) (hk : k ≤ k') : FnE P w K mg base k' x ps sp := by
  obtain ⟨f, fd, h1, h2, h3, h4⟩ := h.ex
  exact ⟨f, fd, h1, h2, h3, h4.mono hk⟩
/-! ### tuple(x): a new tuple is a known one -/
def rTupK (K : PySem.W.Frag) : List V → Hp → VK → Prop := fun xs H Q => ∃ p ys, xs = [.ref p] ∧
  ((SqL K H p ys ∧ ∀ l o, H l = none → o.dict = none → Q (.ref l) (upd H l (.frz o (.tup ys)))) ∨ (SqT K H p ys ∧ Q (.ref p) H))
theorem cr_tupK {X : Cx} : CallR X (.type "tuple") (rTupK X.K) := by
  intro pins s σ H xs us Q I r h
  obtain ⟨p, ys, rfl, h⟩ := h
  rw [Vals.ref1 r]
  rcases h with ⟨hq, q⟩ | ⟨hq, q⟩
  · obtain ⟨its, rv, pl, hz⟩ := I.list hq
    refine call_tuple_list pl.isList (fun h' kp => ?_) (by rw [List.size_toArray, ← rv.length]; exact hz)
    have J := I.kept (t' := s.toks) kp
    exact ⟨.ref h'.objs.size, _, J.laid (o := .frz { cls := .type "tuple", data := .seq its.toArray } (.tup ys)) (t' := s.toks) (fun b o e => Heap.get?_push_of_some _ e) (Nat.le_refl _) ⟨Heap.get?_push_size _ rfl, hz, its, rv, IsTup.new _ _⟩, rfl, q _ _ (J.hok.fresh (Nat.le_refl _)) rfl⟩
  · obtain ⟨its, rv, pl, hz⟩ := I.tuple hq
    exact call_tuple_tup pl ⟨.ref p, H, I, rfl, q⟩
def tupleK (ds : List D) : Option D := match ds with
  | [.lst xs] => some (.ktup xs)
  | [.scr ns] => some (.ktup (ns.map fun i => D.int i))
  | [.ktup xs] => some (.ktup xs)
  | [.tup xs] => some (.tup xs)
  | _ => none
theorem ro_tupleK {K : PySem.W.Frag} : ROn K (rTupK K) tupleK := by
  intro S H xs ds c sb rx hc Q q
  unfold tupleK at hc
  split at hc
  · cases hc
    obtain ⟨y, ys, rfl, ⟨a, zs, rfl, h1, h2⟩, r⟩ := rx
    rw [show ys = [] from r]
    refine ⟨a, zs, rfl, .inl ⟨.of (sb _ _ h1), fun l o hl ho => ?_⟩⟩
    have gr := Gr.new (o := .frz o (.tup zs)) sb hl
    exact q _ _ _ gr ⟨l, zs, rfl, .inl ⟨o, upd_same, ho⟩, h2.mono gr.sh⟩
  · cases hc
    obtain ⟨y, ys, rfl, ⟨a, rfl, h1⟩, r⟩ := rx
    rw [show ys = [] from r]
    refine ⟨a, _, rfl, .inl ⟨same_seqL sb h1, fun l o hl ho => ?_⟩⟩
    have gr := Gr.new (o := .frz o (.tup (List.map V.int ‹List Int›))) sb hl
    exact q _ _ _ gr ⟨l, _, rfl, .inl ⟨o, upd_same, ho⟩, reps_ints _⟩
  · cases hc
    obtain ⟨y, ys, rfl, ⟨a, zs, rfl, h1, h2⟩, r⟩ := rx
    rw [show ys = [] from r]
    exact ⟨a, zs, rfl, .inr ⟨same_seqT sb h1.seq, q _ S H (Gr.refl sb) ⟨a, zs, rfl, h1, h2⟩⟩⟩
  · cases hc
    obtain ⟨y, ys, rfl, ⟨a, zs, rfl, h1, h2⟩, r⟩ := rx
    rw [show ys = [] from r]
    exact ⟨a, zs, rfl, .inr ⟨SqT.sm sb h1, q _ S H (Gr.refl sb) ⟨a, zs, rfl, h1, h2⟩⟩⟩
  · cases hc
/-! ### methods of a known tuple -/
def ktV (K : PySem.W.Frag) (x : V) (H : Hp) : Prop := ∃ p xs, x = .ref p ∧ KT K H p xs
theorem ktV_is {X : Cx} {pins : List (Addr × Obj)} {σ : St} {H : Hp} {s : Shared} {x : V} {v : Value} (I : Inv X pins σ H s) (r : RelV x v) (h : ktV X.K x H) :
    s.TypeIs v "tuple" ∧ ∀ a, v = .ref a → ∃ ob, s.heap.get? a = some ob ∧ ob.dict = none := by
  obtain ⟨p, xs, rfl, h⟩ := h
  cases r
  rcases h with ⟨o, h, hd⟩ | ⟨o, its, n, h1, h2, hd, _⟩
  · obtain ⟨e, _, its, _, ob, e2, c, _⟩ := I.hok p _ h
    have e3 : ob = o := by
      rw [e] at e2
      exact (Option.some.inj e2).symm
    rw [e3] at c
    refine ⟨⟨o, e, c⟩, fun a z => ?_⟩
    cases z
    exact ⟨o, e, hd⟩
  · have e := I.kIn p o h1
    refine ⟨⟨o, e, h2⟩, fun a z => ?_⟩
    cases z
    exact ⟨o, e, hd⟩
def tBMk (K : PySem.W.Frag) (r : V → List V → Hp → VK → Prop) (to : TE) (t : TA) : TE := fun σ H Q => to σ H fun x H1 => ktV K x H1 ∧ t σ H1 fun xs H2 => r x xs H2 Q
theorem pe_bmk {X : Cx} {o e : Expr} {es : List Expr} {to : TE} {t : TA} {name : Str} {apos cpos : Pos} {id : String} {r : V → List V → Hp → VK → Prop} (slot : Slot "tuple" name id) (hty : typeOf (.builtin id) = pure (.type "method_descriptor")) (hm : MtR X id r) (ho : PE X o to) (ha : PA X (e :: es) t)
    (hbase : attributeBase o name X.env (eval o X.env) = eval o X.env := by rfl)
    (hfew : ((backTo cpos (starEach (e :: es) X.env)).all (fun x => !x.1) && (backToKw cpos (keywordEach [] X.env)).all (fun x => x.1.isSome) && decide ((e :: es).length + ([] : List Keyword).length + (if ([] : List Keyword).isEmpty then 0 else 1) < 30)) = true := by rfl)
    (hline : (apos.endLine == cpos.line) = true := by rfl) (hs : starEach (e :: es) X.env = (false, eval e X.env) :: starEach es X.env := by rfl) (hplain : (backTo cpos (starEach es X.env)).any (·.1) = false := by rfl) :
    PE X (.Call (.Attribute o name apos) (e :: es) [] cpos) (tBMk X.K r to t) := by
  refine ⟨fun pins s σ H Q I h => wpAny_Call_method_late hbase hfew hline rfl (thn (ho.run pins s σ H _ I h) fun v s1 ⟨x, H1, I1, r1, ty, q1⟩ => ?_)⟩
  obtain ⟨h1, h2⟩ := ktV_is I1 r1 ty
  refine ⟨"tuple", id, F.plainAttrs_tuple, slot, hty, h1, h2, ?_⟩
  have hA := ha.run cpos pins s1 σ H1 _ I1 q1
  rw [hs] at hA ⊢
  exact Calls.callWith_builtin (show (false || (backTo cpos (starEach es X.env)).any (·.1)) = false by rw [hplain]; rfl) (Calls.evalArgs_plain (thn hA fun us s2 ⟨vs, H2, I2, r2, q2⟩ => hm pins s2 σ H2 x vs v us Q I2 r1 r2 q2))
/-- a method by values, the tuple known -/
def ROK (K : PySem.W.Frag) (r : V → List V → Hp → VK → Prop) (f : List D → List D → Option D) : Prop :=
  ∀ S H a xs ds vs as c, Same S H → KT K H a xs → Reps K S xs ds → Reps K S vs as → f ds as = some c → ∀ Q : VK, (∀ v S' H', Gr S H S' H' → Rep K S' v c → Q v H') → r (.ref a) vs H Q
def EM.methK (f : List D → List D → Option D) (da : EM D) (dl : EM (List D)) : EM D := EM.bind da fun d => EM.bind dl fun as => EM.lift (match d with
  | .ktup ds => f ds as
  | _ => none)
/-- the base is read first: its value must be known before the arguments are -/
theorem ce_methK {G : Cc} {o e : Expr} {es : List Expr} {de : EM D} {dl : EM (List D)} {name : Str} {apos cpos : Pos} {id : String} {r : V → List V → Hp → VK → Prop} {f : List D → List D → Option D} (slot : Slot "tuple" name id) (hty : typeOf (.builtin id) = pure (.type "method_descriptor")) (hm : MtR G.X id r) (hr : ROK G.X.K r f) (ho : CE G o de) (ha : CA G (e :: es) dl)
    (hbase : attributeBase o name G.X.env (eval o G.X.env) = eval o G.X.env := by rfl)
    (hfew : ((backTo cpos (starEach (e :: es) G.X.env)).all (fun x => !x.1) && (backToKw cpos (keywordEach [] G.X.env)).all (fun x => x.1.isSome) && decide ((e :: es).length + ([] : List Keyword).length + (if ([] : List Keyword).isEmpty then 0 else 1) < 30)) = true := by rfl)
    (hline : (apos.endLine == cpos.line) = true := by rfl) (hs : starEach (e :: es) G.X.env = (false, eval e G.X.env) :: starEach es G.X.env := by rfl) (hplain : (backTo cpos (starEach es G.X.env)).any (·.1) = false := by rfl) :
    CE G (.Call (.Attribute o name apos) (e :: es) [] cpos) (EM.bind de fun d => match d with
      | .ktup ds => EM.bind dl fun as => EM.lift (f ds as)
      | _ => EM.lift none) := by
  obtain ⟨t, p, q⟩ := ho.ex
  obtain ⟨t', p', q'⟩ := ha.ex
  refine ⟨_, pe_bmk slot hty hm p p' hbase hfew hline hs hplain, fun σ ρ S H g k rr ρ' hd Q qq px => ?_⟩
  refine q.use k hd px fun d ρ1 h1 x S1 H1 g1 k1 st1 rx px1 => ?_
  split at h1
  · rename_i ds
    obtain ⟨a, xs, rfl, z1, z2⟩ := rx
    refine ⟨⟨a, xs, rfl, z1.mono k1.sub⟩, ?_⟩
    refine q'.use k1 h1 px1 fun as ρ2 h2 vs S2 H2 g2 k2 st2 rv px2 => ?_
    obtain ⟨c, e1, rfl, rfl⟩ := lift_cases h2
    refine hr S2 H2 a xs ds vs as c k2.sub ((z1.mono st2.sh).mono k2.sub) (z2.mono st2.sh) rv e1 Q fun v S3 H3 gr rc => ?_
    exact qq _ rfl v S3 H3 g2 (k2.grow gr) ((st1.trans st2).trans gr.stp) rc
  · obtain ⟨_, e, _⟩ := lift_cases h1
    cases e
def rIndexI (K : PySem.W.Frag) : V → List V → Hp → VK → Prop := fun x vs H Q => ∃ (p : Addr) (ns : List Int) (k : Int), x = .ref p ∧ SqT K H p (ns.map V.int) ∧ vs = [V.int k] ∧ k ∈ ns ∧ Q (.int (ns.idxOf k : Nat)) H
theorem mt_indexI {X : Cx} : MtR X "tuple.index" (rIndexI X.K) := by
  intro pins s σ H x xs v us Q I rx rxs h
  obtain ⟨p, ns, k, rfl, hs, rfl, hk, q⟩ := h
  cases rx
  obtain ⟨u, rfl, t, rfl⟩ := Vals.one rxs
  obtain ⟨its, rv, ht, _⟩ := I.tuple hs
  exact SeqAt.tuple_index_ints ht rv.ints hk ⟨.int (ns.idxOf k : Nat), H, I.tok _, ⟨_, rfl⟩, q⟩
def indexF (ds as : List D) : Option D := match asInts ds, as with
  | some ns, [.v (.int k)] => if k ∈ ns then some (.int (ns.idxOf k : Nat)) else none
  | _, _ => none
theorem ro_index {K : PySem.W.Frag} : ROK K (rIndexI K) indexF := by
  intro S H a xs ds vs as c sb hk rx ra hc Q q
  unfold indexF at hc
  split at hc
  · rename_i ns k e
    split at hc
    · rename_i hm
      cases hc
      rw [asInts_eq e] at rx
      have h3 := hk.seq
      rw [rx.atoms] at h3
      obtain ⟨y, ys, rfl, h1, r⟩ := ra
      rw [show ys = [] from r, show y = _ from h1]
      exact ⟨a, ns, k, rfl, h3, rfl, hm, q _ S H (Gr.refl sb) rfl⟩
    · cases hc
  · cases hc
/-! ### max(x), min(x) of ints -/
theorem alike_ints (ns : List Int) : PySem.W.AlikeAll (ns.map PyData.int) := by
  refine ⟨fun x hx y hy => ?_, fun x hx => ?_⟩
  · obtain ⟨i, _, rfl⟩ := List.mem_map.mp hx
    obtain ⟨j, _, rfl⟩ := List.mem_map.mp hy
    rfl
  · obtain ⟨i, _, rfl⟩ := List.mem_map.mp hx
    exact fun z => by cases z
theorem reads_ints {h : Heap} : ∀ {vs : List Value} {ns : List Int}, IntsAre vs ns → ReadsAll h vs (ns.map PyData.int) []
  | _, _, .nil => .nil
  | _, _, .cons n t r => .cons (.int n t) (reads_ints r)
def maxI : List Int → Option Int
  | [] => none
  | n :: ns => some (ns.foldl max n)
def minI : List Int → Option Int
  | [] => none
  | n :: ns => some (ns.foldl min n)
theorem foldl_max {ns : List Int} : ∀ {n : Int}, n ≤ ns.foldl max n ∧ (∀ y ∈ ns, y ≤ ns.foldl max n) ∧ (ns.foldl max n = n ∨ ns.foldl max n ∈ ns) := by
  induction ns with
  | nil => exact fun {n} => ⟨Int.le_refl _, fun y h => absurd h (by simp), .inl rfl⟩
  | cons m ns ih =>
    intro n
    obtain ⟨h1, h2, h3⟩ := ih (n := max n m)
    have e : (m :: ns).foldl max n = ns.foldl max (max n m) := rfl
    rw [e]
    refine ⟨by omega, fun y hy => ?_, ?_⟩
    · rcases List.mem_cons.mp hy with rfl | hy
      · omega
      · exact h2 y hy
    · rcases h3 with h3 | h3
      · rw [h3]
        by_cases q : n ≤ m
        · exact .inr (by rw [show max n m = m by omega]; simp)
        · exact .inl (by omega)
      · exact .inr (List.mem_cons_of_mem _ h3)
theorem foldl_min {ns : List Int} : ∀ {n : Int}, ns.foldl min n ≤ n ∧ (∀ y ∈ ns, ns.foldl min n ≤ y) ∧ (ns.foldl min n = n ∨ ns.foldl min n ∈ ns) := by
  induction ns with
  | nil => exact fun {n} => ⟨Int.le_refl _, fun y h => absurd h (by simp), .inl rfl⟩
  | cons m ns ih =>
    intro n
    obtain ⟨h1, h2, h3⟩ := ih (n := min n m)
    have e : (m :: ns).foldl min n = ns.foldl min (min n m) := rfl
    rw [e]
    refine ⟨by omega, fun y hy => ?_, ?_⟩
    · rcases List.mem_cons.mp hy with rfl | hy
      · omega
      · exact h2 y hy
    · rcases h3 with h3 | h3
      · rw [h3]
        by_cases q : m ≤ n
        · exact .inr (by rw [show min n m = m by omega]; simp)
        · exact .inl (by omega)
      · exact .inr (List.mem_cons_of_mem _ h3)
def rBest (K : PySem.W.Frag) (f : List Int → Option Int) : List V → Hp → VK → Prop := fun vs H Q => ∃ (a : Addr) (ns : List Int) (m : Int), vs = [V.ref a] ∧ (SqL K H a (ns.map V.int) ∨ SqT K H a (ns.map V.int)) ∧ f ns = some m ∧ Q (.int m) H
theorem cr_maxS {X : Cx} (hc : X.calm = true) (hu : X.A.units + 64 < cLine) : CallR X (.builtin "max") (rBest X.K maxI) := by
  intro pins s σ H vs us Q I r h
  obtain ⟨a, ns, m, rfl, hs, hm, q⟩ := h
  cases ns with
  | nil => cases hm
  | cons n ns =>
    cases hm
    rcases hs with hs | hs
    · refine cr_max hc pins s σ H _ us Q I r ⟨a, n :: ns, rfl, hs, by simp, fun m h1 h2 => ?_⟩
      obtain ⟨k1, k2, k3⟩ := foldl_max (ns := ns) (n := n)
      have e : m = ns.foldl max n := by
        have h3 := h2 n (by simp)
        have h4 : ns.foldl max n ≤ m := k3.elim (fun e => by rw [e]; exact h3) fun e => h2 _ (List.mem_cons_of_mem _ e)
        rcases List.mem_cons.mp h1 with e | e
        · omega
        · have := k2 m e
          omega
      rw [e]
      exact q
    · obtain ⟨its, rv, ht, _⟩ := I.tuple hs
      rw [Vals.ref1 r]
      refine PySem.W.max_tuple_data (vs := its.toArray) (x := .int n) (xs := ns.map PyData.int) (I.ok.hd hc) ht (reads_ints rv.ints) (alike_ints (n :: ns)) ?_ fun i v h' tk bs hv hr hk => ?_
      · rw [show PyData.int n :: ns.map PyData.int = (n :: ns).map PyData.int from rfl, PySem.W.ke_depthAll]
        omega
      · rw [PySem.W.maxD_ints] at hr
        cases hr
        exact ⟨.int _, H, I.kept hk, ⟨_, rfl⟩, q⟩
theorem cr_minS {X : Cx} (hc : X.calm = true) (hu : X.A.units + 64 < cLine) : CallR X (.builtin "min") (rBest X.K minI) := by
  intro pins s σ H vs us Q I r h
  obtain ⟨a, ns, m, rfl, hs, hm, q⟩ := h
  cases ns with
  | nil => cases hm
  | cons n ns =>
    cases hm
    rcases hs with hs | hs
    · refine cr_min hc pins s σ H _ us Q I r ⟨a, n :: ns, rfl, hs, by simp, fun m h1 h2 => ?_⟩
      obtain ⟨k1, k2, k3⟩ := foldl_min (ns := ns) (n := n)
      have e : m = ns.foldl min n := by
        have h3 := h2 n (by simp)
        have h4 : m ≤ ns.foldl min n := k3.elim (fun e => by rw [e]; exact h3) fun e => h2 _ (List.mem_cons_of_mem _ e)
        rcases List.mem_cons.mp h1 with e | e
        · omega
        · have := k2 m e
          omega
      rw [e]
      exact q
    · obtain ⟨its, rv, ht, _⟩ := I.tuple hs
      rw [Vals.ref1 r]
      refine PySem.W.min_tuple_data (vs := its.toArray) (x := .int n) (xs := ns.map PyData.int) (I.ok.hd hc) ht (reads_ints rv.ints) (alike_ints (n :: ns)) ?_ fun i v h' tk bs hv hr hk => ?_
      · rw [show PyData.int n :: ns.map PyData.int = (n :: ns).map PyData.int from rfl, PySem.W.ke_depthAll]
        omega
      · rw [PySem.W.minD_ints] at hr
        cases hr
        exact ⟨.int _, H, I.kept hk, ⟨_, rfl⟩, q⟩
def intsOfD : D → Option (List Int)
  | .lst xs => asInts xs
  | .tup xs => asInts xs
  | .ktup xs => asInts xs
  | .scr ns => some ns
  | _ => none
theorem intsOfD_rep {K : PySem.W.Frag} {S H : Hp} {x : V} {d : D} {ns : List Int} (sb : Same S H) (r : Rep K S x d) (h : intsOfD d = some ns) : ∃ a, x = .ref a ∧ (SqL K H a (ns.map V.int) ∨ SqT K H a (ns.map V.int)) := by
  unfold intsOfD at h
  split at h
  · obtain ⟨a, ws, rfl, h1, h2⟩ := r
    rw [asInts_eq h] at h2
    rw [h2.atoms] at h1
    exact ⟨a, rfl, .inl (.of (sb _ _ h1))⟩
  · obtain ⟨a, ws, rfl, h1, h2⟩ := r
    rw [asInts_eq h] at h2
    rw [h2.atoms] at h1
    exact ⟨a, rfl, .inr (SqT.sm sb h1)⟩
  · obtain ⟨a, ws, rfl, h1, h2⟩ := r
    rw [asInts_eq h] at h2
    have h3 := h1.seq
    rw [h2.atoms] at h3
    exact ⟨a, rfl, .inr (same_seqT sb h3)⟩
  · cases h
    obtain ⟨a, rfl, h1⟩ := r
    exact ⟨a, rfl, .inl (same_seqL sb h1)⟩
  · cases h
def bestD (f : List Int → Option Int) (ds : List D) : Option D := match ds with
  | [d] => (intsOfD d).bind fun ns => (f ns).map D.int
  | _ => none
theorem ro_best {K : PySem.W.Frag} {f : List Int → Option Int} : ROn K (rBest K f) (bestD f) := by
  intro S H xs ds c sb rx hc Q q
  unfold bestD at hc
  split at hc
  · rename_i d
    cases e : intsOfD d with
    | none =>
      rw [e] at hc
      cases hc
    | some ns =>
      rw [e] at hc
      have hc : (f ns).map D.int = some c := hc
      cases e2 : f ns with
      | none =>
        rw [e2] at hc
        cases hc
      | some m =>
        rw [e2] at hc
        cases hc
        obtain ⟨y, ys, rfl, h1, r⟩ := rx
        rw [show ys = [] from r]
        obtain ⟨a, rfl, hs⟩ := intsOfD_rep sb h1 e
        exact ⟨a, ns, m, rfl, hs, e2, q _ S H (Gr.refl sb) rfl⟩
  · cases hc
end Cl
namespace Cl
open PySem PySem.Spec PyProof.Rows L2
section
variable {prog : Program} {w : World} {A : Around} {E : Value → Shared → Prop} {s : Shared}
abbrev hp1 (h : Heap) (vs : List Value) : Heap := (h.push (seqObj "list" #[] 0)).update h.objs.size (Obj.mapSeq (· ++ vs.toArray))
/-- the items of a tuple, drawn into a list of one's own -/
theorem draw_tup {t : Addr} {vs : List Value} {Q : List Value → Shared → Prop} (ht : s.heap.IsTuple t vs.toArray) (z : vs.length ≤ sizeLine) (h : Q vs { s with heap := hp1 s.heap vs }) :
    wpAny (model prog w) A (collect (.ref t)) Q E s := by
  obtain ⟨o, e1, e2, n, e3⟩ := id ht
  have e0 : (s.heap.push (seqObj "list" #[] 0)).get? t = some o := Heap.get?_push_of_some _ e1
  have en : (s.heap.push (seqObj "list" #[] 0)).get? s.heap.objs.size = some (seqObj "list" #[] 0) := Heap.get?_push_size _ rfl
  unfold collect
  refine wpAny_bind (wpAny_runValue (codeAny_builtin entry_proto_collect'
    (wpAny_bind (wpAny_newList (wpAny_pure ⟨Code.quiet_builtin _ (by decide +kernel), codeAny_builtin entry_list_iadd' ?_⟩)))))
  change wpAny _ _ (Builtin.List.listExtendWith (.ref s.heap.objs.size) (.ref t) (.ref s.heap.objs.size)) _ _ _
  unfold Builtin.List.listExtendWith
  refine wpAny_bind (wpAny_typeOf (T := "tuple") ⟨o, e0, e2⟩ ?_)
  rw [if_pos (by
    have q : (Value.type "tuple" == Value.type "tuple") = true := rfl
    simp [q])]
  refine wpAny_bind (listItems_at e0 e3 (wpAny_bind (listItems_at (xs := #[]) (n := 0) en rfl ?_)))
  rw [if_neg (by simp)]
  refine wpAny_bind (listUpdate_at (xs := #[]) (n := 0) en rfl ?_ (Nat.zero_le _) ?_)
  · refine wpAny_pure (wpAny_bind (wpAny_load (get?_update_seq en _) ?_))
    have q : ((#[] : Array Value) ++ vs.toArray).toList = vs := by simp
    change wpAny _ _ (pure ((#[] : Array Value) ++ vs.toArray).toList) Q E _
    rw [q]
    exact wpAny_pure h
  · have q : (#[] ++ vs.toArray : Array Value).size = vs.length := by simp
    exact Nat.le_succ_of_le (q ▸ z)
theorem sorted_tup {t : Addr} {vs : List Value} {ltv : Value → Value → Bool} {Q : Value → Shared → Prop} (O : SrtO.Swo ltv) (ht : s.heap.IsTuple t vs.toArray) (z : vs.length ≤ sizeLine)
    (hS : 2 ≤ vs.length → ∀ (h₁ : Heap) (a : Addr), SrtO.SortableO prog w A.in1.in1 { s with heap := h₁ } a vs ltv)
    (h : ∀ out : List Value, SrtO.Srtd ltv out → SrtO.Stb ltv out vs → Q (.ref (s.heap.objs.size + 1)) { s with heap := sortedAll s.heap vs out.toArray }) :
    wpAny (model prog w) A (call (.builtin "sorted") [.ref t]) Q E s := by
  have hz : (hp1 s.heap vs).objs.size = s.heap.objs.size + 1 := (Heap.size_update ..).trans (size_push' _ _)
  have hl : ((hp1 s.heap vs).push (seqObj "list" vs.toArray 0)).get? (s.heap.objs.size + 1) = some (seqObj "list" vs.toArray 0) := by
    rw [← hz]
    exact Heap.get?_push_size _ rfl
  refine Calls.call_function_entry kind_sorted plain_sorted entry_sorted (args_sorted1 _) ?_
  unfold Builtin.«sorted»
  refine wpAny_bind (m := checkCount "sorted" 1 1 _) (wpAny_pure (wpAny_bind (draw_tup ht z (wpAny_bind (wpAny_newList ?_ z)))))
  change wpAny _ _ _ _ _ { s with heap := (hp1 s.heap vs).push (seqObj "list" vs.toArray 0) }
  rw [hz]
  exact wpAny_bind (wpAny_holding (wpAny_call_entry slot_list_sort ⟨_, hl, rfl⟩ entry_list_sort (SrtO.list_sort_ord O hl z (fun h2 => hS h2 _ _) fun out o1 o2 => ⟨_, rfl, wpAny_pure ⟨_, rfl, h out o1 o2⟩⟩) (args_list_sort _)))
end
def sortI (ns : List Int) : List Int := ns.mergeSort fun x y => decide (x ≤ y)
theorem sort_one {a b : List Int} (h : a.Perm b) (ha : a.Pairwise (· ≤ ·)) : a = sortI b := PySem.W.os_sorted_mergeSort h ha
def rSortS (K : PySem.W.Frag) : List V → Hp → VK → Prop := fun vs H Q => ∃ (a : Addr) (ns : List Int), vs = [V.ref a] ∧ (SqL K H a (ns.map V.int) ∨ SqT K H a (ns.map V.int)) ∧ ∀ p : Addr, H p = none → Q (.ref p) (upd H p (.lst ((sortI ns).map V.int)))
theorem cr_sortS {X : Cx} : CallR X (.builtin "sorted") (rSortS X.K) := by
  intro pins s σ H vs us Q I r h
  obtain ⟨a, ns, rfl, hs, q⟩ := h
  rcases hs with hs | hs
  · exact cr_sortedI pins s σ H _ us Q I r ⟨a, ns, rfl, hs, fun ns' p h1 h2 h3 => by
      rw [sort_one h1 h2]
      exact q p h3⟩
  · obtain ⟨its, rv, ht, z⟩ := I.tuple hs
    rw [Vals.ref1 r]
    have hi := rv.ints
    refine sorted_tup SrtO.swo_int ht (by rw [← rv.length]; exact z) (fun h2 _ _ => SrtO.ints_sortable hi h2) fun out h1 h2 => ?_
    obtain ⟨k1, k2, k3⟩ := SrtO.ints_out hi h1 h2
    obtain ⟨ep, he⟩ := sortedAll_at s.heap its out.toArray
    have e := sort_one k2 k3
    have hl : ((sortI ns).map V.int).length ≤ sizeLine := by
      rw [← e, List.length_map, k2.length_eq]
      rw [List.length_map] at z
      exact z
    exact ⟨.ref _, upd H (s.heap.objs.size + 1) (.lst ((sortI ns).map V.int)), I.laid (t' := s.toks) (fun _ _ => sortedAll_old) (Nat.le_succ _) ⟨hl, out, ep, by rw [← e]; exact vals_of_ints k1, he⟩, rfl, q _ (I.hok.fresh (Nat.le_succ _))⟩
def sortedD (ds : List D) : Option (List D) := match ds with
  | [d] => (intsOfD d).map fun ns => (sortI ns).map fun i => D.int i
  | _ => none
theorem ro_sorted {K : PySem.W.Frag} : ROL K (rSortS K) sortedD := by
  intro S H xs ds c sb rx hc Q q
  unfold sortedD at hc
  split at hc
  · rename_i d
    cases e : intsOfD d with
    | none =>
      rw [e] at hc
      cases hc
    | some ns =>
      rw [e] at hc
      cases hc
      obtain ⟨y, ys, rfl, h1, r⟩ := rx
      rw [show ys = [] from r]
      obtain ⟨a, rfl, hs⟩ := intsOfD_rep sb h1 e
      exact ⟨a, ns, rfl, hs, fun p hp => q _ S H p (Gr.refl sb) (reps_ints _) hp⟩
  · cases hc
end Cl
namespace Cl
open PySem PySem.Spec PyProof.Rows L2
/-! ### what a printed derivation names -/
abbrev FnY (P : Program) (w : World) (K : PySem.W.Frag) (mg : Str → Option Value) (base : Heap) (k : Nat) (x : Str) (ps : List Str) (ws : List Sh) (wr : Sh) (f : FD) : Prop := FnE P w K mg base k x ps (spF K ws wr f)
def GI (mg : Str → Option Value) (x : Str) (n : Int) : Prop := ∃ u, mg x = some u ∧ RelV (.int n) u
def GT (K : PySem.W.Frag) (mg : Str → Option Value) (x : Str) (ds : List D) : Prop := ∃ a, mg x = some (.ref a) ∧ ∀ S, Rep K S (.ref a) (.ktup ds)
def GD (K : PySem.W.Frag) (mg : Str → Option Value) (x : Str) (st : Stmt) : Prop := ∃ f, mg x = some (.ref f) ∧ ∃ fd, FunD K x x (defArgs st) (defBody st) (defScope st) [] [] f fd
namespace EM
def enumL (de : EM D) : EM (List D) := bind de fun d => match d with
  | .lst ds => ret (enumD 0 ds)
  | _ => lift none
def revL (de : EM D) : EM D := bind de fun d => match d with
  | .lst xs => ret (.lst xs.reverse)
  | _ => lift none
def tupRev (de : EM D) : EM D := bind de fun d => match d with
  | .lst xs => ret (.tup xs.reverse)
  | _ => lift none
def meth (f : List D → List D → Option D) (de : EM D) (dl : EM (List D)) : EM D := bind de fun d => match d with
  | .ktup ds => bind dl fun as => lift (f ds as)
  | _ => lift none
def lrange (da : EM D) : EM D := bind da fun d => lift ((rangeL1 d).map D.lst)
def seqOf (da : EM D) : EM (List D) := bind da fun d => lift (seqD d)
def revOf (da : EM D) : EM (List D) := bind da fun d => lift ((seqD d).map List.reverse)
def rng1 (da : EM (List D)) : EM (List D) := bind da fun ds => lift (range1 ds)
def rng2 (da : EM (List D)) : EM (List D) := bind da fun ds => lift (range2 ds)
end EM
def lit4 (ds : List D) : Option (List D) := if ds.length ≤ 4096 then some ds else none
section
variable {G : Cc} {a b c e l i o tg : Expr} {es rest : List Expr} {da db dc de : EM D} {dl : EM (List D)} {ta tb : EM Bool} {pos cpos apos p pos' p2 pos2 tpos : Pos}
theorem ce_gint {x : Str} {n : Int} (h : GI G.X.mg x n) (hg : Gl G.X x := by rfl) (hd : (x == ("__debug__" : Str)) = false := by decide) : CE G (.Name x pos) (EM.ret (.int n)) := by
  obtain ⟨u, h1, h2⟩ := h
  exact ce_glob h1 h2 (fun _ => rfl) hg hd
theorem ce_gtup {x : Str} {ds : List D} (h : GT G.X.K G.X.mg x ds) (hg : Gl G.X x := by rfl) (hd : (x == ("__debug__" : Str)) = false := by decide) : CE G (.Name x pos) (EM.ret (.ktup ds)) := by
  obtain ⟨u, h1, h2⟩ := h
  exact ce_glob (v := .ref u) h1 rfl h2 hg hd
theorem ce_ty {x : Str} {T : String} (hm : G.X.mg x = none) (hv : bootBuiltins x = some (.type T) := by decide +kernel) (hg : Gl G.X x := by rfl) (hn : x ≠ "__name__" := by decide) (hd : (x == ("__debug__" : Str)) = false := by decide) : CE G (.Name x pos) (EM.ret (.ty T)) :=
  ce_bltn hm hv rfl hg hn hd
theorem ci_enu {elts : List Expr} {kk : Nat} (h : CE G e de) (hm : G.X.mg "enumerate" = none) (hg : Gl G.X "enumerate" := by rfl) (hs : starEach [e] G.X.env = [(false, eval e G.X.env)] := by rfl) : CI G (.Tuple elts kk tpos) (.Call (.Name "enumerate" p) [e] [] pos) (EM.enumL de) := ci_enumL h hm hg hs
theorem co_rev {k : Nat} {p1 p2 p3 : Pos} (he : CE G e de) : CO G (.l .s) (.Subscript e (.Slice none none (some (.UnaryOp .USub (.Constant (.int 1) k p1) p2)) p3) pos) (EM.revL de) := co_revL he
theorem ce_tprev {lv : Nat} (gk : GOk G lv) (h : CE G e de) (hm : G.X.mg "tuple" = none) (hm2 : G.X.mg "reversed" = none) (hg : Gl G.X "tuple" := by rfl) (hg2 : Gl G.X "reversed" := by rfl) (hs : starEach [e] G.X.env = (false, eval e G.X.env) :: starEach [] G.X.env := by rfl)
    (hs2 : starEach [.Call (.Name "reversed" p2) [e] [] pos2] G.X.env = (false, eval (.Call (.Name "reversed" p2) [e] [] pos2) G.X.env) :: starEach [] G.X.env := by rfl) : CE G (.Call (.Name "tuple" p) [.Call (.Name "reversed" p2) [e] [] pos2] [] pos) (EM.tupRev de) := ce_tupRev gk h hm hm2 hg hg2 hs hs2
theorem ce_meth {name : Str} {id : String} {r : V → List V → Hp → VK → Prop} {f : List D → List D → Option D} (slot : Slot "tuple" name id) (hty : typeOf (.builtin id) = pure (.type "method_descriptor")) (hm : MtR G.X id r) (hr : ROK G.X.K r f) (ho : CE G o de) (ha : CA G (e :: es) dl)
    (hbase : attributeBase o name G.X.env (eval o G.X.env) = eval o G.X.env := by rfl)
    (hfew : ((backTo cpos (starEach (e :: es) G.X.env)).all (fun x => !x.1) && (backToKw cpos (keywordEach [] G.X.env)).all (fun x => x.1.isSome) && decide ((e :: es).length + ([] : List Keyword).length + (if ([] : List Keyword).isEmpty then 0 else 1) < 30)) = true := by rfl)
    (hline : (apos.endLine == cpos.line) = true := by rfl) (hs : starEach (e :: es) G.X.env = (false, eval e G.X.env) :: starEach es G.X.env := by rfl) (hplain : (backTo cpos (starEach es G.X.env)).any (·.1) = false := by rfl) :
    CE G (.Call (.Attribute o name apos) (e :: es) [] cpos) (EM.meth f de dl) := ce_methK slot hty hm hr ho ha hbase hfew hline hs hplain
theorem co_lrange {k : Nat} (gk : GOk G k) (h : CE G a da) (hm : G.X.mg "list" = none) (hm2 : G.X.mg "range" = none) (hg : Gl G.X "list" := by rfl) (hg2 : Gl G.X "range" := by rfl) (na : starEach [a] G.X.env = (false, eval a G.X.env) :: starEach [] G.X.env := by rfl)
    (nb : starEach [.Call (.Name "range" p2) [a] [] pos2] G.X.env = (false, eval (.Call (.Name "range" p2) [a] [] pos2) G.X.env) :: starEach [] G.X.env := by rfl) :
    CO G (.l .s) (.Call (.Name "list" p) [.Call (.Name "range" p2) [a] [] pos2] [] pos) (EM.lrange da) := co_listRange1 gk h hm hm2 hg hg2 na nb
theorem ci_sq (h : CE G l da) : CI G tg l (EM.seqOf da) := ci_seq h
theorem ci_rv (h : CE G e de) (hm : G.X.mg "reversed" = none) (hg : Gl G.X "reversed" := by rfl) (hs : starEach [e] G.X.env = (false, eval e G.X.env) :: starEach [] G.X.env := by rfl) : CI G tg (.Call (.Name "reversed" p) [e] [] pos) (EM.revOf de) := ci_rev h hm hg hs
theorem ci_r1 (h : CA G [a] dl) (hm : G.X.mg "range" = none) (hg : Gl G.X "range" := by rfl) (hs : starEach [a] G.X.env = [(false, eval a G.X.env)] := by rfl) : CI G tg (.Call (.Name "range" p) [a] [] pos) (EM.rng1 dl) := ci_range1 h hm hg hs
theorem ci_r2 (h : CA G [a, b] dl) (hm : G.X.mg "range" = none) (hg : Gl G.X "range" := by rfl) (hs : starEach [a, b] G.X.env = [(false, eval a G.X.env), (false, eval b G.X.env)] := by rfl) (hs2 : starEach [b] G.X.env = [(false, eval b G.X.env)] := by rfl) : CI G tg (.Call (.Name "range" p) [a, b] [] pos) (EM.rng2 dl) := ci_range2 h hm hg hs hs2
theorem co_lst (ha : CA G es dl) : CO G (.l .s) (.List es pos) (EM.opl lit4 dl) := co_list ha
theorem RGo.sh {w : Sh} {t : TE} {den : EM D} (h : RGo G w t den) : RGo G .s t den := fun σ ρ S H g k r ρ' hd Q q px =>
  h σ ρ S H g k r ρ' hd Q (fun d e v S' H' g' bs k' st ow nd hb => q d e v _ H' g' [] (k'.freeze ow hb) ((st.freeze fun b z => (hb b z).1).imp fun b z => z.elim id fun y => absurd y (by simp)) (own_s (ow.freeze fun b z => (hb b z).1)) List.nodup_nil fun b z => absurd z (by simp)) px
variable {elt iter : Expr} {ifs : List Expr} {scope : Scope} {own : List (Str × Nat)} {di : EM (List D)} {dt : TD} {dc : EM Bool} {vs : List Nat}
/-- name = [..] on one line, the list shared from the start -/
theorem cs_setLcS (i : Nat) {y : Str} {py spos : Pos} {us : List Nat} {k : Nat} {w : Sh} (gk : GOk G k) (hi : CI G tg iter di) (ok : BlkOk G.X.N G.X.env.scope scope own)
    (ht : ∀ (s : Shared) (H : Hp) (C : Addr) (cl : List (Str × Addr)) (fp : List Addr), CTg (G.blk s H scope C cl fp) tg vs dt)
    (hc : ∀ (s : Shared) (H : Hp) (C : Addr) (cl : List (Str × Addr)) (fp : List Addr), CTts (G.blk s H scope C cl fp) ifs dc)
    (he : ∀ (s : Shared) (H : Hp) (C : Addr) (cl : List (Str × Addr)) (fp : List Addr), CO (G.blk s H scope C cl fp) w elt de)
    (hsw : swapsWith (.ListComp elt [⟨tg, iter, ifs, 0⟩] scope pos) (some (.Name y py)) spos.line G.X.env = pure true)
    (hy : G.X.N[i]? = some y := by rfl) (hw : G.sh i = .s := by rfl) (hfx : i ∉ G.fx := by exact nfx (by rfl)) (hyl : G.X.env.scope.names.lookup y = some .local := by rfl)
    (hus : own.map (·.2) = us := by rfl) (hv : ∀ i ∈ us, G.sh i = .s := by exact allS (by rfl)) (hu : ∀ i ∈ vs, i ∈ us := by decide) (hs : ∀ x, foldedSetIterable iter G.X.env x = pure x := by intro _; rfl) :
    CS G (.Assign [.Name y py] (.ListComp elt [⟨tg, iter, ifs, 0⟩] scope pos) spos) (SM.set i (EM.lc us di dt dc de)) := by
  obtain ⟨wi, p, q⟩ := hi.ex
  subst hus
  exact ⟨_, ps_setLc gk.calm gk.nd hy hyl hsw p ok (fun s H C cl fp => (ht s H C cl fp).can) (fun s H C cl fp => (hc s H C cl fp).can) (fun s H C cl fp => (he s H C cl fp).can) hs, rs_set (List.getElem?_eq_some_iff.mp hy).1 hw hfx (rg_lc q hv hu).sh⟩
end
/-! ### a suite that ends in return -/
def NoNx (m : SM) : Prop := ∀ ρ ρ', m ρ ≠ some (.nx, ρ')
theorem NoNx.ret {d : EM D} : NoNx (SM.ret d) := fun ρ ρ' h => by
  rcases sbind_cases h with ⟨a, ρ1, _, h2⟩ | ⟨c, x, _, h2⟩
  · cases h2
  · cases h2
theorem NoNx.seq {a b : SM} (h : NoNx b) : NoNx (SM.seq a b) := fun ρ ρ' e => by
  unfold SM.seq at e
  split at e
  · exact h _ _ e
  · rename_i z
    exact z _ e
theorem NoNx.ite {c : EM Bool} {a b : SM} (h : NoNx a) (h' : NoNx b) : NoNx (SM.ite c a b) := fun ρ ρ' e => by
  rcases sbind_cases e with ⟨k, ρ1, _, h2⟩ | ⟨c, x, _, h2⟩
  · cases k
    · exact h' _ _ h2
    · exact h _ _ h2
  · cases h2
/-- no fuel: nothing is promised -/
theorem fn_0 {P : Program} {w : World} {K : PySem.W.Frag} {mg : Str → Option Value} {base : Heap} {x : Str} {st : Stmt} {ps : List Str} {k : Nat} {ws : List Sh} {wr : Sh} (h : GD K mg x st)
    (hb : ∀ (kV doc pm : Value) (an : Option Addr) (cdv ct : Value) (us : List Value), us.length = ps.length → bindArgs (PySem.W.fnOf x x (defArgs st) (defBody st) (defScope st) .none kV doc pm an cdv ct) ⟨us, []⟩ = pure (ps.zip us)) :
    FnY P w K mg base k x ps ws wr fun _ => none := by
  obtain ⟨f, hm, fd, F⟩ := h
  have no : ∀ {vs : List V} {H : Hp} {Q : VK} {E : XK}, spF K ws wr (fun _ => none) vs H Q E → False := fun ⟨_, _, _, _, _, _, _, _, _, z, _⟩ => by cases z
  exact ⟨f, fd, hm, F.kp, F.bindsN hb, fun vs H Q E z => (no z).elim, fun A outer s H args us vs Q E _ _ _ _ z => (no z).elim⟩
end Cl
namespace Cl
open PySem PySem.Spec PyProof.Rows L2
/-! ### how denotations are reckoned -/
def bindK {α β : Type} (o : Option (Rs α × Rho)) (f : α → EM β) : Option (Rs β × Rho) := match o with
  | some (.ok a, ρ') => f a ρ'
  | some (.ex c x, ρ') => some (.ex c x, ρ')
  | none => none
def sbK {α : Type} (o : Option (Rs α × Rho)) (f : α → SM) : Option (Fl × Rho) := match o with
  | some (.ok a, ρ') => f a ρ'
  | some (.ex c x, ρ') => some (.ex c x, ρ')
  | none => none
def seqK (o : Option (Fl × Rho)) (b : SM) : Option (Fl × Rho) := match o with
  | some (.nx, ρ') => b ρ'
  | o => o
def getK (o : Option (Option D)) (ρ : Rho) : Option (Rs D × Rho) := match o with
  | some (some d) => some (.ok d, ρ)
  | _ => none
def lendK (w : Sh) (o : Option (Rs D × Rho)) (ρ : Rho) : Option (Rs D × Rho) := match o with
  | some (.ok d, _) => if immO w d = true then some (.ok d, ρ) else none
  | _ => none
def lendBK (o : Option (Rs Bool × Rho)) (ρ : Rho) : Option (Rs Bool × Rho) := match o with
  | some (.ok b, _) => some (.ok b, ρ)
  | _ => none
section
variable {α β : Type} {ρ ρ' : Rho} {a : α} {d e : D} {ds es : List D} {c : Addr} {x : Option (List (Str × D))}
@[simp] theorem bindK_ok {f : α → EM β} : bindK (some (.ok a, ρ)) f = f a ρ := rfl
@[simp] theorem bindK_ex {f : α → EM β} : bindK (some (.ex c x, ρ)) f = some (.ex c x, ρ) := rfl
@[simp] theorem bindK_none {f : α → EM β} : bindK none f = none := rfl
@[simp] theorem sbK_ok {f : α → SM} : sbK (some (.ok a, ρ)) f = f a ρ := rfl
@[simp] theorem sbK_ex {f : α → SM} : sbK (some (.ex c x, ρ)) f = some (.ex c x, ρ) := rfl
@[simp] theorem seqK_nx {b : SM} : seqK (some (.nx, ρ)) b = b ρ := rfl
@[simp] theorem seqK_rt {b : SM} : seqK (some (.rt d, ρ)) b = some (.rt d, ρ) := rfl
@[simp] theorem seqK_ex {b : SM} : seqK (some (.ex c x, ρ)) b = some (.ex c x, ρ) := rfl
@[simp] theorem seqK_ct {b : SM} : seqK (some (.ct, ρ)) b = some (.ct, ρ) := rfl
@[simp] theorem seqK_bk {b : SM} : seqK (some (.bk, ρ)) b = some (.bk, ρ) := rfl
@[simp] theorem getK_some : getK (some (some d)) ρ = some (.ok d, ρ) := rfl
@[simp] theorem e_ret : EM.ret a ρ = some (.ok a, ρ) := rfl
@[simp] theorem e_bind {m : EM α} {f : α → EM β} : EM.bind m f ρ = bindK (m ρ) f := rfl
@[simp] theorem e_lift_some : EM.lift (some a) ρ = some (.ok a, ρ) := rfl
@[simp] theorem e_lift_none : (EM.lift none : EM α) ρ = none := rfl
@[simp] theorem e_get {i : Nat} : EM.get i ρ = getK ρ[i]? ρ := rfl
@[simp] theorem e_op1 {f : D → Option D} {m : EM D} : EM.op1 f m ρ = bindK (m ρ) fun d => EM.lift (f d) := rfl
@[simp] theorem e_op2 {f : D → D → Option D} {m n : EM D} : EM.op2 f m n ρ = bindK (m ρ) fun d ρ => bindK (n ρ) fun e => EM.lift (f d e) := rfl
@[simp] theorem e_opn {f : List D → Option D} {m : EM (List D)} : EM.opn f m ρ = bindK (m ρ) fun d => EM.lift (f d) := rfl
@[simp] theorem e_opl {f : List D → Option (List D)} {m : EM (List D)} : EM.opl f m ρ = bindK (m ρ) fun d => EM.lift ((f d).map D.lst) := rfl
@[simp] theorem e_cons {m : EM D} {n : EM (List D)} : EM.cons m n ρ = bindK (m ρ) fun d ρ => bindK (n ρ) fun ds => EM.ret (d :: ds) := rfl
def truD : D → Option Bool
  | .v (.bl b) => some b
  | _ => none
@[simp] theorem truD_bl {b : Bool} : truD (.bl b) = some b := rfl
@[simp] theorem e_tru {m : EM D} : EM.tru m ρ = bindK (m ρ) fun d => EM.lift (truD d) := by
  show EM.bind _ _ _ = _
  rw [e_bind]
  cases m ρ with
  | none => rfl
  | some p =>
    obtain ⟨r, ρ1⟩ := p
    cases r with
    | ex => rfl
    | ok d => cases d with
      | v v => cases v <;> rfl
      | _ => rfl
def selK {α : Type} (k : Bool) (a b : EM α) : EM α := match k with
  | true => a
  | false => b
@[simp] theorem selK_t {m n : EM α} : selK true m n = m := rfl
@[simp] theorem selK_f {m n : EM α} : selK false m n = n := rfl
@[simp] theorem e_ite {t : EM Bool} {m n : EM α} : EM.ite t m n ρ = bindK (t ρ) fun k => selK k m n := rfl
@[simp] theorem e_notB {t : EM Bool} : EM.notB t ρ = bindK (t ρ) fun k => EM.ret (!k) := rfl
def sand (d : D) (n : EM D) : EM D := match d with
  | .v (.bl true) => n
  | .v (.bl false) => EM.ret (.bl false)
  | _ => EM.lift none
def sor (d : D) (n : EM D) : EM D := match d with
  | .v (.bl true) => EM.ret (.bl true)
  | .v (.bl false) => n
  | _ => EM.lift none
def snot (d : D) : EM D := match d with
  | .v (.bl c) => EM.ret (.bl (!c))
  | _ => EM.lift none
@[simp] theorem sand_t {n : EM D} : sand (.bl true) n = n := rfl
@[simp] theorem sand_f {n : EM D} : sand (.bl false) n = EM.ret (.bl false) := rfl
@[simp] theorem sor_t {n : EM D} : sor (.bl true) n = EM.ret (.bl true) := rfl
@[simp] theorem sor_f {n : EM D} : sor (.bl false) n = n := rfl
@[simp] theorem snot_b {b : Bool} : snot (.bl b) = EM.ret (.bl (!b)) := rfl
@[simp] theorem e_and {m n : EM D} : EM.and_ m n ρ = bindK (m ρ) fun d => sand d n := rfl
@[simp] theorem e_or {m n : EM D} : EM.or_ m n ρ = bindK (m ρ) fun d => sor d n := rfl
@[simp] theorem e_not {m : EM D} : EM.not_ m ρ = bindK (m ρ) fun d => snot d := rfl
def chK (f' : D → D → Option D) (m : EM D) (y z : D) : EM D := match z with
  | .v (.bl true) => EM.bind m fun w => EM.lift (f' y w)
  | .v (.bl false) => EM.ret (.bl false)
  | _ => EM.lift none
@[simp] theorem chK_t {f' : D → D → Option D} {m : EM D} : chK f' m d (.bl true) = EM.bind m fun w => EM.lift (f' d w) := rfl
@[simp] theorem chK_f {f' : D → D → Option D} {m : EM D} : chK f' m d (.bl false) = EM.ret (.bl false) := rfl
@[simp] theorem e_chain {f f' : D → D → Option D} {m n k : EM D} : EM.chain f f' m n k ρ = bindK (m ρ) fun x ρ => bindK (n ρ) fun y ρ => bindK (EM.lift (f x y) ρ) fun z => chK f' k y z := rfl
@[simp] theorem e_lend {w : Sh} {m : EM D} : EM.lend w m ρ = lendK w (m ρ) ρ := rfl
@[simp] theorem e_lendB {m : EM Bool} : EM.lendB m ρ = lendBK (m ρ) ρ := rfl
@[simp] theorem lendK_ok {w : Sh} : lendK w (some (.ok d, ρ')) ρ = if immO w d = true then some (.ok d, ρ) else none := rfl
@[simp] theorem lendBK_ok {b : Bool} : lendBK (some (.ok b, ρ')) ρ = some (.ok b, ρ) := rfl
@[simp] theorem imm_v {v : V} : immO .s (.v v) = true := rfl
theorem imms_all : imms ds = ds.all imm := by
  induction ds with
  | nil => rfl
  | cons d ds ih => simp [imms, ih]
@[simp] theorem imm_tup : immO .s (.tup ds) = ds.all imm := imms_all
@[simp] theorem imm_ktup : immO .s (.ktup ds) = ds.all imm := imms_all
@[simp] theorem imm_l {w : Sh} : immO (.l w) (.lst ds) = ds.all (immO w) := rfl
@[simp] theorem imm_v2 {v : V} : imm (.v v) = true := rfl
def callK (f : FD) (ks : List (Option Nat)) (ρ : Rho) (o : Option (List D)) : Option (Rs D × Rho) := match o with
  | none => none
  | some ds1 => match f ds1 with
    | none => none
    | some (r, ds2) => some (r, setA ρ ks ds2)
@[simp] theorem callK_some {f : FD} {ks : List (Option Nat)} : callK f ks ρ (some ds) = (f ds).map fun q => (q.1, setA ρ ks q.2) := by
  show (match f ds with
    | none => none
    | some (r, ds2) => some (r, setA ρ ks ds2)) = _
  cases f ds <;> rfl
@[simp] theorem e_call {f : FD} {ks : List (Option Nat)} {m : EM (List D)} : EM.call f ks m ρ = bindK (m ρ) fun ds ρ => callK f ks ρ (fillA ρ ks ds) := rfl
@[simp] theorem fill_n {ks : List (Option Nat)} : fillA ρ (none :: ks) (d :: ds) = (fillA ρ ks ds).map (d :: ·) := rfl
@[simp] theorem fill_s {ks : List (Option Nat)} {i : Nat} : fillA ρ (some i :: ks) (d :: ds) = match ρ[i]? with
  | some (some d') => (fillA ρ ks ds).map (d' :: ·)
  | _ => none := rfl
@[simp] theorem fill_e : fillA ρ [] [] = some [] := rfl
@[simp] theorem setA_n {ks : List (Option Nat)} : setA ρ (none :: ks) (d :: ds) = setA ρ ks ds := rfl
@[simp] theorem setA_s {ks : List (Option Nat)} {i : Nat} : setA ρ (some i :: ks) (d :: ds) = (setA ρ ks ds).set i (some d) := rfl
@[simp] theorem setA_e : setA ρ [] ds = ρ := by cases ds <;> rfl
def modK (i : Nat) (f : List D → List D → Option (D × List D)) (as : List D) (ρ : Rho) (o : Option (Option D)) : Option (Rs D × Rho) := match o with
  | some (some (.lst ds)) => match f as ds with
    | some (r, ds') => some (.ok r, ρ.set i (some (.lst ds')))
    | none => none
  | _ => none
@[simp] theorem modK_l {i : Nat} {f : List D → List D → Option (D × List D)} : modK i f es ρ (some (some (.lst ds))) = (f es ds).map fun q => (Rs.ok q.1, ρ.set i (some (.lst q.2))) := by
  show (match f es ds with
    | some (r, ds') => some (Rs.ok r, ρ.set i (some (.lst ds')))
    | none => none) = _
  cases f es ds <;> rfl
@[simp] theorem e_modL {i : Nat} {f : List D → List D → Option (D × List D)} {m : EM (List D)} : EM.modL i f m ρ = bindK (EM.get i ρ) fun _ ρ => bindK (m ρ) fun as ρ => modK i f as ρ ρ[i]? := rfl
@[simp] theorem s_seq {a b : SM} : SM.seq a b ρ = seqK (a ρ) b := rfl
@[simp] theorem s_bind {m : EM α} {f : α → SM} : SM.bind m f ρ = sbK (m ρ) f := rfl
@[simp] theorem s_drop {m : EM D} : SM.drop m ρ = sbK (m ρ) fun _ => SM.nop := rfl
@[simp] theorem s_ret {m : EM D} : SM.ret m ρ = sbK (m ρ) fun d ρ => some (.rt d, ρ) := rfl
@[simp] theorem s_set {i : Nat} {m : EM D} : SM.set i m ρ = sbK (m ρ) fun d ρ => some (.nx, ρ.set i (some d)) := rfl
def selS (k : Bool) (a b : SM) : SM := match k with
  | true => a
  | false => b
@[simp] theorem selS_t {a b : SM} : selS true a b = a := rfl
@[simp] theorem selS_f {a b : SM} : selS false a b = b := rfl
@[simp] theorem s_ite {t : EM Bool} {a b : SM} : SM.ite t a b ρ = sbK (t ρ) fun k => selS k a b := rfl
@[simp] theorem s_nop : SM.nop ρ = some (.nx, ρ) := rfl
@[simp] theorem s_retN : SM.retN ρ = some (.rt .non, ρ) := rfl
@[simp] theorem s_raise0 : SM.raise0 c ρ = some (.ex c none, ρ) := rfl
@[simp] theorem s_for {it : EM (List D)} {tg : TD} {b : SM} : SM.for_ it tg b ρ = sbK (it ρ) fun ds => SM.each tg b ds := rfl
def setK (i : Nat) (d : D) (kd : D) (ρ : Rho) (o : Option (Option D)) : Option (Fl × Rho) := match o, kd with
  | some (some (.lst ds)), .v (.int k) => (ixN ds.length k).map fun j => (.nx, ρ.set i (some (.lst (ds.set j d))))
  | _, _ => none
@[simp] theorem setK_l {i : Nat} {k : Int} : setK i d (.int k) ρ (some (some (.lst ds))) = (ixN ds.length k).map fun j => (.nx, ρ.set i (some (.lst (ds.set j d)))) := rfl
@[simp] theorem s_setL {i : Nat} {m k : EM D} : SM.setL i m k ρ = sbK (m ρ) fun d ρ => sbK (EM.get i ρ) fun _ ρ => sbK (k ρ) fun kd ρ => setK i d kd ρ ρ[i]? := rfl
theorem runF_eq {n : Nat} {ws : List Sh} {den : SM} : runF n ws den ds = (match den (ds.map some ++ List.replicate (n - ds.length) none) with
  | some (.nx, ρ') => (outs ws ds ρ').map fun os => (.ok .non, os)
  | some (.rt d, ρ') => (outs ws ds ρ').map fun os => (.ok d, os)
  | some (.ex c x, ρ') => (outs ws ds ρ').map fun os => (.ex c x, os)
  | _ => none) := rfl
def runK (ws : List Sh) (ds : List D) (o : Option (Fl × Rho)) : Option (Rs D × List D) := match o with
  | some (.nx, ρ') => (outs ws ds ρ').map fun os => (.ok .non, os)
  | some (.rt d, ρ') => (outs ws ds ρ').map fun os => (.ok d, os)
  | some (.ex c x, ρ') => (outs ws ds ρ').map fun os => (.ex c x, os)
  | _ => none
theorem runF_def {n : Nat} {ws : List Sh} {den : SM} : runF n ws den ds = runK ws ds (den (ds.map some ++ List.replicate (n - ds.length) none)) := rfl
@[simp] theorem runK_nx {ws : List Sh} : runK ws ds (some (.nx, ρ)) = (outs ws ds ρ).map fun os => (.ok .non, os) := rfl
@[simp] theorem runK_rt {ws : List Sh} : runK ws ds (some (.rt d, ρ)) = (outs ws ds ρ).map fun os => (.ok d, os) := rfl
@[simp] theorem runK_ex {ws : List Sh} : runK ws ds (some (.ex c x, ρ)) = (outs ws ds ρ).map fun os => (.ex c x, os) := rfl
@[simp] theorem outs_e : outs [] ds ρ = some [] := rfl
@[simp] theorem outs_s {ws : List Sh} {o : Option D} : outs (.s :: ws) (d :: ds) (o :: ρ) = (outs ws ds ρ).map (d :: ·) := rfl
@[simp] theorem outs_l {ws : List Sh} {w : Sh} : outs (.l w :: ws) (d :: ds) (some e :: ρ) = (outs ws ds ρ).map (e :: ·) := rfl
@[simp] theorem outs_k {ws : List Sh} {w : Sh} : outs (.k w :: ws) (d :: ds) (some e :: ρ) = (outs ws ds ρ).map (e :: ·) := rfl
@[simp] theorem e_take {i : Nat} : EM.take i ρ = match ρ[i]? with
  | some (some d) => some (.ok d, ρ.set i none)
  | _ => none := rfl
end
/-! ### numbers, places -/
section
variable {i j : Int} {ds : List D} {d : D}
@[simp] theorem addI_i : addI (.int i) (.int j) = some (.int (i + j)) := rfl
@[simp] theorem subI_i : subI (.int i) (.int j) = some (.int (i - j)) := rfl
theorem mulI_i (h : i.natAbs < 2 ^ 250) (h' : j.natAbs < 2 ^ 250) : mulI (.int i) (.int j) = some (.int (i * j)) := by
  have l1 : ∀ n : Nat, n < 2 ^ 250 → n.log2 < 250 := fun n hn => by
    by_cases e : n = 0
    · subst e
      decide
    · exact (Nat.log2_lt e).mpr hn
  have q : mulOk i j = true := decide_eq_true (by
    have a := l1 _ h
    have b := l1 _ h'
    omega)
  show (if mulOk i j = true then some (D.int (i * j)) else none) = _
  rw [if_pos q]
theorem divI_i (h : 0 < j) (h' : j < 2 ^ 250) : divI (.int i) (.int j) = some (.int (i / j)) := by
  have q : divOk i j = true := decide_eq_true ⟨h, by
    have e : j.natAbs ≠ 0 := by omega
    have l := (Nat.log2_lt (k := 250) e).mpr (by omega)
    omega⟩
  show (if divOk i j = true then some (D.int (i / j)) else none) = _
  rw [if_pos q]
theorem modI_i (h : 0 < j) : modI (.int i) (.int j) = some (.int (i % j)) := by
  have q : modOk i j = true := decide_eq_true h
  show (if modOk i j = true then some (D.int (i % j)) else none) = _
  rw [if_pos q]
@[simp] theorem ltI_i : ltI (.int i) (.int j) = some (.bl (decide (i < j))) := rfl
@[simp] theorem leI_i : leI (.int i) (.int j) = some (.bl (decide (i ≤ j))) := rfl
@[simp] theorem gtI_i : gtI (.int i) (.int j) = some (.bl (decide (j < i))) := rfl
@[simp] theorem geI_i : geI (.int i) (.int j) = some (.bl (decide (j ≤ i))) := rfl
@[simp] theorem eqD_i : eqD (.int i) (.int j) = some (.bl (decide (i = j))) := by
  show some (D.bl (i == j)) = _
  rw [show (i == j) = decide (i = j) by by_cases h : i = j <;> simp [h]]
@[simp] theorem neD_i : neD (.int i) (.int j) = some (.bl (!decide (i = j))) := by
  show some (D.bl (!(i == j))) = _
  rw [show (i == j) = decide (i = j) by by_cases h : i = j <;> simp [h]]
theorem ixN_nat {n k : Nat} (h : k < n) : ixN n (k : Int) = some k := by
  unfold ixN
  rw [if_pos (by omega), if_pos (by omega)]
  simp
theorem atI_nat {α : Type} {xs : List α} {k : Nat} (h : k < xs.length) : atI xs (k : Int) = some xs[k] := by
  unfold atI
  rw [ixN_nat h]
  simp [h]
@[simp] theorem ix_tup_ : ixSeq (.tup ds) (.int i) = atI ds i := rfl
@[simp] theorem ix_lst_ : ixSeq (.lst ds) (.int i) = atI ds i := rfl
@[simp] theorem ix_ktup_ : ixSeq (.ktup ds) (.int i) = atI ds i := rfl
@[simp] theorem len_tup : lenD [.tup ds] = some (.int ds.length) := rfl
@[simp] theorem len_lst : lenD [.lst ds] = some (.int ds.length) := rfl
@[simp] theorem len_ktup : lenD [.ktup ds] = some (.int ds.length) := rfl
@[simp] theorem int_i : intD [.int i] = some (.int i) := rfl
@[simp] theorem abs_i : absD [.int i] = some (.int (if i < 0 then -i else i)) := rfl
@[simp] theorem seq_tup : seqD (.tup ds) = some ds := rfl
@[simp] theorem seq_lst : seqD (.lst ds) = some ds := rfl
@[simp] theorem seq_ktup : seqD (.ktup ds) = some ds := rfl
@[simp] theorem tupleK_l : tupleK [.lst ds] = some (.ktup ds) := rfl
@[simp] theorem tupleOf_l : tupleOf [.lst ds] = some (.tup ds) := rfl
def dints (ns : List Int) : List D := ns.map fun i => D.int i
@[simp] theorem asInts_ints {ns : List Int} : asInts (dints ns) = some ns := by
  induction ns with
  | nil => rfl
  | cons n ns ih =>
    show asInts (.int n :: dints ns) = _
    unfold asInts
    rw [ih]
    rfl
@[simp] theorem ints_len {ns : List Int} : (dints ns).length = ns.length := List.length_map ..
theorem ints_get {ns : List Int} {k : Nat} (h : k < ns.length) : atI (dints ns) (k : Int) = some (.int ns[k]) := by
  rw [atI_nat (by simpa using h)]
  simp [dints]
@[simp] theorem ints_imm {ns : List Int} : (dints ns).all imm = true := by simp [dints]
@[simp] theorem ints_imm2 {ns : List Int} : (dints ns).all (immO .s) = true := by simp [dints]
theorem pys_ints {ns : List Int} : pys (dints ns) = some (ns.map PyData.int) := by
  induction ns with
  | nil => rfl
  | cons n ns ih =>
    show (match D.py (.int n), pys (dints ns) with
      | some p, some ps => some (p :: ps)
      | _, _ => none) = _
    rw [ih]
    rfl
theorem shaped_ints (ns : List Int) : SeqAt.shaped (.tuple (ns.map PyData.int)) = true := by
  have a : PyData.canLayAll0 (ns.map PyData.int) = true := by
    induction ns with
    | nil => rfl
    | cons n ns ih =>
      show (true && PyData.canLayAll0 (ns.map PyData.int)) = true
      rw [ih]
      rfl
  have b : PyData.depth (.tuple (ns.map PyData.int)) ≤ 64 := by
    show PyData.depthAll (ns.map PyData.int) + 1 ≤ 64
    rw [PySem.W.ke_depthAll]
    decide
  show (PyData.canLayAll0 (ns.map PyData.int) && decide (PyData.depth (.tuple (ns.map PyData.int)) ≤ 64)) = true
  rw [a, decide_eq_true b]
  rfl
theorem eqv_ints : ∀ {ns ms : List Int}, PyData.eqv (.tuple (ns.map PyData.int)) (.tuple (ms.map PyData.int)) = decide (ns = ms)
  | ns, ms => by
    have q : ∀ {ns ms : List Int}, PyData.eqvAll (ns.map PyData.int) (ms.map PyData.int) = decide (ns = ms) := by
      intro ns
      induction ns with
      | nil => intro ms; cases ms <;> simp [PyData.eqvAll]
      | cons n ns ih =>
        intro ms
        cases ms with
        | nil => simp [PyData.eqvAll]
        | cons m ms =>
          have z : (n == m) = decide (n = m) := by by_cases h : n = m <;> simp [h]
          simp [PyData.eqvAll, PyData.eqv, ih, z]
    simp [PyData.eqv, q]
@[simp] theorem py_tup {ds : List D} : D.py (.tup ds) = (pys ds).map .tuple := rfl
@[simp] theorem py_ktup {ds : List D} : D.py (.ktup ds) = (pys ds).map .tuple := rfl
/-- tuples of ints, compared -/
def isT (d : D) (ns : List Int) : Prop := d = .tup (dints ns) ∨ d = .ktup (dints ns)
theorem isT_eq {d e : D} {ns ms : List Int} (h : isT d ns) (h' : isT e ms) : eqD d e = some (.bl (decide (ns = ms))) := by
  have p : D.py d = some (.tuple (ns.map PyData.int)) := by rcases h with rfl | rfl <;> simp [pys_ints]
  have q : D.py e = some (.tuple (ms.map PyData.int)) := by rcases h' with rfl | rfl <;> simp [pys_ints]
  unfold eqD
  rw [p, q]
  simp only [shaped_ints, Bool.and_self, if_true, eqv_ints]
theorem isT_ne {d e : D} {ns ms : List Int} (h : isT d ns) (h' : isT e ms) : neD d e = some (.bl (!decide (ns = ms))) := by
  have p : D.py d = some (.tuple (ns.map PyData.int)) := by rcases h with rfl | rfl <;> simp [pys_ints]
  have q : D.py e = some (.tuple (ms.map PyData.int)) := by rcases h' with rfl | rfl <;> simp [pys_ints]
  unfold neD
  rw [p, q]
  simp only [shaped_ints, Bool.and_self, if_true, eqv_ints]
end
/-! ### slots by place -/
section
variable {α : Type} {l : List α}
@[simp] theorem slot0 {x0 : α} : (x0 :: l)[0]? = some x0 := rfl
@[simp] theorem slot1 {x0 x1 : α} : (x0 :: x1 :: l)[1]? = some x1 := rfl
@[simp] theorem slot2 {x0 x1 x2 : α} : (x0 :: x1 :: x2 :: l)[2]? = some x2 := rfl
@[simp] theorem slot3 {x0 x1 x2 x3 : α} : (x0 :: x1 :: x2 :: x3 :: l)[3]? = some x3 := rfl
@[simp] theorem slot4 {x0 x1 x2 x3 x4 : α} : (x0 :: x1 :: x2 :: x3 :: x4 :: l)[4]? = some x4 := rfl
@[simp] theorem slot5 {x0 x1 x2 x3 x4 x5 : α} : (x0 :: x1 :: x2 :: x3 :: x4 :: x5 :: l)[5]? = some x5 := rfl
@[simp] theorem slot6 {x0 x1 x2 x3 x4 x5 x6 : α} : (x0 :: x1 :: x2 :: x3 :: x4 :: x5 :: x6 :: l)[6]? = some x6 := rfl
@[simp] theorem slot7 {x0 x1 x2 x3 x4 x5 x6 x7 : α} : (x0 :: x1 :: x2 :: x3 :: x4 :: x5 :: x6 :: x7 :: l)[7]? = some x7 := rfl
@[simp] theorem slot8 {x0 x1 x2 x3 x4 x5 x6 x7 x8 : α} : (x0 :: x1 :: x2 :: x3 :: x4 :: x5 :: x6 :: x7 :: x8 :: l)[8]? = some x8 := rfl
@[simp] theorem slot9 {x0 x1 x2 x3 x4 x5 x6 x7 x8 x9 : α} : (x0 :: x1 :: x2 :: x3 :: x4 :: x5 :: x6 :: x7 :: x8 :: x9 :: l)[9]? = some x9 := rfl
@[simp] theorem slot10 {x0 x1 x2 x3 x4 x5 x6 x7 x8 x9 x10 : α} : (x0 :: x1 :: x2 :: x3 :: x4 :: x5 :: x6 :: x7 :: x8 :: x9 :: x10 :: l)[10]? = some x10 := rfl
@[simp] theorem slot11 {x0 x1 x2 x3 x4 x5 x6 x7 x8 x9 x10 x11 : α} : (x0 :: x1 :: x2 :: x3 :: x4 :: x5 :: x6 :: x7 :: x8 :: x9 :: x10 :: x11 :: l)[11]? = some x11 := rfl
@[simp] theorem slot12 {x0 x1 x2 x3 x4 x5 x6 x7 x8 x9 x10 x11 x12 : α} : (x0 :: x1 :: x2 :: x3 :: x4 :: x5 :: x6 :: x7 :: x8 :: x9 :: x10 :: x11 :: x12 :: l)[12]? = some x12 := rfl
@[simp] theorem slot13 {x0 x1 x2 x3 x4 x5 x6 x7 x8 x9 x10 x11 x12 x13 : α} : (x0 :: x1 :: x2 :: x3 :: x4 :: x5 :: x6 :: x7 :: x8 :: x9 :: x10 :: x11 :: x12 :: x13 :: l)[13]? = some x13 := rfl
@[simp] theorem slot14 {x0 x1 x2 x3 x4 x5 x6 x7 x8 x9 x10 x11 x12 x13 x14 : α} : (x0 :: x1 :: x2 :: x3 :: x4 :: x5 :: x6 :: x7 :: x8 :: x9 :: x10 :: x11 :: x12 :: x13 :: x14 :: l)[14]? = some x14 := rfl
@[simp] theorem slot15 {x0 x1 x2 x3 x4 x5 x6 x7 x8 x9 x10 x11 x12 x13 x14 x15 : α} : (x0 :: x1 :: x2 :: x3 :: x4 :: x5 :: x6 :: x7 :: x8 :: x9 :: x10 :: x11 :: x12 :: x13 :: x14 :: x15 :: l)[15]? = some x15 := rfl
@[simp] theorem slot16 {x0 x1 x2 x3 x4 x5 x6 x7 x8 x9 x10 x11 x12 x13 x14 x15 x16 : α} : (x0 :: x1 :: x2 :: x3 :: x4 :: x5 :: x6 :: x7 :: x8 :: x9 :: x10 :: x11 :: x12 :: x13 :: x14 :: x15 :: x16 :: l)[16]? = some x16 := rfl
@[simp] theorem slot17 {x0 x1 x2 x3 x4 x5 x6 x7 x8 x9 x10 x11 x12 x13 x14 x15 x16 x17 : α} : (x0 :: x1 :: x2 :: x3 :: x4 :: x5 :: x6 :: x7 :: x8 :: x9 :: x10 :: x11 :: x12 :: x13 :: x14 :: x15 :: x16 :: x17 :: l)[17]? = some x17 := rfl
@[simp] theorem slot18 {x0 x1 x2 x3 x4 x5 x6 x7 x8 x9 x10 x11 x12 x13 x14 x15 x16 x17 x18 : α} : (x0 :: x1 :: x2 :: x3 :: x4 :: x5 :: x6 :: x7 :: x8 :: x9 :: x10 :: x11 :: x12 :: x13 :: x14 :: x15 :: x16 :: x17 :: x18 :: l)[18]? = some x18 := rfl
@[simp] theorem slot19 {x0 x1 x2 x3 x4 x5 x6 x7 x8 x9 x10 x11 x12 x13 x14 x15 x16 x17 x18 x19 : α} : (x0 :: x1 :: x2 :: x3 :: x4 :: x5 :: x6 :: x7 :: x8 :: x9 :: x10 :: x11 :: x12 :: x13 :: x14 :: x15 :: x16 :: x17 :: x18 :: x19 :: l)[19]? = some x19 := rfl
@[simp] theorem slot20 {x0 x1 x2 x3 x4 x5 x6 x7 x8 x9 x10 x11 x12 x13 x14 x15 x16 x17 x18 x19 x20 : α} : (x0 :: x1 :: x2 :: x3 :: x4 :: x5 :: x6 :: x7 :: x8 :: x9 :: x10 :: x11 :: x12 :: x13 :: x14 :: x15 :: x16 :: x17 :: x18 :: x19 :: x20 :: l)[20]? = some x20 := rfl
@[simp] theorem slot21 {x0 x1 x2 x3 x4 x5 x6 x7 x8 x9 x10 x11 x12 x13 x14 x15 x16 x17 x18 x19 x20 x21 : α} : (x0 :: x1 :: x2 :: x3 :: x4 :: x5 :: x6 :: x7 :: x8 :: x9 :: x10 :: x11 :: x12 :: x13 :: x14 :: x15 :: x16 :: x17 :: x18 :: x19 :: x20 :: x21 :: l)[21]? = some x21 := rfl
@[simp] theorem slot22 {x0 x1 x2 x3 x4 x5 x6 x7 x8 x9 x10 x11 x12 x13 x14 x15 x16 x17 x18 x19 x20 x21 x22 : α} : (x0 :: x1 :: x2 :: x3 :: x4 :: x5 :: x6 :: x7 :: x8 :: x9 :: x10 :: x11 :: x12 :: x13 :: x14 :: x15 :: x16 :: x17 :: x18 :: x19 :: x20 :: x21 :: x22 :: l)[22]? = some x22 := rfl
@[simp] theorem slot23 {x0 x1 x2 x3 x4 x5 x6 x7 x8 x9 x10 x11 x12 x13 x14 x15 x16 x17 x18 x19 x20 x21 x22 x23 : α} : (x0 :: x1 :: x2 :: x3 :: x4 :: x5 :: x6 :: x7 :: x8 :: x9 :: x10 :: x11 :: x12 :: x13 :: x14 :: x15 :: x16 :: x17 :: x18 :: x19 :: x20 :: x21 :: x22 :: x23 :: l)[23]? = some x23 := rfl
end
/-! ### comprehensions, loops -/
theorem lcGo_pure {α : Type} {enc : α → D} {i : Nat} {tt : EM Bool} {te : EM D} {p : α → Bool} {g : α → D} {σ : Rho} : ∀ {xs : List α},
    (∀ x ∈ xs, tt (σ.set i (some (enc x))) = some (.ok (p x), σ.set i (some (enc x)))) → (∀ x ∈ xs, p x = true → te (σ.set i (some (enc x))) = some (.ok (g x), σ.set i (some (enc x)))) →
    lcGo [i] (tgN i) tt te (xs.map enc) (σ.set i none) = some ((xs.filter p).map g, σ.set i none)
  | [], _, _ => rfl
  | x :: xs, h1, h2 => by
    have ih := lcGo_pure (xs := xs) (fun y hy => h1 y (List.mem_cons_of_mem _ hy)) fun y hy => h2 y (List.mem_cons_of_mem _ hy)
    have e : tgN i (enc x) (σ.set i none) = some (σ.set i (some (enc x))) := by
      show some ((σ.set i none).set i (some (enc x))) = _
      rw [List.set_set]
    have w : ∀ d : D, wipeR (σ.set i (some d)) [i] = σ.set i none := fun d => by
      show (σ.set i (some d)).set i none = _
      rw [List.set_set]
    rw [List.map_cons]
    unfold lcGo
    rw [e]
    show (match tt (σ.set i (some (enc x))) with
      | some (.ok true, ρ2) => match te ρ2 with
        | some (.ok y, ρ3) => (lcGo [i] (tgN i) tt te (xs.map enc) (wipeR ρ3 [i])).map fun (q : List D × Rho) => (y :: q.1, q.2)
        | _ => none
      | some (.ok false, ρ2) => lcGo [i] (tgN i) tt te (xs.map enc) (wipeR ρ2 [i])
      | _ => none) = _
    rw [h1 x (by simp)]
    cases hp : p x with
    | false =>
      show lcGo [i] (tgN i) tt te (xs.map enc) (wipeR (σ.set i (some (enc x))) [i]) = _
      rw [w, ih, List.filter_cons_of_neg (by rw [hp]; exact Bool.false_ne_true)]
    | true =>
      show (match te (σ.set i (some (enc x))) with
        | some (.ok y, ρ3) => (lcGo [i] (tgN i) tt te (xs.map enc) (wipeR ρ3 [i])).map fun (q : List D × Rho) => (y :: q.1, q.2)
        | _ => none) = _
      rw [h2 x (by simp) hp]
      show (lcGo [i] (tgN i) tt te (xs.map enc) (wipeR (σ.set i (some (enc x))) [i])).map (fun (q : List D × Rho) => (g x :: q.1, q.2)) = _
      rw [w, ih, List.filter_cons_of_pos hp]
      rfl
/-- a comprehension of one clause whose test and element only read -/
theorem lc_pure {α : Type} {enc : α → D} {xs : List α} {i : Nat} {it : EM (List D)} {tt : EM Bool} {te : EM D} (p : α → Bool) (g : α → D) {ρ σ : Rho} (hi : it ρ = some (.ok (xs.map enc), σ)) (hl : xs.length ≤ 1000000)
    (h1 : ∀ x ∈ xs, tt (σ.set i (some (enc x))) = some (.ok (p x), σ.set i (some (enc x)))) (h2 : ∀ x ∈ xs, p x = true → te (σ.set i (some (enc x))) = some (.ok (g x), σ.set i (some (enc x)))) :
    EM.lc [i] it (tgN i) tt te ρ = some (.ok (.lst ((xs.filter p).map g)), σ) := by
  unfold EM.lc
  rw [hi]
  have q := lcGo_pure (i := i) (σ := σ) h1 h2
  show (if (xs.map enc).length ≤ 1000000 then (lcGo [i] (tgN i) tt te (xs.map enc) (σ.set i none)).map (fun (q : List D × Rho) => ((Rs.ok (D.lst q.1) : Rs D), back σ q.2 [i])) else none) = _
  rw [if_pos (by simpa using hl), q]
  show some (Rs.ok (D.lst ((xs.filter p).map g)), back σ (σ.set i none) [i]) = _
  have b : back σ (σ.set i none) [i] = σ := by
    apply List.ext_getElem?
    intro j
    show ((σ.set i none).set i (σ.getD i none))[j]? = _
    rw [List.set_set]
    by_cases h : i = j
    · subst h
      by_cases hl : i < σ.length
      · rw [List.getElem?_set_self hl]
        simp [List.getD_eq_getElem?_getD, hl]
      · rw [List.getElem?_eq_none (by simpa using hl), List.getElem?_eq_none (by simpa using hl)]
    · rw [List.getElem?_set_ne h]
  rw [b]
/-- the same without a test -/
theorem lc_all {α : Type} {enc : α → D} {xs : List α} {i : Nat} {it : EM (List D)} {te : EM D} (g : α → D) {ρ σ : Rho} (hi : it ρ = some (.ok (xs.map enc), σ)) (hl : xs.length ≤ 1000000)
    (h2 : ∀ x ∈ xs, te (σ.set i (some (enc x))) = some (.ok (g x), σ.set i (some (enc x)))) : EM.lc [i] it (tgN i) (EM.ret true) te ρ = some (.ok (.lst (xs.map g)), σ) := by
  have := lc_pure (tt := EM.ret true) (fun _ => true) g hi hl (fun _ _ => rfl) fun x hx _ => h2 x hx
  rw [this, List.filter_eq_self.mpr fun _ _ => rfl]
/-- a loop whose body goes on each time: what holds between the turns -/
theorem each_inv {α : Type} {enc : α → D} {tg : TD} {body : SM} (I : Nat → Rho → Prop) : ∀ {xs : List α} {n : Nat} {ρ : Rho}, I n ρ →
    (∀ i x ρ, xs[i]? = some x → I (n + i) ρ → ∃ ρ1 ρ2, tg (enc x) ρ = some ρ1 ∧ (body ρ1 = some (.nx, ρ2) ∨ body ρ1 = some (.ct, ρ2)) ∧ I (n + i + 1) ρ2) → ∃ ρ', SM.each tg body (xs.map enc) ρ = some (.nx, ρ') ∧ I (n + xs.length) ρ'
  | [], n, ρ, h, _ => ⟨ρ, rfl, h⟩
  | x :: xs, n, ρ, h, st => by
    obtain ⟨ρ1, ρ2, h1, h2, h3⟩ := st 0 x ρ rfl h
    obtain ⟨ρ', h4, h5⟩ := each_inv I (xs := xs) (n := n + 1) (ρ := ρ2) h3 fun i y ρ hy hI => by
      obtain ⟨r1, r2, a, b, c⟩ := st (i + 1) y ρ (by simpa using hy) (by rw [show n + (i + 1) = n + 1 + i by omega]; exact hI)
      exact ⟨r1, r2, a, b, by rw [show n + 1 + i + 1 = n + (i + 1) + 1 by omega]; exact c⟩
    refine ⟨ρ', ?_, by rw [List.length_cons, show n + (xs.length + 1) = n + 1 + xs.length by omega]; exact h5⟩
    rw [List.map_cons]
    unfold SM.each
    rw [h1]
    rcases h2 with h2 | h2
    · show (match body ρ1 with
        | some (.nx, ρ2) => SM.each tg body (xs.map enc) ρ2
        | some (.ct, ρ2) => SM.each tg body (xs.map enc) ρ2
        | some (.bk, ρ2) => some (.nx, ρ2)
        | o => o) = _
      rw [h2]
      exact h4
    · show (match body ρ1 with
        | some (.nx, ρ2) => SM.each tg body (xs.map enc) ρ2
        | some (.ct, ρ2) => SM.each tg body (xs.map enc) ρ2
        | some (.bk, ρ2) => some (.nx, ρ2)
        | o => o) = _
      rw [h2]
      exact h4
/-- a loop that folds -/
theorem each_fold {α β : Type} {enc : α → D} {tg : TD} {body : SM} (st : β → Rho) (step : β → α → β) : ∀ {xs : List α} {b : β},
    (∀ x ∈ xs, ∀ b, ∃ ρ1, tg (enc x) (st b) = some ρ1 ∧ body ρ1 = some (.nx, st (step b x))) → SM.each tg body (xs.map enc) (st b) = some (.nx, st (xs.foldl step b))
  | [], b, _ => rfl
  | x :: xs, b, h => by
    obtain ⟨ρ1, h1, h2⟩ := h x (by simp) b
    rw [List.map_cons]
    unfold SM.each
    rw [h1]
    show (match body ρ1 with
      | some (.nx, ρ2) => SM.each tg body (xs.map enc) ρ2
      | some (.ct, ρ2) => SM.each tg body (xs.map enc) ρ2
      | some (.bk, ρ2) => some (.nx, ρ2)
      | o => o) = _
    rw [h2]
    exact each_fold st step fun y hy b => h y (List.mem_cons_of_mem _ hy) b
@[simp] theorem tgN_e {i : Nat} {d : D} {ρ : Rho} : tgN i d ρ = some (ρ.set i (some d)) := rfl
theorem rangeD_nat (n : Nat) : rangeD 0 (n : Int) = (List.range n).map fun (i : Nat) => D.int i := by
  unfold rangeD
  simp
theorem range1_nat {n : Nat} (h : n ≤ 1000000000) : range1 [.int (n : Int)] = some ((List.range n).map fun (i : Nat) => D.int i) := by
  show (if -1000000000 ≤ (n : Int) ∧ (n : Int) ≤ 1000000000 then some (rangeD 0 n) else none) = _
  rw [if_pos (by omega), rangeD_nat]
@[simp] theorem rng1_i {ρ : Rho} {m : EM (List D)} : EM.rng1 m ρ = bindK (m ρ) fun ds => EM.lift (range1 ds) := rfl
@[simp] theorem rng2_i {ρ : Rho} {m : EM (List D)} : EM.rng2 m ρ = bindK (m ρ) fun ds => EM.lift (range2 ds) := rfl
@[simp] theorem seqOf_e {ρ : Rho} {m : EM D} : EM.seqOf m ρ = bindK (m ρ) fun d => EM.lift (seqD d) := rfl
@[simp] theorem revOf_e {ρ : Rho} {m : EM D} : EM.revOf m ρ = bindK (m ρ) fun d => EM.lift ((seqD d).map List.reverse) := rfl
end Cl
namespace Cl
open PySem PySem.Spec PyProof.Rows L2
/-! ### the head's facts, tuples among them -/
def ktB (K : PySem.W.Frag) (x : Str) (vs : List He.Dv) : Bool := match K.lookup (He.ga K x) with
  | some o => (match o.cls with
    | .type c => decide (c = "tuple")
    | _ => false) && (o.dict.isNone && (match o.data with
    | .seq its _ => decide (its.size ≤ sizeLine) && He.relAll (vs.map (He.Dv.v K)) its.toList
    | _ => false))
  | none => false
theorem ktB_ok {K : PySem.W.Frag} {x : Str} {vs : List He.Dv} (h : ktB K x vs = true) (S : Hp) : KT K S (He.ga K x) (vs.map (He.Dv.v K)) := by
  unfold ktB at h
  split at h
  · rename_i o q
    obtain ⟨h1, h2⟩ := He.ba h
    obtain ⟨h3, h4⟩ := He.ba h2
    split at h1
    · rename_i c hc
      split at h4
      · rename_i its n hd
        obtain ⟨h5, h6⟩ := He.ba h4
        refine .inr ⟨o, its, n, q, by rw [hc, of_decide_eq_true h1], ?_, hd, of_decide_eq_true h5, He.relAll_ok h6⟩
        cases e : o.dict with
        | none => rfl
        | some d =>
          rw [e] at h3
          cases h3
      · cases h4
    · cases h1
  · cases h
abbrev AlE : Type := He.AlD × Bool
def obsE (n : Nat) (fa : List He.Fa) (fn : List He.DefD) (ex : PySem.W.Frag → Bool) (g : Addr → Option Obj) : AlE := (He.obsD fa fn (He.frG g (He.asD g n)), ex (He.frG g (He.asD g n)))
def hookE (n : Nat) (fa : List He.Fa) (fn : List He.DefD) (ex : PySem.W.Frag → Bool) : PySem.W.Hook where
  α := AlE
  obs := fun s => obsE n fa fn ex s.heap.get?
  val := fun _ => (He.valD fn, true)
  says := fun _ h => ∃ K : PySem.W.Frag, K.In h ∧ He.SaysD fa fn K ∧ ex K = true
  of := fun _ _ e => ⟨_, He.frG_in, congrArg (fun z : AlE => z.1) e, congrArg (fun z : AlE => z.2) e⟩
  keeps := fun _ _ _ ⟨K, hK, c⟩ k => ⟨K, PySem.W.Frag.In.keeps hK k, c⟩
theorem obsE_eq {n : Nat} {fa : List He.Fa} {fn : List He.DefD} {ex : PySem.W.Frag → Bool} {g : Addr → Option Obj} {s : Shared} (h : ∀ a, g a = s.heap.get? a) : obsE n fa fn ex g = (hookE n fa fn ex).obs s := by
  rw [show g = s.heap.get? from funext h]
  rfl
theorem gi_of {mg : Str → Option Value} {x : Str} {n : Int} (h : ∃ t, mg x = some (.int n t)) : GI mg x n := by
  obtain ⟨t, h⟩ := h
  exact ⟨_, h, t, rfl⟩
theorem gt_of {K : PySem.W.Frag} {mg : Str → Option Value} {x : Str} {vs : List He.Dv} {ds : List D} (h : mg x = some (.ref (He.ga K x))) (e : ktB K x vs = true) (r : ∀ {S : Hp}, Reps K S (vs.map (He.Dv.v K)) ds) : GT K mg x ds :=
  ⟨_, h, fun S => ⟨_, _, rfl, ktB_ok e S, r⟩⟩
theorem exc_of {K : PySem.W.Frag} {mg : Str → Option Value} {x : Str} (h : mg x = some (.ref (He.ga K x))) (e : PySem.W.excIn K (He.ga K x) He.veBase "ValueError.__new__" = true ∧ PySem.W.keepIn K (.ref (He.ga K x)) = true ∧ PySem.W.subIn K (.ref (He.ga K x)) (.type "BaseException") = some true ∧ PySem.W.typeIn K (.ref (He.ga K x)) = some (.type "type")) : ExC K mg x (He.ga K x) :=
  ⟨h, e.1, e.2.1, e.2.2.1, e.2.2.2⟩
theorem gd_of {K : PySem.W.Frag} {mg : Str → Option Value} {x : Str} {st : Stmt} {f : Addr} (h : mg x = some (.ref f)) (e : ∃ fd, FunD K x x (defArgs st) (defBody st) (defScope st) [] [] f fd) : GD K mg x st := ⟨f, h, e⟩
/-- a law's end, the exceptions' way known for each world -/
theorem walk_w {l : PySem.W.OpenLaw} {n k : Nat} {q : Program} {loose : List Str} {XP : (Str → Option Value) → Heap → Prop} {YP : World → Heap → Prop} {d : DefRec} {CX : World → CXT} {x : Str}
    (hn : l.most = some n) (hz : n ≤ sizeLine) (hdf : d.params.defaults = []) (hr : Room k callerA) (hCX : ∀ (w : World) (H : Hp) (s : Shared) (e : Value) (s' : Shared), CX w [] H s (fun _ _ _ => False) e s' → False)
    (F : ∀ (w : World) (mg : Str → Option Value) (fa : Addr) (h : Heap), YP w h → h.Ns mainGlobals mg → mg d.name = some (.ref fa) → ∃ (K : PySem.W.Frag) (fd : FuncData) (sp : Sp), K.In h ∧ (∀ (s : Shared) (u : Value), BindsTo s fd ⟨[u], []⟩ [(x, u)]) ∧
      (∀ (H : Hp) (a : Addr) (ns : List Int), SqL K H a (ns.map V.int) → sp [.ref a] H (fun v _ => v = .bl true) fun _ _ _ => False) ∧ ∀ base : Heap, FnOk l.prog w K mg base (CX w) k fa fd [x] sp) : PySem.W.WalkO q loose XP YP l.row.toRowW d [] (fun f vs => PySem.call f vs) :=
  Att.attach_call hn hdf fun w s₀ s₁ mg mb fa o pm cd doc a vs ns G Y _ _ _ hm ho hi hl hg => by
    obtain ⟨K, fd, sp, KX, b, hs, f⟩ := F w mg fa _ Y G.T.g hm
    exact law_call KX G.T.g G.T.b G.T.builtins G.T.nolimit hg ho hi (Nat.le_trans hl hz) hr (fun base _ _ => f base) b (fun H _ S => hs H a ns S) (hCX w · s₁)
/-- the law's start -/
theorem law_start {K : PySem.W.Frag} {f : FD} {H : Hp} {a : Addr} {ns : List Int} (hs : SqL K H a (ns.map V.int)) (h : f [.scr ns] = some (.ok (.bl true), [.scr ns])) : spF K [.s] .s f [.ref a] H (fun v _ => v = .bl true) fun _ _ _ => False := by
  refine ⟨H, [], [.scr ns], _, _, Same.refl H, ?_, List.nodup_nil, fun a ha => absurd ha (by simp), h, fun d e v S' H' as' bs _ _ _ ow _ _ => ?_, fun c x e => by cases e⟩
  · exact ⟨_, _, _, _, [], [], rfl, rfl, rfl, own_s ⟨a, rfl, hs⟩, rfl, rfl, rfl⟩
  · cases e
    exact (Own.ss ow).2
end Cl
namespace LW
open PySem PySem.Spec PyProof.Rows L2 Cl
def top (i : Nat) : Stmt := PySem.Challenge.pw_owncause_k48_whole_numbers_of_many_membe.main.body.getD i (.Pass ⟨0, 0, 0, 0⟩)
abbrev s_is_integer : Stmt := top 6
abbrev s_is_within : Stmt := top 7
abbrev s_is_many : Stmt := top 8
abbrev s_plain : Stmt := top 10
abbrev s_slips_of : Stmt := top 11
abbrev s_unlike_in : Stmt := top 12
abbrev s_has_yes : Stmt := top 13
abbrev s_turned : Stmt := top 14
abbrev s_check_numbers : Stmt := top 21
abbrev s_are_possible : Stmt := top 22
abbrev s_can_be_often : Stmt := top 23
abbrev s_coupling_often : Stmt := top 24
abbrev s_without : Stmt := top 25
abbrev s_with_couples : Stmt := top 26
abbrev s_doubled : Stmt := top 27
abbrev s_turned_all : Stmt := top 28
abbrev s_six_nearly : Stmt := top 29
abbrev s__law_dice : Stmt := top 31
abbrev s__law_draw : Stmt := top 32
abbrev s__law_power : Stmt := top 33
abbrev s__law_turned : Stmt := top 34
abbrev s__law_is_count : Stmt := top 35
abbrev s__law_is_coupling : Stmt := top 36
abbrev s__law_order : Stmt := top 37
abbrev s__law_often : Stmt := top 38
abbrev s__law_flag : Stmt := top 39
abbrev s__law_fours : Stmt := top 40
abbrev s__law_near : Stmt := top 41
abbrev s_law : Stmt := top 42
/-! ### the law's own names -/
structure Ad where
  NoNumbers : Addr
def t_FIRST_HALF : List D := [.int 4, .int 4, .int 4, .int 2, .int 2]
def t_FOUR_ALIKE : List D := [.int 2, .int 2, .int 2, .int 2]
def t_FOUR_COUPLING : List D := [.int 3, .int 3, .int 1, .int 1, .int 0, .int 0, .int 1, .int 1, .int 2, .int 2, .int 2, .int 2, .int 0, .int 0, .int 3, .int 3]
def t_POWERS : List D := [.int 1, .int 2, .int 4, .int 8, .int 16, .int 32, .int 64, .int 128, .int 256]
def t_SECOND_HALF : List D := [.int 4, .int 2, .int 2, .int 4, .int 4]
def t_SIX_NEARLY : List D := [.int 2, .int 6, .int 6, .int 6, .int 6, .int 6]
structure Fc (A : Ad) (K : PySem.W.Frag) (mg : Str → Option Value) : Prop where
  b_abs : mg "abs" = none
  b_all : mg "all" = none
  b_bool : mg "bool" = none
  b_enumerate : mg "enumerate" = none
  b_int : mg "int" = none
  b_isinstance : mg "isinstance" = none
  b_len : mg "len" = none
  b_list : mg "list" = none
  b_max : mg "max" = none
  b_min : mg "min" = none
  b_range : mg "range" = none
  b_reversed : mg "reversed" = none
  b_sorted : mg "sorted" = none
  b_sum : mg "sum" = none
  b_tuple : mg "tuple" = none
  i_MOST_MEMBERS : GI mg "MOST_MEMBERS" 8
  t_FIRST_HALF : GT K mg "FIRST_HALF" t_FIRST_HALF
  t_FOUR_ALIKE : GT K mg "FOUR_ALIKE" t_FOUR_ALIKE
  t_FOUR_COUPLING : GT K mg "FOUR_COUPLING" t_FOUR_COUPLING
  t_POWERS : GT K mg "POWERS" t_POWERS
  t_SECOND_HALF : GT K mg "SECOND_HALF" t_SECOND_HALF
  t_SIX_NEARLY : GT K mg "SIX_NEARLY" t_SIX_NEARLY
  x_NoNumbers : ExC K mg "NoNumbers" A.NoNumbers
  d_is_integer : GD K mg "is_integer" s_is_integer
  d_is_within : GD K mg "is_within" s_is_within
  d_is_many : GD K mg "is_many" s_is_many
  d_plain : GD K mg "plain" s_plain
  d_slips_of : GD K mg "slips_of" s_slips_of
  d_unlike_in : GD K mg "unlike_in" s_unlike_in
  d_has_yes : GD K mg "has_yes" s_has_yes
  d_turned : GD K mg "turned" s_turned
  d_check_numbers : GD K mg "check_numbers" s_check_numbers
  d_are_possible : GD K mg "are_possible" s_are_possible
  d_can_be_often : GD K mg "can_be_often" s_can_be_often
  d_without : GD K mg "without" s_without
  d_turned_all : GD K mg "turned_all" s_turned_all
  d_six_nearly : GD K mg "six_nearly" s_six_nearly
  d_doubled : GD K mg "doubled" s_doubled
  d_with_couples : GD K mg "with_couples" s_with_couples
  d_coupling_often : GD K mg "coupling_often" s_coupling_often
  d__law_dice : GD K mg "_law_dice" s__law_dice
  d__law_draw : GD K mg "_law_draw" s__law_draw
  d__law_power : GD K mg "_law_power" s__law_power
  d__law_turned : GD K mg "_law_turned" s__law_turned
  d__law_is_count : GD K mg "_law_is_count" s__law_is_count
  d__law_is_coupling : GD K mg "_law_is_coupling" s__law_is_coupling
  d__law_order : GD K mg "_law_order" s__law_order
  d__law_often : GD K mg "_law_often" s__law_often
  d__law_flag : GD K mg "_law_flag" s__law_flag
  d__law_fours : GD K mg "_law_fours" s__law_fours
  d__law_near : GD K mg "_law_near" s__law_near
  d_law : GD K mg "law" s_law
section
def m_is_integer (A : Ad) : SM :=
  SM.ret (EM.and_ (EM.opn isiD (EM.cons (EM.get 0) (EM.cons (EM.ret (.ty "int")) (EM.ret [])))) (EM.not_ (EM.opn isiD (EM.cons (EM.get 0) (EM.cons (EM.ret (.ty "bool")) (EM.ret []))))))
def F_is_integer (A : Ad) : FD := runF 1 [.s] (m_is_integer A)
def m_is_within (A : Ad) : SM :=
  SM.ret (EM.and_ (EM.call (F_is_integer A) [none] (EM.cons (EM.get 0) (EM.ret []))) (EM.chain leI leI (EM.get 1) (EM.get 0) (EM.get 2)))
def F_is_within (A : Ad) : FD := runF 3 [.s, .s, .s] (m_is_within A)
def m_is_many (A : Ad) : SM :=
  SM.ret (EM.call (F_is_within A) [none, none, none] (EM.cons (EM.get 0) (EM.cons (EM.ret (.int 1)) (EM.cons (EM.ret (.int 8)) (EM.ret [])))))
def F_is_many (A : Ad) : FD := runF 1 [.s] (m_is_many A)
def m_plain (A : Ad) : SM :=
  SM.ret (EM.op2 repT (EM.opn tupD (EM.cons (EM.ret (.int 2)) (EM.ret []))) (EM.get 0))
def F_plain (A : Ad) : FD := runF 1 [.s] (m_plain A)
def m_slips_of (A : Ad) : SM :=
  SM.seq (SM.set 2 (EM.opl lit4 (EM.ret [])))
    (SM.seq (SM.for_ (EM.revOf (EM.get 0)) (tgN 3) (SM.seq (SM.drop (EM.modL 2 appendF (EM.cons (EM.op2 modI (EM.get 1) (EM.get 3)) (EM.ret []))))
    (SM.set 1 (EM.op2 divI (EM.get 1) (EM.get 3)))))
    (SM.ret (EM.lend .s (EM.tupRev (EM.get 2)))))
def F_slips_of (A : Ad) : FD := runF 4 [.s, .s] (m_slips_of A)
def m_unlike_in (A : Ad) : SM :=
  SM.seq (SM.set 3 (EM.call (F_slips_of A) [none, none] (EM.cons (EM.get 0) (EM.cons (EM.get 1) (EM.ret [])))))
    (SM.seq (SM.set 4 (EM.call (F_slips_of A) [none, none] (EM.cons (EM.get 0) (EM.cons (EM.get 2) (EM.ret [])))))
    (SM.ret (EM.opn tupleK (EM.cons (EM.lc [5] (EM.rng1 (EM.cons (EM.opn lenD (EM.cons (EM.get 0) (EM.ret []))) (EM.ret []))) (tgN 5) (EM.tru (EM.op2 neD (EM.op2 ixSeq (EM.get 3) (EM.get 5)) (EM.op2 ixSeq (EM.get 4) (EM.get 5)))) (EM.get 5)) (EM.ret [])))))
def F_unlike_in (A : Ad) : FD := runF 6 [.s, .s, .s] (m_unlike_in A)
def m_has_yes (A : Ad) : SM :=
  SM.ret (EM.op2 eqD (EM.op2 modI (EM.op2 divI (EM.get 1) (EM.op2 ixSeq (EM.ret (.ktup t_POWERS)) (EM.op2 subI (EM.op2 subI (EM.get 0) (EM.ret (.int 1))) (EM.get 2)))) (EM.ret (.int 2))) (EM.ret (.int 1)))
def F_has_yes (A : Ad) : FD := runF 3 [.s, .s, .s] (m_has_yes A)
def m_turned (A : Ad) : SM :=
  SM.seq (SM.set 3 (EM.op2 ixSeq (EM.ret (.ktup t_POWERS)) (EM.op2 subI (EM.op2 subI (EM.get 0) (EM.ret (.int 1))) (EM.get 2))))
    (SM.ret (EM.ite (EM.tru (EM.call (F_has_yes A) [none, none, none] (EM.cons (EM.get 0) (EM.cons (EM.get 1) (EM.cons (EM.get 2) (EM.ret [])))))) (EM.op2 subI (EM.get 1) (EM.get 3)) (EM.op2 addI (EM.get 1) (EM.get 3))))
def F_turned (A : Ad) : FD := runF 4 [.s, .s, .s] (m_turned A)
def m_check_numbers (A : Ad) : SM :=
  SM.seq (SM.ite (EM.ite (EM.notB (EM.tru (EM.opn isiD (EM.cons (EM.get 0) (EM.cons (EM.ret (.ty "tuple")) (EM.ret [])))))) (EM.ret true) (EM.notB (EM.tru (EM.call (F_is_many A) [none] (EM.cons (EM.opn lenD (EM.cons (EM.get 0) (EM.ret []))) (EM.ret [])))))) (SM.raise0 A.NoNumbers) (SM.nop))
    (SM.ite (EM.notB (EM.tru (EM.opn allD (EM.cons (EM.lc [1] (EM.seqOf (EM.get 0)) (tgN 1) (EM.ret true) (EM.and_ (EM.call (F_is_integer A) [none] (EM.cons (EM.get 1) (EM.ret []))) (EM.op2 geI (EM.get 1) (EM.ret (.int 0))))) (EM.ret []))))) (SM.raise0 A.NoNumbers) (SM.nop))
def F_check_numbers (A : Ad) : FD := runF 2 [.s] (m_check_numbers A)
def m_are_possible (A : Ad) : SM :=
  SM.seq (SM.ite (EM.tru (EM.op2 neD (EM.opn sumD (EM.cons (EM.get 0) (EM.ret []))) (EM.op2 ixSeq (EM.ret (.ktup t_POWERS)) (EM.opn lenD (EM.cons (EM.get 0) (EM.ret [])))))) (SM.ret (EM.ret (.bl false))) (SM.nop))
    (SM.ret (EM.or_ (EM.op2 eqD (EM.opn lenD (EM.cons (EM.get 0) (EM.ret []))) (EM.ret (.int 1))) (EM.opn allD (EM.cons (EM.lc [1] (EM.seqOf (EM.get 0)) (tgN 1) (EM.ret true) (EM.op2 eqD (EM.op2 modI (EM.get 1) (EM.ret (.int 4))) (EM.ret (.int 0)))) (EM.ret [])))))
def F_are_possible (A : Ad) : FD := runF 2 [.s] (m_are_possible A)
def m_can_be_often (A : Ad) : SM :=
  SM.seq (SM.drop (EM.call (F_check_numbers A) [none] (EM.cons (EM.get 0) (EM.ret []))))
    (SM.ret (EM.call (F_are_possible A) [none] (EM.cons (EM.get 0) (EM.ret []))))
def F_can_be_often (A : Ad) : FD := runF 1 [.s] (m_can_be_often A)
def m_without (A : Ad) : SM :=
  SM.seq (SM.set 3 (EM.op2 ixSeq (EM.ret (.ktup t_POWERS)) (EM.op2 subI (EM.op2 subI (EM.get 0) (EM.ret (.int 1))) (EM.get 2))))
    (SM.ret (EM.op2 addI (EM.op2 mulI (EM.op2 divI (EM.get 1) (EM.op2 mulI (EM.ret (.int 2)) (EM.get 3))) (EM.get 3)) (EM.op2 modI (EM.get 1) (EM.get 3))))
def F_without (A : Ad) : FD := runF 4 [.s, .s, .s] (m_without A)
def m_turned_all (A : Ad) : SM :=
  SM.seq (SM.for_ (EM.seqOf (EM.get 2)) (tgN 3) (SM.set 1 (EM.call (F_turned A) [none, none, none] (EM.cons (EM.get 0) (EM.cons (EM.get 1) (EM.cons (EM.get 3) (EM.ret [])))))))
    (SM.ret (EM.get 1))
def F_turned_all (A : Ad) : FD := runF 4 [.s, .s, .s] (m_turned_all A)
def m_six_nearly (A : Ad) (f : FD) : SM :=
  SM.seq (SM.set 1 (EM.lc [2] (EM.rng1 (EM.cons (EM.ret (.int 6)) (EM.ret []))) (tgN 2) (EM.tru (EM.op2 neD (EM.get 2) (EM.get 0))) (EM.get 2)))
    (SM.seq (SM.set 3 (EM.call f [none] (EM.cons (EM.ret (.ktup t_FIRST_HALF)) (EM.ret []))))
    (SM.seq (SM.set 4 (EM.call f [none] (EM.cons (EM.ret (.ktup t_SECOND_HALF)) (EM.ret []))))
    (SM.seq (SM.set 5 (EM.meth indexF (EM.get 3) (EM.cons (EM.ret (.int 0)) (EM.ret []))))
    (SM.seq (SM.set 6 (EM.call (F_unlike_in A) [none, none, none] (EM.cons (EM.call (F_plain A) [none] (EM.cons (EM.ret (.int 5)) (EM.ret []))) (EM.cons (EM.get 5) (EM.cons (EM.meth indexF (EM.get 4) (EM.cons (EM.ret (.int 0)) (EM.ret []))) (EM.ret []))))))
    (SM.seq (SM.set 7 (EM.opn tupD (EM.cons (EM.get 5) (EM.cons (EM.call (F_turned A) [none, none, none] (EM.cons (EM.ret (.int 5)) (EM.cons (EM.get 5) (EM.cons (EM.ret (.int 0)) (EM.ret []))))) (EM.ret [])))))
    (SM.seq (SM.set 8 (EM.opl lit4 (EM.ret [])))
    (SM.seq (SM.for_ (EM.rng1 (EM.cons (EM.op2 ixSeq (EM.ret (.ktup t_POWERS)) (EM.ret (.int 6))) (EM.ret []))) (tgN 9) (SM.seq (SM.set 10 (EM.call (F_without A) [none, none, none] (EM.cons (EM.ret (.int 6)) (EM.cons (EM.get 9) (EM.cons (EM.get 0) (EM.ret []))))))
    (SM.seq (SM.set 2 (EM.ite (EM.tru (EM.call (F_has_yes A) [none, none, none] (EM.cons (EM.ret (.int 6)) (EM.cons (EM.get 9) (EM.cons (EM.get 0) (EM.ret [])))))) (EM.op2 ixSeq (EM.get 4) (EM.call (F_turned_all A) [none, none, none] (EM.cons (EM.ret (.int 5)) (EM.cons (EM.get 10) (EM.cons (EM.get 6) (EM.ret [])))))) (EM.op2 ixSeq (EM.get 3) (EM.get 10))))
    (SM.drop (EM.modL 8 appendF (EM.cons (EM.ite (EM.tru (EM.op2 (inSeq false) (EM.get 10) (EM.get 7))) (EM.get 0) (EM.op2 ixSeq (EM.get 1) (EM.get 2))) (EM.ret [])))))))
    (SM.ret (EM.lend .s (EM.opn tupleK (EM.cons (EM.get 8) (EM.ret []))))))))))))
def F_six_nearly (A : Ad) (f : FD) : FD := runF 11 [.s] (m_six_nearly A f)
def m_doubled (A : Ad) (f : FD) : SM :=
  SM.seq (SM.set 2 (EM.opn lenD (EM.cons (EM.get 0) (EM.ret []))))
    (SM.seq (SM.set 3 (EM.lc [4] (EM.rng1 (EM.cons (EM.get 2) (EM.ret []))) (tgN 4) (EM.tru (EM.op2 neD (EM.get 4) (EM.get 1))) (EM.get 4)))
    (SM.seq (SM.set 5 (EM.lc [4] (EM.seqOf (EM.get 3)) (tgN 4) (EM.ret true) (EM.op2 mulI (EM.op2 divI (EM.op2 addI (EM.op2 divI (EM.op2 ixSeq (EM.get 0) (EM.get 4)) (EM.ret (.int 2))) (EM.ret (.int 1))) (EM.ret (.int 2))) (EM.ret (.int 2)))))
    (SM.seq (SM.augL addI 5 (EM.ret (.int 0)) (EM.lend .s (EM.op2 subI (EM.op2 ixSeq (EM.ret (.ktup t_POWERS)) (EM.op2 subI (EM.get 2) (EM.ret (.int 2)))) (EM.opn sumD (EM.cons (EM.get 5) (EM.ret []))))))
    (SM.seq (SM.set 6 (EM.lend .s (EM.call f [none] (EM.cons (EM.opn tupleK (EM.cons (EM.get 5) (EM.ret []))) (EM.ret [])))))
    (SM.seq (SM.set 7 (EM.ret (.dK [] [])))
    (SM.seq (SM.for_ (EM.enumL (EM.get 3)) (tgT (tgCons (tgN 8) (tgCons (tgN 4) (tgNil)))) (SM.seq (SM.set 9 (EM.lc [10] (EM.rng1 (EM.cons (EM.opn lenD (EM.cons (EM.get 6) (EM.ret []))) (EM.ret []))) (tgN 10) (EM.ite (EM.tru (EM.op2 eqD (EM.op2 ixSeq (EM.get 6) (EM.get 10)) (EM.get 8))) (EM.notB (EM.tru (EM.call (F_has_yes A) [none, none, none] (EM.cons (EM.op2 subI (EM.get 2) (EM.ret (.int 1))) (EM.cons (EM.get 10) (EM.cons (EM.get 8) (EM.ret []))))))) (EM.ret false)) (EM.get 10)))
    (SM.for_ (EM.seqOf (EM.lend (.l .s) (EM.slL slList (EM.get 9) (EM.ret none) (EM.part (EM.op2 subI (EM.op2 ixSeq (EM.get 5) (EM.get 8)) (EM.op2 divI (EM.op2 ixSeq (EM.get 0) (EM.get 4)) (EM.ret (.int 2)))))))) (tgN 10) (SM.seq (SM.putK_ 7 (EM.ret (.bl true)) (EM.get 10))
    (SM.putK_ 7 (EM.ret (.bl true)) (EM.call (F_turned A) [none, none, none] (EM.cons (EM.op2 subI (EM.get 2) (EM.ret (.int 1))) (EM.cons (EM.get 10) (EM.cons (EM.get 8) (EM.ret []))))))))))
    (SM.seq (SM.set 11 (EM.opl lit4 (EM.ret [])))
    (SM.seq (SM.for_ (EM.rng1 (EM.cons (EM.op2 ixSeq (EM.ret (.ktup t_POWERS)) (EM.get 2)) (EM.ret []))) (tgN 10) (SM.seq (SM.set 12 (EM.call (F_without A) [none, none, none] (EM.cons (EM.get 2) (EM.cons (EM.get 10) (EM.cons (EM.get 1) (EM.ret []))))))
    (SM.drop (EM.modL 11 appendF (EM.cons (EM.lend .s (EM.ite (EM.tru (EM.op2 inDict (EM.get 12) (EM.get 7))) (EM.get 1) (EM.op2 ixSeq (EM.get 3) (EM.op2 ixSeq (EM.get 6) (EM.get 12))))) (EM.ret []))))))
    (SM.ret (EM.lend .s (EM.opn tupleK (EM.cons (EM.get 11) (EM.ret [])))))))))))))
def F_doubled (A : Ad) (f : FD) : FD := runF 13 [.s, .s] (m_doubled A f)
def m_with_couples (A : Ad) (f : FD) : SM :=
  SM.seq (SM.set 1 (EM.opn lenD (EM.cons (EM.get 0) (EM.ret []))))
    (SM.seq (SM.ite (EM.tru (EM.op2 eqD (EM.get 1) (EM.ret (.int 1)))) (SM.ret (EM.opn tupD (EM.cons (EM.ret (.int 0)) (EM.cons (EM.ret (.int 0)) (EM.ret []))))) (SM.nop))
    (SM.seq (SM.ite (EM.tru (EM.op2 eqD (EM.get 1) (EM.ret (.int 2)))) (SM.ret (EM.op2 repT (EM.opn tupD (EM.cons (EM.meth indexF (EM.get 0) (EM.cons (EM.ret (.int 2)) (EM.ret []))) (EM.ret []))) (EM.ret (.int 4)))) (SM.nop))
    (SM.seq (SM.ite (EM.tru (EM.op2 eqD (EM.get 0) (EM.ret (.ktup t_FOUR_ALIKE)))) (SM.ret (EM.ret (.ktup t_FOUR_COUPLING))) (SM.nop))
    (SM.seq (SM.ite (EM.tru (EM.op2 eqD (EM.opn tupleK (EM.cons (EM.opl sortedD (EM.cons (EM.get 0) (EM.ret []))) (EM.ret []))) (EM.ret (.ktup t_SIX_NEARLY)))) (SM.ret (EM.call (F_six_nearly A f) [none] (EM.cons (EM.meth indexF (EM.get 0) (EM.cons (EM.ret (.int 2)) (EM.ret []))) (EM.ret [])))) (SM.nop))
    (SM.ret (EM.call (F_doubled A f) [none, none] (EM.cons (EM.get 0) (EM.cons (EM.meth indexF (EM.get 0) (EM.cons (EM.opn (bestD maxI) (EM.cons (EM.get 0) (EM.ret []))) (EM.ret []))) (EM.ret [])))))))))
def F_with_couples (A : Ad) : Nat → FD
  | 0 => fun _ => none
  | n + 1 => runF 2 [.s] (m_with_couples A (F_with_couples A n))
def m_coupling_often (A : Ad) : SM :=
  SM.seq (SM.drop (EM.call (F_check_numbers A) [none] (EM.cons (EM.get 0) (EM.ret []))))
    (SM.seq (SM.ite (EM.notB (EM.tru (EM.call (F_are_possible A) [none] (EM.cons (EM.get 0) (EM.ret []))))) (SM.ret (EM.ret .non)) (SM.nop))
    (SM.ret (EM.call (F_with_couples A 12) [none] (EM.cons (EM.opn tupleK (EM.cons (EM.lc [1] (EM.seqOf (EM.get 0)) (tgN 1) (EM.ret true) (EM.op2 divI (EM.get 1) (EM.ret (.int 2)))) (EM.ret []))) (EM.ret [])))))
def F_coupling_often (A : Ad) : FD := runF 2 [.s] (m_coupling_often A)
def m__law_dice (A : Ad) : SM :=
  SM.ret (EM.opl lit4 (EM.cons (EM.lc [1] (EM.seqOf (EM.slL slList (EM.get 0) (EM.ret none) (EM.part (EM.ret (.int 63))))) (tgN 1) (EM.ret true) (EM.opn absD (EM.cons (EM.opn intD (EM.cons (EM.get 1) (EM.ret []))) (EM.ret [])))) (EM.cons (EM.ret (.int 0)) (EM.cons (EM.ret (.int 0)) (EM.cons (EM.ret (.int 1)) (EM.cons (EM.ret (.int 0)) (EM.ret [])))))))
def F__law_dice (A : Ad) : FD := runF 2 [.s] (m__law_dice A)
def m__law_draw (A : Ad) : SM :=
  SM.seq (SM.ite (EM.lendB (EM.ite (EM.tru (EM.op2 eqD (EM.op2 ixSeq (EM.get 0) (EM.ret (.int 2))) (EM.ret (.int 0)))) (EM.tru (EM.op2 ltI (EM.op2 ixSeq (EM.get 0) (EM.ret (.int 1))) (EM.opn lenD (EM.cons (EM.op2 ixSeq (EM.get 0) (EM.ret (.int 0))) (EM.ret []))))) (EM.ret false))) (SM.seq (SM.set 2 (EM.lend .s (EM.op2 ixSeq (EM.op2 ixSeq (EM.get 0) (EM.ret (.int 0))) (EM.op2 ixSeq (EM.get 0) (EM.ret (.int 1))))))
    (SM.seq (SM.setL 0 (EM.lend .s (EM.op2 addI (EM.op2 ixSeq (EM.get 0) (EM.ret (.int 1))) (EM.ret (.int 1)))) (EM.ret (.int 1)))
    (SM.ite (EM.tru (EM.op2 geI (EM.get 2) (EM.op2 powI (EM.ret (.int 10)) (EM.ret (.int 18))))) (SM.setL 0 (EM.get 2) (EM.ret (.int 2))) (SM.setL 0 (EM.lend .s (EM.op2 modI (EM.opn intD (EM.cons (EM.op2 addI (EM.op2 addI (EM.op2 mulI (EM.op2 ixSeq (EM.get 0) (EM.ret (.int 3))) (EM.ret (.int 69621))) (EM.op2 mulI (EM.get 2) (EM.ret (.int 40692)))) (EM.op2 ixSeq (EM.get 0) (EM.ret (.int 1)))) (EM.ret []))) (EM.ret (.int 2147483647)))) (EM.ret (.int 3)))))) (SM.nop))
    (SM.seq (SM.ite (EM.lendB (EM.tru (EM.op2 gtI (EM.op2 ixSeq (EM.get 0) (EM.ret (.int 2))) (EM.ret (.int 0))))) (SM.seq (SM.set 3 (EM.lend .s (EM.op2 modI (EM.opn intD (EM.cons (EM.op2 ixSeq (EM.get 0) (EM.ret (.int 2))) (EM.ret []))) (EM.get 1))))
    (SM.seq (SM.setL 0 (EM.lend .s (EM.op2 divI (EM.opn intD (EM.cons (EM.op2 ixSeq (EM.get 0) (EM.ret (.int 2))) (EM.ret []))) (EM.get 1))) (EM.ret (.int 2)))
    (SM.ret (EM.get 3)))) (SM.nop))
    (SM.seq (SM.setL 0 (EM.lend .s (EM.op2 addI (EM.op2 ixSeq (EM.get 0) (EM.ret (.int 4))) (EM.ret (.int 1)))) (EM.ret (.int 4)))
    (SM.seq (SM.setL 0 (EM.lend .s (EM.op2 modI (EM.opn intD (EM.cons (EM.op2 addI (EM.op2 addI (EM.op2 mulI (EM.op2 ixSeq (EM.get 0) (EM.ret (.int 3))) (EM.ret (.int 48271))) (EM.op2 mulI (EM.op2 ixSeq (EM.get 0) (EM.ret (.int 4))) (EM.ret (.int 7919)))) (EM.ret (.int 1))) (EM.ret []))) (EM.ret (.int 2147483647)))) (EM.ret (.int 3)))
    (SM.seq (SM.set 4 (EM.lend .s (EM.op2 modI (EM.opn intD (EM.cons (EM.op2 mulI (EM.op2 ixSeq (EM.get 0) (EM.ret (.int 3))) (EM.op2 addI (EM.op2 divI (EM.op2 ixSeq (EM.get 0) (EM.ret (.int 3))) (EM.ret (.int 1009))) (EM.ret (.int 69623)))) (EM.ret []))) (EM.ret (.int 2147483399)))))
    (SM.seq (SM.set 4 (EM.op2 modI (EM.opn intD (EM.cons (EM.op2 mulI (EM.get 4) (EM.op2 addI (EM.op2 divI (EM.get 4) (EM.ret (.int 2003))) (EM.ret (.int 40693)))) (EM.ret []))) (EM.ret (.int 2147483563))))
    (SM.ret (EM.op2 modI (EM.opn intD (EM.cons (EM.op2 divI (EM.get 4) (EM.ret (.int 16))) (EM.ret []))) (EM.get 1))))))))
def F__law_draw (A : Ad) : FD := runF 5 [.l .s, .s] (m__law_draw A)
def m__law_power (A : Ad) : SM :=
  SM.ret (EM.op2 ixSeq (EM.opn tupD (EM.cons (EM.ret (.int 1)) (EM.cons (EM.ret (.int 2)) (EM.cons (EM.ret (.int 4)) (EM.cons (EM.ret (.int 8)) (EM.cons (EM.ret (.int 16)) (EM.cons (EM.ret (.int 32)) (EM.cons (EM.ret (.int 64)) (EM.cons (EM.ret (.int 128)) (EM.cons (EM.ret (.int 256)) (EM.ret []))))))))))) (EM.get 0))
def F__law_power (A : Ad) : FD := runF 1 [.s] (m__law_power A)
def m__law_turned (A : Ad) : SM :=
  SM.seq (SM.set 3 (EM.call (F__law_power A) [none] (EM.cons (EM.op2 subI (EM.op2 subI (EM.get 0) (EM.ret (.int 1))) (EM.get 2)) (EM.ret []))))
    (SM.ret (EM.ite (EM.tru (EM.op2 eqD (EM.op2 modI (EM.op2 divI (EM.get 1) (EM.get 3)) (EM.ret (.int 2))) (EM.ret (.int 1)))) (EM.op2 subI (EM.get 1) (EM.get 3)) (EM.op2 addI (EM.get 1) (EM.get 3))))
def F__law_turned (A : Ad) : FD := runF 4 [.s, .s, .s] (m__law_turned A)
def m__law_is_count (A : Ad) : SM :=
  SM.ret (EM.and_ (EM.opn isiD (EM.cons (EM.get 0) (EM.cons (EM.ret (.ty "int")) (EM.ret [])))) (EM.and_ (EM.not_ (EM.opn isiD (EM.cons (EM.get 0) (EM.cons (EM.ret (.ty "bool")) (EM.ret []))))) (EM.chain leI ltI (EM.ret (.int 0)) (EM.get 0) (EM.get 1))))
def F__law_is_count (A : Ad) : FD := runF 2 [.s, .s] (m__law_is_count A)
def m__law_is_coupling (A : Ad) : SM :=
  SM.seq (SM.ite (EM.ite (EM.notB (EM.tru (EM.opn isiD (EM.cons (EM.get 1) (EM.cons (EM.ret (.ty "tuple")) (EM.ret [])))))) (EM.ret true) (EM.tru (EM.op2 neD (EM.opn lenD (EM.cons (EM.get 1) (EM.ret []))) (EM.call (F__law_power A) [none] (EM.cons (EM.get 0) (EM.ret [])))))) (SM.ret (EM.ret (.bl false))) (SM.nop))
    (SM.seq (SM.ite (EM.tru (EM.op2 gtI (EM.opn lenD (EM.cons (EM.lc [2] (EM.seqOf (EM.get 1)) (tgN 2) (EM.notB (EM.tru (EM.call (F__law_is_count A) [none, none] (EM.cons (EM.get 2) (EM.cons (EM.get 0) (EM.ret [])))))) (EM.get 2)) (EM.ret []))) (EM.ret (.int 0)))) (SM.ret (EM.ret (.bl false))) (SM.nop))
    (SM.ret (EM.op2 eqD (EM.opn lenD (EM.cons (EM.lc [3] (EM.rng1 (EM.cons (EM.opn lenD (EM.cons (EM.get 1) (EM.ret []))) (EM.ret []))) (tgN 3) (EM.tru (EM.op2 neD (EM.op2 ixSeq (EM.get 1) (EM.call (F__law_turned A) [none, none, none] (EM.cons (EM.get 0) (EM.cons (EM.get 3) (EM.cons (EM.op2 ixSeq (EM.get 1) (EM.get 3)) (EM.ret [])))))) (EM.op2 ixSeq (EM.get 1) (EM.get 3)))) (EM.get 3)) (EM.ret []))) (EM.ret (.int 0)))))
def F__law_is_coupling (A : Ad) : FD := runF 4 [.s, .s] (m__law_is_coupling A)
def m__law_order (A : Ad) : SM :=
  SM.seq (SM.set 2 (EM.lrange (EM.get 1)))
    (SM.seq (SM.set 3 (EM.opl lit4 (EM.ret [])))
    (SM.seq (SM.for_ (EM.rng1 (EM.cons (EM.get 1) (EM.ret []))) (tgN 4) (SM.drop (EM.modL 3 appendF (EM.cons (EM.modL 2 popAtF (EM.cons (EM.call (F__law_draw A) [some 0, none] (EM.cons (EM.get 0) (EM.cons (EM.lend .s (EM.opn lenD (EM.cons (EM.get 2) (EM.ret [])))) (EM.ret [])))) (EM.ret []))) (EM.ret [])))))
    (SM.ret (EM.take 3))))
def F__law_order (A : Ad) : FD := runF 5 [.l .s, .s] (m__law_order A)
def m__law_often (A : Ad) : SM :=
  SM.ret (EM.opn tupleOf (EM.cons (EM.lc [3] (EM.rng1 (EM.cons (EM.get 0) (EM.ret []))) (tgN 3) (EM.ret true) (EM.opn lenD (EM.cons (EM.lc [2] (EM.seqOf (EM.get 1)) (tgN 2) (EM.tru (EM.op2 eqD (EM.get 2) (EM.get 3))) (EM.ret (.int 1))) (EM.ret [])))) (EM.ret [])))
def F__law_often (A : Ad) : FD := runF 4 [.s, .s] (m__law_often A)
def m__law_flag (A : Ad) : SM :=
  SM.ret (EM.and_ (EM.opn isiD (EM.cons (EM.get 0) (EM.cons (EM.ret (.ty "bool")) (EM.ret [])))) (EM.op2 eqD (EM.get 0) (EM.get 1)))
def F__law_flag (A : Ad) : FD := runF 2 [.s, .s] (m__law_flag A)
def m__law_fours (A : Ad) : SM :=
  SM.seq (SM.set 2 (EM.op2 divI (EM.call (F__law_power A) [none] (EM.cons (EM.get 1) (EM.ret []))) (EM.ret (.int 4))))
    (SM.seq (SM.set 3 (EM.opl lit4 (EM.ret [])))
    (SM.seq (SM.set 4 (EM.call (F__law_draw A) [some 0, none] (EM.cons (EM.get 0) (EM.cons (EM.ret (.int 4)) (EM.ret [])))))
    (SM.seq (SM.for_ (EM.rng1 (EM.cons (EM.op2 subI (EM.get 1) (EM.ret (.int 1))) (EM.ret []))) (tgN 5) (SM.seq (SM.set 6 (EM.op2 ixSeq (EM.opl lit4 (EM.cons (EM.get 2) (EM.cons (EM.op2 divI (EM.get 2) (EM.op2 subI (EM.get 1) (EM.get 5))) (EM.cons (EM.op2 divI (EM.op2 mulI (EM.ret (.int 2)) (EM.get 2)) (EM.op2 subI (EM.get 1) (EM.get 5))) (EM.cons (EM.ret (.int 3)) (EM.ret [])))))) (EM.get 4)))
    (SM.seq (SM.set 7 (EM.call (F__law_draw A) [some 0, none] (EM.cons (EM.get 0) (EM.cons (EM.op2 addI (EM.opn min2D (EM.cons (EM.get 6) (EM.cons (EM.get 2) (EM.ret [])))) (EM.ret (.int 1))) (EM.ret [])))))
    (SM.seq (SM.ite (EM.ite (EM.tru (EM.op2 eqD (EM.get 4) (EM.ret (.int 1)))) (EM.tru (EM.op2 gtI (EM.call (F__law_draw A) [some 0, none] (EM.cons (EM.get 0) (EM.cons (EM.ret (.int 3)) (EM.ret [])))) (EM.ret (.int 0)))) (EM.ret false)) (SM.set 7 (EM.opn min2D (EM.cons (EM.get 6) (EM.cons (EM.get 2) (EM.ret []))))) (SM.nop))
    (SM.seq (SM.drop (EM.modL 3 appendF (EM.cons (EM.get 7) (EM.ret []))))
    (SM.set 2 (EM.op2 subI (EM.get 2) (EM.get 7))))))))
    (SM.seq (SM.drop (EM.modL 3 appendF (EM.cons (EM.get 2) (EM.ret []))))
    (SM.seq (SM.set 8 (EM.call (F__law_order A) [some 0, none] (EM.cons (EM.get 0) (EM.cons (EM.get 1) (EM.ret [])))))
    (SM.ret (EM.lend (.l .s) (EM.lc [5] (EM.seqOf (EM.get 8)) (tgN 5) (EM.ret true) (EM.op2 mulI (EM.ret (.int 4)) (EM.op2 ixSeq (EM.get 3) (EM.get 5)))))))))))
def F__law_fours (A : Ad) : FD := runF 9 [.l .s, .s] (m__law_fours A)
def m__law_near (A : Ad) : SM :=
  SM.seq (SM.set 3 (EM.opl listOf (EM.cons (EM.get 2) (EM.ret []))))
    (SM.seq (SM.set 4 (EM.call (F__law_draw A) [some 0, none] (EM.cons (EM.get 0) (EM.cons (EM.get 1) (EM.ret [])))))
    (SM.seq (SM.set 5 (EM.call (F__law_draw A) [some 0, none] (EM.cons (EM.get 0) (EM.cons (EM.get 1) (EM.ret [])))))
    (SM.seq (SM.set 6 (EM.call (F__law_draw A) [some 0, none] (EM.cons (EM.get 0) (EM.cons (EM.ret (.int 6)) (EM.ret [])))))
    (SM.seq (SM.ite (EM.lendB (EM.ite (EM.tru (EM.op2 eqD (EM.get 6) (EM.ret (.int 0)))) (EM.tru (EM.op2 gtI (EM.op2 ixSeq (EM.get 3) (EM.get 4)) (EM.ret (.int 1)))) (EM.ret false))) (SM.seq (SM.setL 3 (EM.lend .s (EM.op2 subI (EM.op2 ixSeq (EM.get 3) (EM.get 4)) (EM.ret (.int 2)))) (EM.get 4))
    (SM.setL 3 (EM.lend .s (EM.op2 addI (EM.op2 ixSeq (EM.get 3) (EM.get 5)) (EM.ret (.int 2)))) (EM.get 5))) (SM.ite (EM.tru (EM.op2 eqD (EM.get 6) (EM.ret (.int 1)))) (SM.setL 3 (EM.lend .s (EM.op2 addI (EM.op2 ixSeq (EM.get 3) (EM.get 4)) (EM.ret (.int 4)))) (EM.get 4)) (SM.ite (EM.lendB (EM.ite (EM.tru (EM.op2 eqD (EM.get 6) (EM.ret (.int 2)))) (EM.tru (EM.op2 gtI (EM.op2 ixSeq (EM.get 3) (EM.get 4)) (EM.ret (.int 3)))) (EM.ret false))) (SM.setL 3 (EM.lend .s (EM.op2 subI (EM.op2 ixSeq (EM.get 3) (EM.get 4)) (EM.ret (.int 4)))) (EM.get 4)) (SM.ite (EM.lendB (EM.ite (EM.tru (EM.op2 eqD (EM.get 6) (EM.ret (.int 3)))) (EM.tru (EM.op2 gtI (EM.op2 ixSeq (EM.get 3) (EM.get 4)) (EM.ret (.int 0)))) (EM.ret false))) (SM.seq (SM.setL 3 (EM.lend .s (EM.op2 subI (EM.op2 ixSeq (EM.get 3) (EM.get 4)) (EM.ret (.int 1)))) (EM.get 4))
    (SM.setL 3 (EM.lend .s (EM.op2 addI (EM.op2 ixSeq (EM.get 3) (EM.get 5)) (EM.ret (.int 1)))) (EM.get 5))) (SM.nop)))))
    (SM.ret (EM.lend .s (EM.opn tupleOf (EM.cons (EM.get 3) (EM.ret [])))))))))
def F__law_near (A : Ad) : FD := runF 7 [.l .s, .s, .s] (m__law_near A)
def m_law (A : Ad) : SM :=
  SM.seq (SM.set 1 (EM.call (F__law_dice A) [none] (EM.cons (EM.get 0) (EM.ret []))))
    (SM.seq (SM.for_ (EM.rng1 (EM.cons (EM.ret (.int 2)) (EM.ret []))) (tgN 2) (SM.seq (SM.set 3 (EM.op2 addI (EM.ret (.int 5)) (EM.call (F__law_draw A) [some 1, none] (EM.cons (EM.get 1) (EM.cons (EM.ret (.int 4)) (EM.ret []))))))
    (SM.seq (SM.set 4 (EM.call (F__law_fours A) [some 1, none] (EM.cons (EM.get 1) (EM.cons (EM.get 3) (EM.ret [])))))
    (SM.for_ (EM.seqOf (EM.opn tupD (EM.cons (EM.opn tupleOf (EM.cons (EM.get 4) (EM.ret []))) (EM.cons (EM.opn tupleOf (EM.cons (EM.revL (EM.get 4)) (EM.ret []))) (EM.cons (EM.call (F__law_near A) [some 1, none, none] (EM.cons (EM.get 1) (EM.cons (EM.get 3) (EM.cons (EM.get 4) (EM.ret []))))) (EM.ret [])))))) (tgN 5) (SM.seq (SM.set 6 (EM.and_ (EM.op2 eqD (EM.opn sumD (EM.cons (EM.get 5) (EM.ret []))) (EM.call (F__law_power A) [none] (EM.cons (EM.get 3) (EM.ret [])))) (EM.op2 eqD (EM.opn lenD (EM.cons (EM.lc [7] (EM.seqOf (EM.get 5)) (tgN 7) (EM.tru (EM.op2 neD (EM.op2 modI (EM.opn intD (EM.cons (EM.get 7) (EM.ret []))) (EM.ret (.int 4))) (EM.ret (.int 0)))) (EM.get 7)) (EM.ret []))) (EM.ret (.int 0)))))
    (SM.seq (SM.ite (EM.notB (EM.tru (EM.call (F__law_flag A) [none, none] (EM.cons (EM.call (F_can_be_often A) [none] (EM.cons (EM.get 5) (EM.ret []))) (EM.cons (EM.get 6) (EM.ret [])))))) (SM.ret (EM.ret (.bl false))) (SM.nop))
    (SM.seq (SM.set 8 (EM.call (F_coupling_often A) [none] (EM.cons (EM.get 5) (EM.ret []))))
    (SM.seq (SM.ite (EM.tru (EM.op2 neD (EM.op2 notND (EM.get 8) (EM.ret .non)) (EM.get 6))) (SM.ret (EM.ret (.bl false))) (SM.nop))
    (SM.ite (EM.ite (EM.tru (EM.get 6)) (EM.ite (EM.notB (EM.tru (EM.call (F__law_is_coupling A) [none, none] (EM.cons (EM.get 3) (EM.cons (EM.get 8) (EM.ret [])))))) (EM.ret true) (EM.tru (EM.op2 neD (EM.call (F__law_often A) [none, none] (EM.cons (EM.get 3) (EM.cons (EM.get 8) (EM.ret [])))) (EM.get 5)))) (EM.ret false)) (SM.ret (EM.ret (.bl false))) (SM.nop))))))))))
    (SM.ret (EM.ret (.bl true))))
def F_law (A : Ad) : FD := runF 9 [.s] (m_law A)
end
section
variable {A : Ad} {P : Program} {w : World} {K : PySem.W.Frag} {mg : Str → Option Value} {base : Heap}
theorem e_is_integer {k : Nat} (c : Fc A K mg)  : FnY P w K mg base (k + 1) ("is_integer" : Str) ["thing"] [.s] .s (runF 1 [.s] (m_is_integer A)) := by
  obtain ⟨_, hf, F⟩ := c.d_is_integer
  refine fn_e (N := ["thing"]) (ls := []) hf F ⟨rfl, rfl, rfl, by decide +kernel, rfl, by decide +kernel, by decide +kernel⟩ rfl (fun _ _ _ _ _ _ us hl => match us, hl with | [_], _ => rfl) (fun cdv A' outer s H E gk => ?_) (.inl rfl)
  exact cb_one (cs_ret ((ce_and (ce_callB call_isi ro_isi c.b_isinstance (ca_cons (ce_var 0) (ca_cons (ce_ty c.b_int) (ca_nil)))) (ce_one (ce_not (ce_callB call_isi ro_isi c.b_isinstance (ca_cons (ce_var 0) (ca_cons (ce_ty c.b_bool) (ca_nil))))))).co))
theorem e_is_within {k : Nat} (c : Fc A K mg) (h_is_integer : FnY P w K mg base k ("is_integer" : Str) ["thing"] [.s] .s (F_is_integer A)) : FnY P w K mg base (k + 1) ("is_within" : Str) ["thing", "least", "most"] [.s, .s, .s] .s (runF 3 [.s, .s, .s] (m_is_within A)) := by
  obtain ⟨_, hf, F⟩ := c.d_is_within
  refine fn_e (N := ["thing", "least", "most"]) (ls := []) hf F ⟨rfl, rfl, rfl, by decide +kernel, rfl, by decide +kernel, by decide +kernel⟩ rfl (fun _ _ _ _ _ _ us hl => match us, hl with | [_, _, _], _ => rfl) (fun cdv A' outer s H E gk => ?_) (.inl rfl)
  exact cb_one (cs_ret ((ce_and ((co_call gk h_is_integer (cao_cons (ce_var 0) (cao_nil))).ce) (ce_one (ce_chain op_le ro_cmp op_le ro_cmp (ce_var 1) (ce_var 0) (ce_var 2)))).co))
theorem e_is_many {k : Nat} (c : Fc A K mg) (h_is_within : FnY P w K mg base k ("is_within" : Str) ["thing", "least", "most"] [.s, .s, .s] .s (F_is_within A)) : FnY P w K mg base (k + 1) ("is_many" : Str) ["thing"] [.s] .s (runF 1 [.s] (m_is_many A)) := by
  obtain ⟨_, hf, F⟩ := c.d_is_many
  refine fn_e (N := ["thing"]) (ls := []) hf F ⟨rfl, rfl, rfl, by decide +kernel, rfl, by decide +kernel, by decide +kernel⟩ rfl (fun _ _ _ _ _ _ us hl => match us, hl with | [_], _ => rfl) (fun cdv A' outer s H E gk => ?_) (.inl rfl)
  exact cb_one (cs_ret (((co_call gk h_is_within (cao_cons (ce_var 0) (cao_cons (ce_int) (cao_cons (ce_gint c.i_MOST_MEMBERS) (cao_nil))))).ce).co))
theorem e_plain {k : Nat} (c : Fc A K mg)  : FnY P w K mg base (k + 1) ("plain" : Str) ["many"] [.s] .s (runF 1 [.s] (m_plain A)) := by
  obtain ⟨_, hf, F⟩ := c.d_plain
  refine fn_e (N := ["many"]) (ls := []) hf F ⟨rfl, rfl, rfl, by decide +kernel, rfl, by decide +kernel, by decide +kernel⟩ rfl (fun _ _ _ _ _ _ us hl => match us, hl with | [_], _ => rfl) (fun cdv A' outer s H E gk => ?_) (.inl rfl)
  exact cb_one (cs_ret ((ce_op op_repT ro_repT (ce_tup (ca_cons (ce_int) (ca_nil))) (ce_var 0)).co))
theorem e_slips_of {k : Nat} (c : Fc A K mg)  : FnY P w K mg base (k + 1) ("slips_of" : Str) ["club", "number"] [.s, .s] .s (runF 4 [.s, .s] (m_slips_of A)) := by
  obtain ⟨_, hf, F⟩ := c.d_slips_of
  refine fn_e (N := ["club", "number", "found", "sorts"]) (ls := [.l .s, .s]) hf F ⟨rfl, rfl, rfl, by decide +kernel, rfl, by decide +kernel, by decide +kernel⟩ rfl (fun _ _ _ _ _ _ us hl => match us, hl with | [_, _], _ => rfl) (fun cdv A' outer s H E gk => ?_) (.inl rfl)
  exact cb_cons (cs_set 2 gk.nd (co_lst (ca_nil)))
    (cb_cons (cs_for gk (ci_rv (ce_var 0) c.b_reversed) (ctg_name 3 gk.nd) (cb_cons (cs_expr (ce_modL 2 PySem.F.slot_list_append PySem.F.type_list_append mt_append ro_append (ca_cons (ce_op op_mod ro_modI (ce_var 1) (ce_var 3)) (ca_nil))))
    (cb_one (cs_set 1 gk.nd ((ce_op op_fdivW ro_divI (ce_var 1) (ce_var 3)).co)))))
    (cb_one (cs_ret (((ce_lend (ce_tprev gk.pure (ce_var 2) c.b_tuple c.b_reversed))).co))))
theorem e_unlike_in {k : Nat} (c : Fc A K mg) (h_slips_of : FnY P w K mg base k ("slips_of" : Str) ["club", "number"] [.s, .s] .s (F_slips_of A)) : FnY P w K mg base (k + 1) ("unlike_in" : Str) ["club", "one", "other"] [.s, .s, .s] .s (runF 6 [.s, .s, .s] (m_unlike_in A)) := by
  obtain ⟨_, hf, F⟩ := c.d_unlike_in
  refine fn_e (N := ["club", "one", "other", "first", "second", "member"]) (ls := [.s, .s, .s]) hf F ⟨rfl, rfl, rfl, by decide +kernel, rfl, by decide +kernel, by decide +kernel⟩ rfl (fun _ _ _ _ _ _ us hl => match us, hl with | [_, _, _], _ => rfl) (fun cdv A' outer s H E gk => ?_) (.inl rfl)
  exact cb_cons (cs_set 3 gk.nd (((co_call gk h_slips_of (cao_cons (ce_var 0) (cao_cons (ce_var 1) (cao_nil)))).ce).co))
    (cb_cons (cs_set 4 gk.nd (((co_call gk h_slips_of (cao_cons (ce_var 0) (cao_cons (ce_var 2) (cao_nil)))).ce).co))
    (cb_one (cs_ret ((ce_callTy cr_tupK ro_tupleK c.b_tuple (ca_cons ((co_lc gk (ci_r1 (ca_cons (ce_callB call_len ro_len c.b_len (ca_cons (ce_var 0) (ca_nil))) (ca_nil)) c.b_range) (blkOk_by (own := [("member", 5)]) rfl) (fun _ _ _ _ _ => ctg_name 5 gk.blk.nd) (fun _ _ _ _ _ => ctts_one (ct_cmp (op_neD gk.blk.room.units) ro_ne (ce_ix (ix_list.or ix_tup) ro_ix (ce_var 3) (ce_var 5)) (ce_ix (ix_list.or ix_tup) ro_ix (ce_var 4) (ce_var 5)) (by rfl))) (fun _ _ _ _ _ => (ce_var 5).co)).ce) (ca_nil))).co))))
theorem e_has_yes {k : Nat} (c : Fc A K mg)  : FnY P w K mg base (k + 1) ("has_yes" : Str) ["many", "number", "member"] [.s, .s, .s] .s (runF 3 [.s, .s, .s] (m_has_yes A)) := by
  obtain ⟨_, hf, F⟩ := c.d_has_yes
  refine fn_e (N := ["many", "number", "member"]) (ls := []) hf F ⟨rfl, rfl, rfl, by decide +kernel, rfl, by decide +kernel, by decide +kernel⟩ rfl (fun _ _ _ _ _ _ us hl => match us, hl with | [_, _, _], _ => rfl) (fun cdv A' outer s H E gk => ?_) (.inl rfl)
  exact cb_one (cs_ret ((ce_cmp (op_eqD gk.room.units) ro_eq (ce_op op_mod ro_modI (ce_op op_fdivW ro_divI (ce_var 1) (ce_ix (ix_list.or ix_tup) ro_ix (ce_gtup c.t_POWERS) (ce_op op_sub ro_int0 (ce_op op_sub ro_int0 (ce_var 0) (ce_int)) (ce_var 2)))) (ce_int)) (ce_int) (by rfl)).co))
theorem e_turned {k : Nat} (c : Fc A K mg) (h_has_yes : FnY P w K mg base k ("has_yes" : Str) ["many", "number", "member"] [.s, .s, .s] .s (F_has_yes A)) : FnY P w K mg base (k + 1) ("turned" : Str) ["many", "number", "member"] [.s, .s, .s] .s (runF 4 [.s, .s, .s] (m_turned A)) := by
  obtain ⟨_, hf, F⟩ := c.d_turned
  refine fn_e (N := ["many", "number", "member", "step"]) (ls := [.s]) hf F ⟨rfl, rfl, rfl, by decide +kernel, rfl, by decide +kernel, by decide +kernel⟩ rfl (fun _ _ _ _ _ _ us hl => match us, hl with | [_, _, _], _ => rfl) (fun cdv A' outer s H E gk => ?_) (.inl rfl)
  exact cb_cons (cs_set 3 gk.nd ((ce_ix (ix_list.or ix_tup) ro_ix (ce_gtup c.t_POWERS) (ce_op op_sub ro_int0 (ce_op op_sub ro_int0 (ce_var 0) (ce_int)) (ce_var 2))).co))
    (cb_one (cs_ret ((ce_ite (ct_val ((co_call gk h_has_yes (cao_cons (ce_var 0) (cao_cons (ce_var 1) (cao_cons (ce_var 2) (cao_nil))))).ce)) (ce_op op_sub ro_int0 (ce_var 1) (ce_var 3)) (ce_op op_add ro_int0 (ce_var 1) (ce_var 3))).co)))
theorem e_check_numbers {k : Nat} (c : Fc A K mg) (h_is_integer : FnY P w K mg base k ("is_integer" : Str) ["thing"] [.s] .s (F_is_integer A)) (h_is_many : FnY P w K mg base k ("is_many" : Str) ["thing"] [.s] .s (F_is_many A)) : FnY P w K mg base (k + 1) ("check_numbers" : Str) ["numbers"] [.s] .s (runF 2 [.s] (m_check_numbers A)) := by
  obtain ⟨_, hf, F⟩ := c.d_check_numbers
  refine fn_e (N := ["numbers", "number"]) (ls := [.s]) hf F ⟨rfl, rfl, rfl, by decide +kernel, rfl, by decide +kernel, by decide +kernel⟩ rfl (fun _ _ _ _ _ _ us hl => match us, hl with | [_], _ => rfl) (fun cdv A' outer s H E gk => ?_) (.inl rfl)
  exact cb_cons (cs_if ((cw_or (ct_not (ct_val (ce_callB call_isi ro_isi c.b_isinstance (ca_cons (ce_var 0) (ca_cons (ce_ty c.b_tuple) (ca_nil)))))) (cw_or1 (ct_not (ct_val ((co_call gk h_is_many (cao_cons (ce_callB call_len ro_len c.b_len (ca_cons (ce_var 0) (ca_nil))) (cao_nil))).ce))))).ct) (cb_one (cs_raise0 gk c.x_NoNumbers)) (cb_nil))
    (cb_one (cs_if (ct_not (ct_val (ce_callB (cr_all gk.calm) ro_all c.b_all (ca_cons ((co_lc gk (ci_sq (ce_var 0)) (blkOk_by (own := [("number", 1)]) rfl) (fun _ _ _ _ _ => ctg_name 1 gk.blk.nd) (fun _ _ _ _ _ => ctts_nil) (fun _ _ _ _ _ => (ce_and ((co_call gk.blk h_is_integer (cao_cons (ce_var 1) (cao_nil))).ce) (ce_one (ce_cmp op_ge ro_cmp (ce_var 1) (ce_int) (by rfl)))).co)).ce) (ca_nil))))) (cb_one (cs_raise0 gk c.x_NoNumbers)) (cb_nil)))
theorem e_are_possible {k : Nat} (c : Fc A K mg)  : FnY P w K mg base (k + 1) ("are_possible" : Str) ["numbers"] [.s] .s (runF 2 [.s] (m_are_possible A)) := by
  obtain ⟨_, hf, F⟩ := c.d_are_possible
  refine fn_e (N := ["numbers", "number"]) (ls := [.s]) hf F ⟨rfl, rfl, rfl, by decide +kernel, rfl, by decide +kernel, by decide +kernel⟩ rfl (fun _ _ _ _ _ _ us hl => match us, hl with | [_], _ => rfl) (fun cdv A' outer s H E gk => ?_) (.inl rfl)
  exact cb_cons (cs_if (ct_cmp (op_neD gk.room.units) ro_ne (ce_callB (cr_sumA gk.calm) ro_sum c.b_sum (ca_cons (ce_var 0) (ca_nil))) (ce_ix (ix_list.or ix_tup) ro_ix (ce_gtup c.t_POWERS) (ce_callB call_len ro_len c.b_len (ca_cons (ce_var 0) (ca_nil)))) (by rfl)) (cb_one (cs_ret ((ce_bl).co))) (cb_nil))
    (cb_one (cs_ret ((ce_or (ce_cmp (op_eqD gk.room.units) ro_eq (ce_callB call_len ro_len c.b_len (ca_cons (ce_var 0) (ca_nil))) (ce_int) (by rfl)) (ce_one (ce_callB (cr_all gk.calm) ro_all c.b_all (ca_cons ((co_lc gk (ci_sq (ce_var 0)) (blkOk_by (own := [("number", 1)]) rfl) (fun _ _ _ _ _ => ctg_name 1 gk.blk.nd) (fun _ _ _ _ _ => ctts_nil) (fun _ _ _ _ _ => (ce_cmp (op_eqD gk.blk.room.units) ro_eq (ce_op op_mod ro_modI (ce_var 1) (ce_int)) (ce_int) (by rfl)).co)).ce) (ca_nil))))).co)))
theorem e_can_be_often {k : Nat} (c : Fc A K mg) (h_are_possible : FnY P w K mg base k ("are_possible" : Str) ["numbers"] [.s] .s (F_are_possible A)) (h_check_numbers : FnY P w K mg base k ("check_numbers" : Str) ["numbers"] [.s] .s (F_check_numbers A)) : FnY P w K mg base (k + 1) ("can_be_often" : Str) ["numbers"] [.s] .s (runF 1 [.s] (m_can_be_often A)) := by
  obtain ⟨_, hf, F⟩ := c.d_can_be_often
  refine fn_e (N := ["numbers"]) (ls := []) hf F ⟨rfl, rfl, rfl, by decide +kernel, rfl, by decide +kernel, by decide +kernel⟩ rfl (fun _ _ _ _ _ _ us hl => match us, hl with | [_], _ => rfl) (fun cdv A' outer s H E gk => ?_) (.inl rfl)
  exact cb_cons (cs_expr ((co_call gk h_check_numbers (cao_cons (ce_var 0) (cao_nil))).ce))
    (cb_one (cs_ret (((co_call gk h_are_possible (cao_cons (ce_var 0) (cao_nil))).ce).co)))
theorem e_without {k : Nat} (c : Fc A K mg)  : FnY P w K mg base (k + 1) ("without" : Str) ["many", "row", "member"] [.s, .s, .s] .s (runF 4 [.s, .s, .s] (m_without A)) := by
  obtain ⟨_, hf, F⟩ := c.d_without
  refine fn_e (N := ["many", "row", "member", "step"]) (ls := [.s]) hf F ⟨rfl, rfl, rfl, by decide +kernel, rfl, by decide +kernel, by decide +kernel⟩ rfl (fun _ _ _ _ _ _ us hl => match us, hl with | [_, _, _], _ => rfl) (fun cdv A' outer s H E gk => ?_) (.inl rfl)
  exact cb_cons (cs_set 3 gk.nd ((ce_ix (ix_list.or ix_tup) ro_ix (ce_gtup c.t_POWERS) (ce_op op_sub ro_int0 (ce_op op_sub ro_int0 (ce_var 0) (ce_int)) (ce_var 2))).co))
    (cb_one (cs_ret ((ce_op op_add ro_int0 (ce_op op_mulW ro_mulI (ce_op op_fdivW ro_divI (ce_var 1) (ce_op op_mulW ro_mulI (ce_int) (ce_var 3))) (ce_var 3)) (ce_op op_mod ro_modI (ce_var 1) (ce_var 3))).co)))
theorem e_turned_all {k : Nat} (c : Fc A K mg) (h_turned : FnY P w K mg base k ("turned" : Str) ["many", "number", "member"] [.s, .s, .s] .s (F_turned A)) : FnY P w K mg base (k + 1) ("turned_all" : Str) ["many", "row", "lot"] [.s, .s, .s] .s (runF 4 [.s, .s, .s] (m_turned_all A)) := by
  obtain ⟨_, hf, F⟩ := c.d_turned_all
  refine fn_e (N := ["many", "row", "lot", "member"]) (ls := [.s]) hf F ⟨rfl, rfl, rfl, by decide +kernel, rfl, by decide +kernel, by decide +kernel⟩ rfl (fun _ _ _ _ _ _ us hl => match us, hl with | [_, _, _], _ => rfl) (fun cdv A' outer s H E gk => ?_) (.inl rfl)
  exact cb_cons (cs_for gk (ci_sq (ce_var 2)) (ctg_name 3 gk.nd) (cb_one (cs_set 1 gk.nd (((co_call gk h_turned (cao_cons (ce_var 0) (cao_cons (ce_var 1) (cao_cons (ce_var 3) (cao_nil))))).ce).co))))
    (cb_one (cs_ret ((ce_var 1).co)))
theorem e_six_nearly {k : Nat} {f : FD} (c : Fc A K mg) (h_has_yes : FnY P w K mg base k ("has_yes" : Str) ["many", "number", "member"] [.s, .s, .s] .s (F_has_yes A)) (h_plain : FnY P w K mg base k ("plain" : Str) ["many"] [.s] .s (F_plain A)) (h_turned : FnY P w K mg base k ("turned" : Str) ["many", "number", "member"] [.s, .s, .s] .s (F_turned A)) (h_turned_all : FnY P w K mg base k ("turned_all" : Str) ["many", "row", "lot"] [.s, .s, .s] .s (F_turned_all A)) (h_unlike_in : FnY P w K mg base k ("unlike_in" : Str) ["club", "one", "other"] [.s, .s, .s] .s (F_unlike_in A)) (h_with_couples : FnY P w K mg base k ("with_couples" : Str) ["couples"] [.s] .s f) (h_without : FnY P w K mg base k ("without" : Str) ["many", "row", "member"] [.s, .s, .s] .s (F_without A)) : FnY P w K mg base (k + 1) ("six_nearly" : Str) ["main"] [.s] .s (runF 11 [.s] (m_six_nearly A f)) := by
  obtain ⟨_, hf, F⟩ := c.d_six_nearly
  refine fn_e (N := ["main", "others", "member", "first", "second", "common_row", "lot", "across", "found", "row", "spot"]) (ls := [.s, .s, .s, .s, .s, .s, .s, .l .s, .s, .s]) hf F ⟨rfl, rfl, rfl, by decide +kernel, rfl, by decide +kernel, by decide +kernel⟩ rfl (fun _ _ _ _ _ _ us hl => match us, hl with | [_], _ => rfl) (fun cdv A' outer s H E gk => ?_) (.inl rfl)
  exact cb_cons (cs_setLcS 1 gk (ci_r1 (ca_cons (ce_int) (ca_nil)) c.b_range) (blkOk_by (own := [("member", 2)]) rfl) (fun _ _ _ _ _ => ctg_name 2 gk.blk.nd) (fun _ _ _ _ _ => ctts_one (ct_cmp (op_neD gk.blk.room.units) ro_ne (ce_var 2) (ce_var 0) (by rfl))) (fun _ _ _ _ _ => (ce_var 2).co) (by rfl))
    (cb_cons (cs_set 3 gk.nd (((co_call gk h_with_couples (cao_cons (ce_gtup c.t_FIRST_HALF) (cao_nil))).ce).co))
    (cb_cons (cs_set 4 gk.nd (((co_call gk h_with_couples (cao_cons (ce_gtup c.t_SECOND_HALF) (cao_nil))).ce).co))
    (cb_cons (cs_set 5 gk.nd ((ce_meth PySem.F.slot_tuple_index PySem.F.type_tuple_index mt_indexI ro_index (ce_var 3) (ca_cons (ce_int) (ca_nil))).co))
    (cb_cons (cs_set 6 gk.nd (((co_call gk h_unlike_in (cao_cons ((co_call gk h_plain (cao_cons (ce_int) (cao_nil))).ce) (cao_cons (ce_var 5) (cao_cons (ce_meth PySem.F.slot_tuple_index PySem.F.type_tuple_index mt_indexI ro_index (ce_var 4) (ca_cons (ce_int) (ca_nil))) (cao_nil))))).ce).co))
    (cb_cons (cs_set 7 gk.nd ((ce_tup (ca_cons (ce_var 5) (ca_cons ((co_call gk h_turned (cao_cons (ce_int) (cao_cons (ce_var 5) (cao_cons (ce_int) (cao_nil))))).ce) (ca_nil)))).co))
    (cb_cons (cs_set 8 gk.nd (co_lst (ca_nil)))
    (cb_cons (cs_for gk (ci_r1 (ca_cons (ce_ix (ix_list.or ix_tup) ro_ix (ce_gtup c.t_POWERS) (ce_int)) (ca_nil)) c.b_range) (ctg_name 9 gk.nd) (cb_cons (cs_set 10 gk.nd (((co_call gk h_without (cao_cons (ce_int) (cao_cons (ce_var 9) (cao_cons (ce_var 0) (cao_nil))))).ce).co))
    (cb_cons (cs_set 2 gk.nd ((ce_ite (ct_val ((co_call gk h_has_yes (cao_cons (ce_int) (cao_cons (ce_var 9) (cao_cons (ce_var 0) (cao_nil))))).ce)) (ce_ix (ix_list.or ix_tup) ro_ix (ce_var 4) ((co_call gk h_turned_all (cao_cons (ce_int) (cao_cons (ce_var 10) (cao_cons (ce_var 6) (cao_nil))))).ce)) (ce_ix (ix_list.or ix_tup) ro_ix (ce_var 3) (ce_var 10))).co))
    (cb_one (cs_expr (ce_modL 8 PySem.F.slot_list_append PySem.F.type_list_append mt_append ro_append (ca_cons (ce_ite (ct_cmp op_in_seq ro_inSeq (ce_var 10) (ce_var 7) (by rfl)) (ce_var 0) (ce_ix (ix_list.or ix_tup) ro_ix (ce_var 1) (ce_var 2))) (ca_nil))))))))
    (cb_one (cs_ret (((ce_lend (ce_callTy cr_tupK ro_tupleK c.b_tuple (ca_cons (ce_var 8) (ca_nil))))).co))))))))))
theorem e_doubled {k : Nat} {f : FD} (c : Fc A K mg) (h_has_yes : FnY P w K mg base k ("has_yes" : Str) ["many", "number", "member"] [.s, .s, .s] .s (F_has_yes A)) (h_turned : FnY P w K mg base k ("turned" : Str) ["many", "number", "member"] [.s, .s, .s] .s (F_turned A)) (h_with_couples : FnY P w K mg base k ("with_couples" : Str) ["couples"] [.s] .s f) (h_without : FnY P w K mg base k ("without" : Str) ["many", "row", "member"] [.s, .s, .s] .s (F_without A)) : FnY P w K mg base (k + 1) ("doubled" : Str) ["couples", "main"] [.s, .s] .s (runF 13 [.s, .s] (m_doubled A f)) := by
  obtain ⟨_, hf, F⟩ := c.d_doubled
  refine fn_e (N := ["couples", "main", "many", "others", "member", "own", "half", "across", "place", "firsts", "row", "found", "spot"]) (ls := [.s, .s, .s, .l .s, .s, .k .s, .s, .s, .s, .l .s, .s]) hf F ⟨rfl, rfl, rfl, by decide +kernel, rfl, by decide +kernel, by decide +kernel⟩ rfl (fun _ _ _ _ _ _ us hl => match us, hl with | [_, _], _ => rfl) (fun cdv A' outer s H E gk => ?_) (.inl rfl)
  exact cb_cons (cs_set 2 gk.nd ((ce_callB call_len ro_len c.b_len (ca_cons (ce_var 0) (ca_nil))).co))
    (cb_cons (cs_setLcS 3 gk (ci_r1 (ca_cons (ce_var 2) (ca_nil)) c.b_range) (blkOk_by (own := [("member", 4)]) rfl) (fun _ _ _ _ _ => ctg_name 4 gk.blk.nd) (fun _ _ _ _ _ => ctts_one (ct_cmp (op_neD gk.blk.room.units) ro_ne (ce_var 4) (ce_var 1) (by rfl))) (fun _ _ _ _ _ => (ce_var 4).co) (by rfl))
    (cb_cons (cs_setLc 5 gk (ci_sq (ce_var 3)) (blkOk_by (own := [("member", 4)]) rfl) (fun _ _ _ _ _ => ctg_name 4 gk.blk.nd) (fun _ _ _ _ _ => ctts_nil) (fun _ _ _ _ _ => (ce_op op_mulW ro_mulI (ce_op op_fdivW ro_divI (ce_op op_add ro_int0 (ce_op op_fdivW ro_divI (ce_ix (ix_list.or ix_tup) ro_ix (ce_var 0) (ce_var 4)) (ce_int)) (ce_int)) (ce_int)) (ce_int)).co) (by rfl))
    (cb_cons (cs_augL 5 ip_add ro_int0 (ce_int) ((ce_lend (ce_op op_sub ro_int0 (ce_ix (ix_list.or ix_tup) ro_ix (ce_gtup c.t_POWERS) (ce_op op_sub ro_int0 (ce_var 2) (ce_int))) (ce_callB (cr_sumA gk.pure.calm) ro_sum c.b_sum (ca_cons (ce_var 5) (ca_nil)))))))
    (cb_cons (cs_set 6 gk.nd (((ce_lend ((co_call gk.pure h_with_couples (cao_cons (ce_callTy cr_tupK ro_tupleK c.b_tuple (ca_cons (ce_var 5) (ca_nil))) (cao_nil))).ce))).co))
    (cb_cons (cs_set 7 gk.nd (co_dnewK))
    (cb_cons (cs_for gk (ci_enu (ce_var 3) c.b_enumerate) (ctg_tup gk.calm (ctgs_cons (ctg_name 8 gk.nd) (ctgs_cons (ctg_name 4 gk.nd) (ctgs_nil))) (hl := fun _ _ _ h => tgCons_len (fun _ _ _ h => tgCons_len (fun _ _ _ h => tgNil_len h) h) h)) (cb_cons (cs_setLcS 9 gk (ci_r1 (ca_cons (ce_callB call_len ro_len c.b_len (ca_cons (ce_var 6) (ca_nil))) (ca_nil)) c.b_range) (blkOk_by (own := [("row", 10)]) rfl) (fun _ _ _ _ _ => ctg_name 10 gk.blk.nd) (fun _ _ _ _ _ => ctts_one ((cw_and (ct_cmp (op_eqD gk.blk.room.units) ro_eq (ce_ix (ix_list.or ix_tup) ro_ix (ce_var 6) (ce_var 10)) (ce_var 8) (by rfl)) (cw_and1 (ct_not (ct_val ((co_call gk.blk h_has_yes (cao_cons (ce_op op_sub ro_int0 (ce_var 2) (ce_int)) (cao_cons (ce_var 10) (cao_cons (ce_var 8) (cao_nil))))).ce))))).ct)) (fun _ _ _ _ _ => (ce_var 10).co) (by rfl))
    (cb_one (cs_for gk (ci_sq ((co_lend (co_slL (ce_var 9) (cpa_none) (cpa_some (ce_op op_sub ro_int0 (ce_ix (ix_list.or ix_tup) ro_ix (ce_var 5) (ce_var 8)) (ce_op op_fdivW ro_divI (ce_ix (ix_list.or ix_tup) ro_ix (ce_var 0) (ce_var 4)) (ce_int)))))).ce)) (ctg_name 10 gk.nd) (cb_cons (cs_putK gk 7 (ce_bl) (ce_var 10))
    (cb_one (cs_putK gk 7 (ce_bl) ((co_call gk h_turned (cao_cons (ce_op op_sub ro_int0 (ce_var 2) (ce_int)) (cao_cons (ce_var 10) (cao_cons (ce_var 8) (cao_nil))))).ce))))))))
    (cb_cons (cs_set 11 gk.nd (co_lst (ca_nil)))
    (cb_cons (cs_for gk (ci_r1 (ca_cons (ce_ix (ix_list.or ix_tup) ro_ix (ce_gtup c.t_POWERS) (ce_var 2)) (ca_nil)) c.b_range) (ctg_name 10 gk.nd) (cb_cons (cs_set 12 gk.nd (((co_call gk h_without (cao_cons (ce_var 2) (cao_cons (ce_var 10) (cao_cons (ce_var 1) (cao_nil))))).ce).co))
    (cb_one (cs_expr (ce_modL 11 PySem.F.slot_list_append PySem.F.type_list_append mt_append ro_append (ca_cons ((ce_lend (ce_ite (ct_din gk.pure (ce_var 12) (ce_var 7)) (ce_var 1) (ce_ix (ix_list.or ix_tup) ro_ix (ce_var 3) (ce_ix (ix_list.or ix_tup) ro_ix (ce_var 6) (ce_var 12)))))) (ca_nil)))))))
    (cb_one (cs_ret (((ce_lend (ce_callTy cr_tupK ro_tupleK c.b_tuple (ca_cons (ce_var 11) (ca_nil))))).co)))))))))))
theorem e_with_couples {k : Nat} {f : FD} (c : Fc A K mg) (h_doubled : FnY P w K mg base k ("doubled" : Str) ["couples", "main"] [.s, .s] .s (F_doubled A f)) (h_six_nearly : FnY P w K mg base k ("six_nearly" : Str) ["main"] [.s] .s (F_six_nearly A f)) : FnY P w K mg base (k + 1) ("with_couples" : Str) ["couples"] [.s] .s (runF 2 [.s] (m_with_couples A f)) := by
  obtain ⟨_, hf, F⟩ := c.d_with_couples
  refine fn_e (N := ["couples", "many"]) (ls := [.s]) hf F ⟨rfl, rfl, rfl, by decide +kernel, rfl, by decide +kernel, by decide +kernel⟩ rfl (fun _ _ _ _ _ _ us hl => match us, hl with | [_], _ => rfl) (fun cdv A' outer s H E gk => ?_) (.inl rfl)
  exact cb_cons (cs_set 1 gk.nd ((ce_callB call_len ro_len c.b_len (ca_cons (ce_var 0) (ca_nil))).co))
    (cb_cons (cs_if (ct_cmp (op_eqD gk.room.units) ro_eq (ce_var 1) (ce_int) (by rfl)) (cb_one (cs_ret ((ce_tup (ca_cons (ce_int) (ca_cons (ce_int) (ca_nil)))).co))) (cb_nil))
    (cb_cons (cs_if (ct_cmp (op_eqD gk.room.units) ro_eq (ce_var 1) (ce_int) (by rfl)) (cb_one (cs_ret ((ce_op op_repT ro_repT (ce_tup (ca_cons (ce_meth PySem.F.slot_tuple_index PySem.F.type_tuple_index mt_indexI ro_index (ce_var 0) (ca_cons (ce_int) (ca_nil))) (ca_nil))) (ce_int)).co))) (cb_nil))
    (cb_cons (cs_if (ct_cmp (op_eqD gk.room.units) ro_eq (ce_var 0) (ce_gtup c.t_FOUR_ALIKE) (by rfl)) (cb_one (cs_ret ((ce_gtup c.t_FOUR_COUPLING).co))) (cb_nil))
    (cb_cons (cs_if (ct_cmp (op_eqD gk.room.units) ro_eq (ce_callTy cr_tupK ro_tupleK c.b_tuple (ca_cons ((co_callBL cr_sortS ro_sorted c.b_sorted (ca_cons (ce_var 0) (ca_nil))).ce) (ca_nil))) (ce_gtup c.t_SIX_NEARLY) (by rfl)) (cb_one (cs_ret (((co_call gk h_six_nearly (cao_cons (ce_meth PySem.F.slot_tuple_index PySem.F.type_tuple_index mt_indexI ro_index (ce_var 0) (ca_cons (ce_int) (ca_nil))) (cao_nil))).ce).co))) (cb_nil))
    (cb_one (cs_ret (((co_call gk h_doubled (cao_cons (ce_var 0) (cao_cons (ce_meth PySem.F.slot_tuple_index PySem.F.type_tuple_index mt_indexI ro_index (ce_var 0) (ca_cons (ce_callB (cr_maxS gk.calm gk.room.units) ro_best c.b_max (ca_cons (ce_var 0) (ca_nil))) (ca_nil))) (cao_nil)))).ce).co)))))))
theorem e_coupling_often {k : Nat} (c : Fc A K mg) (h_are_possible : FnY P w K mg base k ("are_possible" : Str) ["numbers"] [.s] .s (F_are_possible A)) (h_check_numbers : FnY P w K mg base k ("check_numbers" : Str) ["numbers"] [.s] .s (F_check_numbers A)) (h_with_couples : FnY P w K mg base k ("with_couples" : Str) ["couples"] [.s] .s (F_with_couples A 12)) : FnY P w K mg base (k + 1) ("coupling_often" : Str) ["numbers"] [.s] .s (runF 2 [.s] (m_coupling_often A)) := by
  obtain ⟨_, hf, F⟩ := c.d_coupling_often
  refine fn_e (N := ["numbers", "number"]) (ls := [.s]) hf F ⟨rfl, rfl, rfl, by decide +kernel, rfl, by decide +kernel, by decide +kernel⟩ rfl (fun _ _ _ _ _ _ us hl => match us, hl with | [_], _ => rfl) (fun cdv A' outer s H E gk => ?_) (.inl rfl)
  exact cb_cons (cs_expr ((co_call gk h_check_numbers (cao_cons (ce_var 0) (cao_nil))).ce))
    (cb_cons (cs_if (ct_not (ct_val ((co_call gk h_are_possible (cao_cons (ce_var 0) (cao_nil))).ce))) (cb_one (cs_ret ((ce_non).co))) (cb_nil))
    (cb_one (cs_ret (((co_call gk h_with_couples (cao_cons (ce_callTy cr_tupK ro_tupleK c.b_tuple (ca_cons ((co_lc gk (ci_sq (ce_var 0)) (blkOk_by (own := [("number", 1)]) rfl) (fun _ _ _ _ _ => ctg_name 1 gk.blk.nd) (fun _ _ _ _ _ => ctts_nil) (fun _ _ _ _ _ => (ce_op op_fdivW ro_divI (ce_var 1) (ce_int)).co)).ce) (ca_nil))) (cao_nil))).ce).co))))
theorem e__law_dice {k : Nat} (c : Fc A K mg)  : FnY P w K mg base (k + 1) ("_law_dice" : Str) ["_law_script"] [.s] (.l .s) (runF 2 [.s] (m__law_dice A)) := by
  obtain ⟨_, hf, F⟩ := c.d__law_dice
  refine fn_e (N := ["_law_script", "_law_cell"]) (ls := [.s]) hf F ⟨rfl, rfl, rfl, by decide +kernel, rfl, by decide +kernel, by decide +kernel⟩ rfl (fun _ _ _ _ _ _ us hl => match us, hl with | [_], _ => rfl) (fun cdv A' outer s H E gk => ?_) (.inr NoNx.ret)
  exact cb_one (cs_ret (co_lst (ca_cons ((co_lc gk (ci_sq ((co_slL (ce_var 0) (cpa_none) (cpa_some (ce_int))).ce)) (blkOk_by (own := [("_law_cell", 1)]) rfl) (fun _ _ _ _ _ => ctg_name 1 gk.blk.nd) (fun _ _ _ _ _ => ctts_nil) (fun _ _ _ _ _ => (ce_callB call_abs ro_abs c.b_abs (ca_cons (ce_callTy call_int1 ro_intD c.b_int (ca_cons (ce_var 1) (ca_nil))) (ca_nil))).co)).ce) (ca_cons (ce_int) (ca_cons (ce_int) (ca_cons (ce_int) (ca_cons (ce_int) (ca_nil))))))))
theorem e__law_draw {k : Nat} (c : Fc A K mg)  : FnY P w K mg base (k + 1) ("_law_draw" : Str) ["_law_dice_here", "_law_sides"] [.l .s, .s] .s (runF 5 [.l .s, .s] (m__law_draw A)) := by
  obtain ⟨_, hf, F⟩ := c.d__law_draw
  refine fn_e (N := ["_law_dice_here", "_law_sides", "_law_cell", "_law_digit", "_law_mixed"]) (ls := [.s, .s, .s]) hf F ⟨rfl, rfl, rfl, by decide +kernel, rfl, by decide +kernel, by decide +kernel⟩ rfl (fun _ _ _ _ _ _ us hl => match us, hl with | [_, _], _ => rfl) (fun cdv A' outer s H E gk => ?_) (.inl rfl)
  exact cb_cons (cs_if (ct_lend ((cw_and (ct_cmp (op_eqD gk.pure.room.units) ro_eq (ce_ix (ix_list.or ix_tup) ro_ix (ce_var 0) (ce_int)) (ce_int) (by rfl)) (cw_and1 (ct_cmp op_lt ro_cmp (ce_ix (ix_list.or ix_tup) ro_ix (ce_var 0) (ce_int)) (ce_callB call_len ro_len c.b_len (ca_cons (ce_ix (ix_list.or ix_tup) ro_ix (ce_var 0) (ce_int)) (ca_nil))) (by rfl)))).ct)) (cb_cons (cs_set 2 gk.nd (((ce_lend (ce_ix (ix_list.or ix_tup) ro_ix (ce_ix (ix_list.or ix_tup) ro_ix (ce_var 0) (ce_int)) (ce_ix (ix_list.or ix_tup) ro_ix (ce_var 0) (ce_int))))).co))
    (cb_cons (cs_setL 0 ((ce_lend (ce_op op_add ro_int0 (ce_ix (ix_list.or ix_tup) ro_ix (ce_var 0) (ce_int)) (ce_int)))) (ce_int))
    (cb_one (cs_if (ct_cmp op_ge ro_cmp (ce_var 2) (ce_op op_pow ro_powI (ce_int) (ce_int)) (by rfl)) (cb_one (cs_setL 0 (ce_var 2) (ce_int))) (cb_one (cs_setL 0 ((ce_lend (ce_op op_mod ro_modI (ce_callTy call_int1 ro_intD c.b_int (ca_cons (ce_op op_add ro_int0 (ce_op op_add ro_int0 (ce_op op_mulW ro_mulI (ce_ix (ix_list.or ix_tup) ro_ix (ce_var 0) (ce_int)) (ce_int)) (ce_op op_mulW ro_mulI (ce_var 2) (ce_int))) (ce_ix (ix_list.or ix_tup) ro_ix (ce_var 0) (ce_int))) (ca_nil))) (ce_int)))) (ce_int))))))) (cb_nil))
    (cb_cons (cs_if (ct_lend (ct_cmp op_gt ro_cmp (ce_ix (ix_list.or ix_tup) ro_ix (ce_var 0) (ce_int)) (ce_int) (by rfl))) (cb_cons (cs_set 3 gk.nd (((ce_lend (ce_op op_mod ro_modI (ce_callTy call_int1 ro_intD c.b_int (ca_cons (ce_ix (ix_list.or ix_tup) ro_ix (ce_var 0) (ce_int)) (ca_nil))) (ce_var 1)))).co))
    (cb_cons (cs_setL 0 ((ce_lend (ce_op op_fdivW ro_divI (ce_callTy call_int1 ro_intD c.b_int (ca_cons (ce_ix (ix_list.or ix_tup) ro_ix (ce_var 0) (ce_int)) (ca_nil))) (ce_var 1)))) (ce_int))
    (cb_one (cs_ret ((ce_var 3).co))))) (cb_nil))
    (cb_cons (cs_setL 0 ((ce_lend (ce_op op_add ro_int0 (ce_ix (ix_list.or ix_tup) ro_ix (ce_var 0) (ce_int)) (ce_int)))) (ce_int))
    (cb_cons (cs_setL 0 ((ce_lend (ce_op op_mod ro_modI (ce_callTy call_int1 ro_intD c.b_int (ca_cons (ce_op op_add ro_int0 (ce_op op_add ro_int0 (ce_op op_mulW ro_mulI (ce_ix (ix_list.or ix_tup) ro_ix (ce_var 0) (ce_int)) (ce_int)) (ce_op op_mulW ro_mulI (ce_ix (ix_list.or ix_tup) ro_ix (ce_var 0) (ce_int)) (ce_int))) (ce_int)) (ca_nil))) (ce_int)))) (ce_int))
    (cb_cons (cs_set 4 gk.nd (((ce_lend (ce_op op_mod ro_modI (ce_callTy call_int1 ro_intD c.b_int (ca_cons (ce_op op_mulW ro_mulI (ce_ix (ix_list.or ix_tup) ro_ix (ce_var 0) (ce_int)) (ce_op op_add ro_int0 (ce_op op_fdivW ro_divI (ce_ix (ix_list.or ix_tup) ro_ix (ce_var 0) (ce_int)) (ce_int)) (ce_int))) (ca_nil))) (ce_int)))).co))
    (cb_cons (cs_set 4 gk.nd ((ce_op op_mod ro_modI (ce_callTy call_int1 ro_intD c.b_int (ca_cons (ce_op op_mulW ro_mulI (ce_var 4) (ce_op op_add ro_int0 (ce_op op_fdivW ro_divI (ce_var 4) (ce_int)) (ce_int))) (ca_nil))) (ce_int)).co))
    (cb_one (cs_ret ((ce_op op_mod ro_modI (ce_callTy call_int1 ro_intD c.b_int (ca_cons (ce_op op_fdivW ro_divI (ce_var 4) (ce_int)) (ca_nil))) (ce_var 1)).co))))))))
theorem e__law_power {k : Nat} (c : Fc A K mg)  : FnY P w K mg base (k + 1) ("_law_power" : Str) ["_law_many"] [.s] .s (runF 1 [.s] (m__law_power A)) := by
  obtain ⟨_, hf, F⟩ := c.d__law_power
  refine fn_e (N := ["_law_many"]) (ls := []) hf F ⟨rfl, rfl, rfl, by decide +kernel, rfl, by decide +kernel, by decide +kernel⟩ rfl (fun _ _ _ _ _ _ us hl => match us, hl with | [_], _ => rfl) (fun cdv A' outer s H E gk => ?_) (.inl rfl)
  exact cb_one (cs_ret ((ce_ix (ix_list.or ix_tup) ro_ix (ce_tup (ca_cons (ce_int) (ca_cons (ce_int) (ca_cons (ce_int) (ca_cons (ce_int) (ca_cons (ce_int) (ca_cons (ce_int) (ca_cons (ce_int) (ca_cons (ce_int) (ca_cons (ce_int) (ca_nil))))))))))) (ce_var 0)).co))
theorem e__law_turned {k : Nat} (c : Fc A K mg) (h__law_power : FnY P w K mg base k ("_law_power" : Str) ["_law_many"] [.s] .s (F__law_power A)) : FnY P w K mg base (k + 1) ("_law_turned" : Str) ["_law_many", "_law_row", "_law_member"] [.s, .s, .s] .s (runF 4 [.s, .s, .s] (m__law_turned A)) := by
  obtain ⟨_, hf, F⟩ := c.d__law_turned
  refine fn_e (N := ["_law_many", "_law_row", "_law_member", "_law_step"]) (ls := [.s]) hf F ⟨rfl, rfl, rfl, by decide +kernel, rfl, by decide +kernel, by decide +kernel⟩ rfl (fun _ _ _ _ _ _ us hl => match us, hl with | [_, _, _], _ => rfl) (fun cdv A' outer s H E gk => ?_) (.inl rfl)
  exact cb_cons (cs_set 3 gk.nd (((co_call gk h__law_power (cao_cons (ce_op op_sub ro_int0 (ce_op op_sub ro_int0 (ce_var 0) (ce_int)) (ce_var 2)) (cao_nil))).ce).co))
    (cb_one (cs_ret ((ce_ite (ct_cmp (op_eqD gk.room.units) ro_eq (ce_op op_mod ro_modI (ce_op op_fdivW ro_divI (ce_var 1) (ce_var 3)) (ce_int)) (ce_int) (by rfl)) (ce_op op_sub ro_int0 (ce_var 1) (ce_var 3)) (ce_op op_add ro_int0 (ce_var 1) (ce_var 3))).co)))
theorem e__law_is_count {k : Nat} (c : Fc A K mg)  : FnY P w K mg base (k + 1) ("_law_is_count" : Str) ["_law_thing", "_law_many"] [.s, .s] .s (runF 2 [.s, .s] (m__law_is_count A)) := by
  obtain ⟨_, hf, F⟩ := c.d__law_is_count
  refine fn_e (N := ["_law_thing", "_law_many"]) (ls := []) hf F ⟨rfl, rfl, rfl, by decide +kernel, rfl, by decide +kernel, by decide +kernel⟩ rfl (fun _ _ _ _ _ _ us hl => match us, hl with | [_, _], _ => rfl) (fun cdv A' outer s H E gk => ?_) (.inl rfl)
  exact cb_one (cs_ret ((ce_and (ce_callB call_isi ro_isi c.b_isinstance (ca_cons (ce_var 0) (ca_cons (ce_ty c.b_int) (ca_nil)))) (ce_and (ce_not (ce_callB call_isi ro_isi c.b_isinstance (ca_cons (ce_var 0) (ca_cons (ce_ty c.b_bool) (ca_nil))))) (ce_one (ce_chain op_le ro_cmp op_lt ro_cmp (ce_int) (ce_var 0) (ce_var 1))))).co))
theorem e__law_is_coupling {k : Nat} (c : Fc A K mg) (h__law_is_count : FnY P w K mg base k ("_law_is_count" : Str) ["_law_thing", "_law_many"] [.s, .s] .s (F__law_is_count A)) (h__law_power : FnY P w K mg base k ("_law_power" : Str) ["_law_many"] [.s] .s (F__law_power A)) (h__law_turned : FnY P w K mg base k ("_law_turned" : Str) ["_law_many", "_law_row", "_law_member"] [.s, .s, .s] .s (F__law_turned A)) : FnY P w K mg base (k + 1) ("_law_is_coupling" : Str) ["_law_many", "_law_thing"] [.s, .s] .s (runF 4 [.s, .s] (m__law_is_coupling A)) := by
  obtain ⟨_, hf, F⟩ := c.d__law_is_coupling
  refine fn_e (N := ["_law_many", "_law_thing", "_law_member", "_law_row"]) (ls := [.s, .s]) hf F ⟨rfl, rfl, rfl, by decide +kernel, rfl, by decide +kernel, by decide +kernel⟩ rfl (fun _ _ _ _ _ _ us hl => match us, hl with | [_, _], _ => rfl) (fun cdv A' outer s H E gk => ?_) (.inl rfl)
  exact cb_cons (cs_if ((cw_or (ct_not (ct_val (ce_callB call_isi ro_isi c.b_isinstance (ca_cons (ce_var 1) (ca_cons (ce_ty c.b_tuple) (ca_nil)))))) (cw_or1 (ct_cmp (op_neD gk.room.units) ro_ne (ce_callB call_len ro_len c.b_len (ca_cons (ce_var 1) (ca_nil))) ((co_call gk h__law_power (cao_cons (ce_var 0) (cao_nil))).ce) (by rfl)))).ct) (cb_one (cs_ret ((ce_bl).co))) (cb_nil))
    (cb_cons (cs_if (ct_cmp op_gt ro_cmp (ce_callB call_len ro_len c.b_len (ca_cons ((co_lc gk (ci_sq (ce_var 1)) (blkOk_by (own := [("_law_member", 2)]) rfl) (fun _ _ _ _ _ => ctg_name 2 gk.blk.nd) (fun _ _ _ _ _ => ctts_one (ct_not (ct_val ((co_call gk.blk h__law_is_count (cao_cons (ce_var 2) (cao_cons (ce_var 0) (cao_nil)))).ce)))) (fun _ _ _ _ _ => (ce_var 2).co)).ce) (ca_nil))) (ce_int) (by rfl)) (cb_one (cs_ret ((ce_bl).co))) (cb_nil))
    (cb_one (cs_ret ((ce_cmp (op_eqD gk.room.units) ro_eq (ce_callB call_len ro_len c.b_len (ca_cons ((co_lc gk (ci_r1 (ca_cons (ce_callB call_len ro_len c.b_len (ca_cons (ce_var 1) (ca_nil))) (ca_nil)) c.b_range) (blkOk_by (own := [("_law_row", 3)]) rfl) (fun _ _ _ _ _ => ctg_name 3 gk.blk.nd) (fun _ _ _ _ _ => ctts_one (ct_cmp (op_neD gk.blk.room.units) ro_ne (ce_ix (ix_list.or ix_tup) ro_ix (ce_var 1) ((co_call gk.blk h__law_turned (cao_cons (ce_var 0) (cao_cons (ce_var 3) (cao_cons (ce_ix (ix_list.or ix_tup) ro_ix (ce_var 1) (ce_var 3)) (cao_nil))))).ce)) (ce_ix (ix_list.or ix_tup) ro_ix (ce_var 1) (ce_var 3)) (by rfl))) (fun _ _ _ _ _ => (ce_var 3).co)).ce) (ca_nil))) (ce_int) (by rfl)).co))))
theorem e__law_order {k : Nat} (c : Fc A K mg) (h__law_draw : FnY P w K mg base k ("_law_draw" : Str) ["_law_dice_here", "_law_sides"] [.l .s, .s] .s (F__law_draw A)) : FnY P w K mg base (k + 1) ("_law_order" : Str) ["_law_dice_here", "_law_many"] [.l .s, .s] .s (runF 5 [.l .s, .s] (m__law_order A)) := by
  obtain ⟨_, hf, F⟩ := c.d__law_order
  refine fn_e (N := ["_law_dice_here", "_law_many", "_law_left", "_law_found", "_law_k"]) (ls := [.l .s, .l .s, .s]) hf F ⟨rfl, rfl, rfl, by decide +kernel, rfl, by decide +kernel, by decide +kernel⟩ rfl (fun _ _ _ _ _ _ us hl => match us, hl with | [_, _], _ => rfl) (fun cdv A' outer s H E gk => ?_) (.inl rfl)
  exact cb_cons (cs_set 2 gk.nd (co_lrange gk (ce_var 1) c.b_list c.b_range))
    (cb_cons (cs_set 3 gk.nd (co_lst (ca_nil)))
    (cb_cons (cs_for gk (ci_r1 (ca_cons (ce_var 1) (ca_nil)) c.b_range) (ctg_name 4 gk.nd) (cb_one (cs_expr (ce_modL 3 PySem.F.slot_list_append PySem.F.type_list_append mt_append ro_append (ca_cons (ce_modL 2 PySem.F.slot_list_pop PySem.F.type_list_pop mt_popAt ro_popAt (ca_cons ((co_call gk h__law_draw (cao_own 0 (cao_cons ((ce_lend (ce_callB call_len ro_len c.b_len (ca_cons (ce_var 2) (ca_nil))))) (cao_nil)))).ce) (ca_nil))) (ca_nil))))))
    (cb_one (cs_ret (((co_take 3).ce).co)))))
theorem e__law_often {k : Nat} (c : Fc A K mg)  : FnY P w K mg base (k + 1) ("_law_often" : Str) ["_law_many", "_law_coupling"] [.s, .s] .s (runF 4 [.s, .s] (m__law_often A)) := by
  obtain ⟨_, hf, F⟩ := c.d__law_often
  refine fn_e (N := ["_law_many", "_law_coupling", "_law_other", "_law_member"]) (ls := [.s, .s]) hf F ⟨rfl, rfl, rfl, by decide +kernel, rfl, by decide +kernel, by decide +kernel⟩ rfl (fun _ _ _ _ _ _ us hl => match us, hl with | [_, _], _ => rfl) (fun cdv A' outer s H E gk => ?_) (.inl rfl)
  exact cb_one (cs_ret ((ce_callTy call_tuple_of ro_tupleOf c.b_tuple (ca_cons ((co_lc gk (ci_r1 (ca_cons (ce_var 0) (ca_nil)) c.b_range) (blkOk_by (own := [("_law_member", 3)]) rfl) (fun _ _ _ _ _ => ctg_name 3 gk.blk.nd) (fun _ _ _ _ _ => ctts_nil) (fun _ _ _ _ _ => (ce_callB call_len ro_len c.b_len (ca_cons ((co_lc gk.blk (ci_sq (ce_var 1)) (blkOk_by (own := [("_law_other", 2)]) rfl) (fun _ _ _ _ _ => ctg_name 2 gk.blk.blk.nd) (fun _ _ _ _ _ => ctts_one (ct_cmp (op_eqD gk.blk.blk.room.units) ro_eq (ce_var 2) (ce_var 3) (by rfl))) (fun _ _ _ _ _ => (ce_int).co)).ce) (ca_nil))).co)).ce) (ca_nil))).co))
theorem e__law_flag {k : Nat} (c : Fc A K mg)  : FnY P w K mg base (k + 1) ("_law_flag" : Str) ["_law_told", "_law_due"] [.s, .s] .s (runF 2 [.s, .s] (m__law_flag A)) := by
  obtain ⟨_, hf, F⟩ := c.d__law_flag
  refine fn_e (N := ["_law_told", "_law_due"]) (ls := []) hf F ⟨rfl, rfl, rfl, by decide +kernel, rfl, by decide +kernel, by decide +kernel⟩ rfl (fun _ _ _ _ _ _ us hl => match us, hl with | [_, _], _ => rfl) (fun cdv A' outer s H E gk => ?_) (.inl rfl)
  exact cb_one (cs_ret ((ce_and (ce_callB call_isi ro_isi c.b_isinstance (ca_cons (ce_var 0) (ca_cons (ce_ty c.b_bool) (ca_nil)))) (ce_one (ce_cmp (op_eqD gk.room.units) ro_eq (ce_var 0) (ce_var 1) (by rfl)))).co))
theorem e__law_fours {k : Nat} (c : Fc A K mg) (h__law_draw : FnY P w K mg base k ("_law_draw" : Str) ["_law_dice_here", "_law_sides"] [.l .s, .s] .s (F__law_draw A)) (h__law_order : FnY P w K mg base k ("_law_order" : Str) ["_law_dice_here", "_law_many"] [.l .s, .s] .s (F__law_order A)) (h__law_power : FnY P w K mg base k ("_law_power" : Str) ["_law_many"] [.s] .s (F__law_power A)) : FnY P w K mg base (k + 1) ("_law_fours" : Str) ["_law_dice_here", "_law_many"] [.l .s, .s] .s (runF 9 [.l .s, .s] (m__law_fours A)) := by
  obtain ⟨_, hf, F⟩ := c.d__law_fours
  refine fn_e (N := ["_law_dice_here", "_law_many", "_law_left", "_law_found", "_law_way", "_law_k", "_law_most", "_law_more", "_law_order_here"]) (ls := [.s, .l .s, .s, .s, .s, .s, .s]) hf F ⟨rfl, rfl, rfl, by decide +kernel, rfl, by decide +kernel, by decide +kernel⟩ rfl (fun _ _ _ _ _ _ us hl => match us, hl with | [_, _], _ => rfl) (fun cdv A' outer s H E gk => ?_) (.inl rfl)
  exact cb_cons (cs_set 2 gk.nd ((ce_op op_fdivW ro_divI ((co_call gk h__law_power (cao_cons (ce_var 1) (cao_nil))).ce) (ce_int)).co))
    (cb_cons (cs_set 3 gk.nd (co_lst (ca_nil)))
    (cb_cons (cs_set 4 gk.nd (((co_call gk h__law_draw (cao_own 0 (cao_cons (ce_int) (cao_nil)))).ce).co))
    (cb_cons (cs_for gk (ci_r1 (ca_cons (ce_op op_sub ro_int0 (ce_var 1) (ce_int)) (ca_nil)) c.b_range) (ctg_name 5 gk.nd) (cb_cons (cs_set 6 gk.nd ((ce_ix (ix_list.or ix_tup) ro_ix ((co_lst (ca_cons (ce_var 2) (ca_cons (ce_op op_fdivW ro_divI (ce_var 2) (ce_op op_sub ro_int0 (ce_var 1) (ce_var 5))) (ca_cons (ce_op op_fdivW ro_divI (ce_op op_mulW ro_mulI (ce_int) (ce_var 2)) (ce_op op_sub ro_int0 (ce_var 1) (ce_var 5))) (ca_cons (ce_int) (ca_nil)))))).ce) (ce_var 4)).co))
    (cb_cons (cs_set 7 gk.nd (((co_call gk h__law_draw (cao_own 0 (cao_cons (ce_op op_add ro_int0 (ce_callB (call_min2 gk.calm) ro_min2 c.b_min (ca_cons (ce_var 6) (ca_cons (ce_var 2) (ca_nil)))) (ce_int)) (cao_nil)))).ce).co))
    (cb_cons (cs_if ((cw_and (ct_cmp (op_eqD gk.room.units) ro_eq (ce_var 4) (ce_int) (by rfl)) (cw_and1 (ct_cmp op_gt ro_cmp ((co_call gk h__law_draw (cao_own 0 (cao_cons (ce_int) (cao_nil)))).ce) (ce_int) (by rfl)))).ct) (cb_one (cs_set 7 gk.nd ((ce_callB (call_min2 gk.calm) ro_min2 c.b_min (ca_cons (ce_var 6) (ca_cons (ce_var 2) (ca_nil)))).co))) (cb_nil))
    (cb_cons (cs_expr (ce_modL 3 PySem.F.slot_list_append PySem.F.type_list_append mt_append ro_append (ca_cons (ce_var 7) (ca_nil))))
    (cb_one (cs_set 2 gk.nd ((ce_op op_sub ro_int0 (ce_var 2) (ce_var 7)).co))))))))
    (cb_cons (cs_expr (ce_modL 3 PySem.F.slot_list_append PySem.F.type_list_append mt_append ro_append (ca_cons (ce_var 2) (ca_nil))))
    (cb_cons (cs_set 8 gk.nd (((co_call gk h__law_order (cao_own 0 (cao_cons (ce_var 1) (cao_nil)))).ce).co))
    (cb_one (cs_ret (((co_lend (co_lc gk.pure (ci_sq (ce_var 8)) (blkOk_by (own := [("_law_k", 5)]) rfl) (fun _ _ _ _ _ => ctg_name 5 gk.pure.blk.nd) (fun _ _ _ _ _ => ctts_nil) (fun _ _ _ _ _ => (ce_op op_mulW ro_mulI (ce_int) (ce_ix (ix_list.or ix_tup) ro_ix (ce_var 3) (ce_var 5))).co))).ce).co))))))))
theorem e__law_near {k : Nat} (c : Fc A K mg) (h__law_draw : FnY P w K mg base k ("_law_draw" : Str) ["_law_dice_here", "_law_sides"] [.l .s, .s] .s (F__law_draw A)) : FnY P w K mg base (k + 1) ("_law_near" : Str) ["_law_dice_here", "_law_many", "_law_numbers"] [.l .s, .s, .s] .s (runF 7 [.l .s, .s, .s] (m__law_near A)) := by
  obtain ⟨_, hf, F⟩ := c.d__law_near
  refine fn_e (N := ["_law_dice_here", "_law_many", "_law_numbers", "_law_made", "_law_one", "_law_two", "_law_kind"]) (ls := [.l .s, .s, .s, .s]) hf F ⟨rfl, rfl, rfl, by decide +kernel, rfl, by decide +kernel, by decide +kernel⟩ rfl (fun _ _ _ _ _ _ us hl => match us, hl with | [_, _, _], _ => rfl) (fun cdv A' outer s H E gk => ?_) (.inl rfl)
  exact cb_cons (cs_set 3 gk.nd (co_callTyL call_list_of ro_listOf c.b_list (ca_cons (ce_var 2) (ca_nil))))
    (cb_cons (cs_set 4 gk.nd (((co_call gk h__law_draw (cao_own 0 (cao_cons (ce_var 1) (cao_nil)))).ce).co))
    (cb_cons (cs_set 5 gk.nd (((co_call gk h__law_draw (cao_own 0 (cao_cons (ce_var 1) (cao_nil)))).ce).co))
    (cb_cons (cs_set 6 gk.nd (((co_call gk h__law_draw (cao_own 0 (cao_cons (ce_int) (cao_nil)))).ce).co))
    (cb_cons (cs_if (ct_lend ((cw_and (ct_cmp (op_eqD gk.pure.room.units) ro_eq (ce_var 6) (ce_int) (by rfl)) (cw_and1 (ct_cmp op_gt ro_cmp (ce_ix (ix_list.or ix_tup) ro_ix (ce_var 3) (ce_var 4)) (ce_int) (by rfl)))).ct)) (cb_cons (cs_setL 3 ((ce_lend (ce_op op_sub ro_int0 (ce_ix (ix_list.or ix_tup) ro_ix (ce_var 3) (ce_var 4)) (ce_int)))) (ce_var 4))
    (cb_one (cs_setL 3 ((ce_lend (ce_op op_add ro_int0 (ce_ix (ix_list.or ix_tup) ro_ix (ce_var 3) (ce_var 5)) (ce_int)))) (ce_var 5)))) (cb_one (cs_if (ct_cmp (op_eqD gk.room.units) ro_eq (ce_var 6) (ce_int) (by rfl)) (cb_one (cs_setL 3 ((ce_lend (ce_op op_add ro_int0 (ce_ix (ix_list.or ix_tup) ro_ix (ce_var 3) (ce_var 4)) (ce_int)))) (ce_var 4))) (cb_one (cs_if (ct_lend ((cw_and (ct_cmp (op_eqD gk.pure.room.units) ro_eq (ce_var 6) (ce_int) (by rfl)) (cw_and1 (ct_cmp op_gt ro_cmp (ce_ix (ix_list.or ix_tup) ro_ix (ce_var 3) (ce_var 4)) (ce_int) (by rfl)))).ct)) (cb_one (cs_setL 3 ((ce_lend (ce_op op_sub ro_int0 (ce_ix (ix_list.or ix_tup) ro_ix (ce_var 3) (ce_var 4)) (ce_int)))) (ce_var 4))) (cb_one (cs_if (ct_lend ((cw_and (ct_cmp (op_eqD gk.pure.room.units) ro_eq (ce_var 6) (ce_int) (by rfl)) (cw_and1 (ct_cmp op_gt ro_cmp (ce_ix (ix_list.or ix_tup) ro_ix (ce_var 3) (ce_var 4)) (ce_int) (by rfl)))).ct)) (cb_cons (cs_setL 3 ((ce_lend (ce_op op_sub ro_int0 (ce_ix (ix_list.or ix_tup) ro_ix (ce_var 3) (ce_var 4)) (ce_int)))) (ce_var 4))
    (cb_one (cs_setL 3 ((ce_lend (ce_op op_add ro_int0 (ce_ix (ix_list.or ix_tup) ro_ix (ce_var 3) (ce_var 5)) (ce_int)))) (ce_var 5)))) (cb_nil))))))))
    (cb_one (cs_ret (((ce_lend (ce_callTy call_tuple_of ro_tupleOf c.b_tuple (ca_cons (ce_var 3) (ca_nil))))).co)))))))
theorem e_law {k : Nat} (c : Fc A K mg) (h__law_dice : FnY P w K mg base k ("_law_dice" : Str) ["_law_script"] [.s] (.l .s) (F__law_dice A)) (h__law_draw : FnY P w K mg base k ("_law_draw" : Str) ["_law_dice_here", "_law_sides"] [.l .s, .s] .s (F__law_draw A)) (h__law_flag : FnY P w K mg base k ("_law_flag" : Str) ["_law_told", "_law_due"] [.s, .s] .s (F__law_flag A)) (h__law_fours : FnY P w K mg base k ("_law_fours" : Str) ["_law_dice_here", "_law_many"] [.l .s, .s] .s (F__law_fours A)) (h__law_is_coupling : FnY P w K mg base k ("_law_is_coupling" : Str) ["_law_many", "_law_thing"] [.s, .s] .s (F__law_is_coupling A)) (h__law_near : FnY P w K mg base k ("_law_near" : Str) ["_law_dice_here", "_law_many", "_law_numbers"] [.l .s, .s, .s] .s (F__law_near A)) (h__law_often : FnY P w K mg base k ("_law_often" : Str) ["_law_many", "_law_coupling"] [.s, .s] .s (F__law_often A)) (h__law_power : FnY P w K mg base k ("_law_power" : Str) ["_law_many"] [.s] .s (F__law_power A)) (h_can_be_often : FnY P w K mg base k ("can_be_often" : Str) ["numbers"] [.s] .s (F_can_be_often A)) (h_coupling_often : FnY P w K mg base k ("coupling_often" : Str) ["numbers"] [.s] .s (F_coupling_often A)) {f0 : Addr} {fd : FuncData} (F : FunD K "law" "law" (defArgs s_law) (defBody s_law) (defScope s_law) [] [] f0 fd) : FnOk P w K mg base (L2.CX P w) (k + 1) f0 fd ["_law_script"] (spF K [.s] .s (runF 9 [.s] (m_law A))) := by
  refine fn_ok (N := ["_law_script", "_law_dice_here", "_law_turn", "_law_many", "_law_numbers", "_law_thing", "_law_due", "_law_number", "_law_told"]) (ls := [.l .s, .s, .s, .s, .s, .s, .s, .s]) F ⟨rfl, rfl, rfl, by decide +kernel, rfl, by decide +kernel, by decide +kernel⟩ rfl (fun cdv A' outer s H E gk => ?_) (.inl rfl)
  exact cb_cons (cs_set 1 gk.nd (co_call gk h__law_dice (cao_cons (ce_var 0) (cao_nil))))
    (cb_cons (cs_for gk (ci_r1 (ca_cons (ce_int) (ca_nil)) c.b_range) (ctg_name 2 gk.nd) (cb_cons (cs_set 3 gk.nd ((ce_op op_add ro_int0 (ce_int) ((co_call gk h__law_draw (cao_own 1 (cao_cons (ce_int) (cao_nil)))).ce)).co))
    (cb_cons (cs_set 4 gk.nd (((co_call gk h__law_fours (cao_own 1 (cao_cons (ce_var 3) (cao_nil)))).ce).co))
    (cb_one (cs_for gk (ci_sq (ce_tup (ca_cons (ce_callTy call_tuple_of ro_tupleOf c.b_tuple (ca_cons (ce_var 4) (ca_nil))) (ca_cons (ce_callTy call_tuple_of ro_tupleOf c.b_tuple (ca_cons ((co_rev (ce_var 4)).ce) (ca_nil))) (ca_cons ((co_call gk h__law_near (cao_own 1 (cao_cons (ce_var 3) (cao_cons (ce_var 4) (cao_nil))))).ce) (ca_nil)))))) (ctg_name 5 gk.nd) (cb_cons (cs_set 6 gk.nd ((ce_and (ce_cmp (op_eqD gk.room.units) ro_eq (ce_callB (cr_sumA gk.calm) ro_sum c.b_sum (ca_cons (ce_var 5) (ca_nil))) ((co_call gk h__law_power (cao_cons (ce_var 3) (cao_nil))).ce) (by rfl)) (ce_one (ce_cmp (op_eqD gk.room.units) ro_eq (ce_callB call_len ro_len c.b_len (ca_cons ((co_lc gk (ci_sq (ce_var 5)) (blkOk_by (own := [("_law_number", 7)]) rfl) (fun _ _ _ _ _ => ctg_name 7 gk.blk.nd) (fun _ _ _ _ _ => ctts_one (ct_cmp (op_neD gk.blk.room.units) ro_ne (ce_op op_mod ro_modI (ce_callTy call_int1 ro_intD c.b_int (ca_cons (ce_var 7) (ca_nil))) (ce_int)) (ce_int) (by rfl))) (fun _ _ _ _ _ => (ce_var 7).co)).ce) (ca_nil))) (ce_int) (by rfl)))).co))
    (cb_cons (cs_if (ct_not (ct_val ((co_call gk h__law_flag (cao_cons ((co_call gk h_can_be_often (cao_cons (ce_var 5) (cao_nil))).ce) (cao_cons (ce_var 6) (cao_nil)))).ce))) (cb_one (cs_ret ((ce_bl).co))) (cb_nil))
    (cb_cons (cs_set 8 gk.nd (((co_call gk h_coupling_often (cao_cons (ce_var 5) (cao_nil))).ce).co))
    (cb_cons (cs_if (ct_cmp (op_neD gk.room.units) ro_ne (ce_cmp op_notN ro_notN (ce_var 8) (ce_non) (by rfl)) (ce_var 6) (by rfl)) (cb_one (cs_ret ((ce_bl).co))) (cb_nil))
    (cb_one (cs_if ((cw_and (ct_val (ce_var 6)) (cw_and1 ((cw_or (ct_not (ct_val ((co_call gk h__law_is_coupling (cao_cons (ce_var 3) (cao_cons (ce_var 8) (cao_nil)))).ce))) (cw_or1 (ct_cmp (op_neD gk.room.units) ro_ne ((co_call gk h__law_often (cao_cons (ce_var 3) (cao_cons (ce_var 8) (cao_nil)))).ce) (ce_var 5) (by rfl)))).ct))).ct) (cb_one (cs_ret ((ce_bl).co))) (cb_nil))))))))))))
    (cb_one (cs_ret ((ce_bl).co))))
theorem e_all (c : Fc A K mg) {f0 : Addr} {fd : FuncData} (F : FunD K "law" "law" (defArgs s_law) (defBody s_law) (defScope s_law) [] [] f0 fd) : FnOk P w K mg base (L2.CX P w) 41 f0 fd ["_law_script"] (spF K [.s] .s (F_law A)) := by
  have h_is_integer : FnY P w K mg base 1 ("is_integer" : Str) ["thing"] [.s] .s (F_is_integer A) := e_is_integer (k := 0) c 
  have h_is_within : FnY P w K mg base 2 ("is_within" : Str) ["thing", "least", "most"] [.s, .s, .s] .s (F_is_within A) := e_is_within (k := 1) c (h_is_integer.up (by decide))
  have h_is_many : FnY P w K mg base 3 ("is_many" : Str) ["thing"] [.s] .s (F_is_many A) := e_is_many (k := 2) c (h_is_within.up (by decide))
  have h_plain : FnY P w K mg base 1 ("plain" : Str) ["many"] [.s] .s (F_plain A) := e_plain (k := 0) c 
  have h_slips_of : FnY P w K mg base 1 ("slips_of" : Str) ["club", "number"] [.s, .s] .s (F_slips_of A) := e_slips_of (k := 0) c 
  have h_unlike_in : FnY P w K mg base 2 ("unlike_in" : Str) ["club", "one", "other"] [.s, .s, .s] .s (F_unlike_in A) := e_unlike_in (k := 1) c (h_slips_of.up (by decide))
  have h_has_yes : FnY P w K mg base 1 ("has_yes" : Str) ["many", "number", "member"] [.s, .s, .s] .s (F_has_yes A) := e_has_yes (k := 0) c 
  have h_turned : FnY P w K mg base 2 ("turned" : Str) ["many", "number", "member"] [.s, .s, .s] .s (F_turned A) := e_turned (k := 1) c (h_has_yes.up (by decide))
  have h_check_numbers : FnY P w K mg base 4 ("check_numbers" : Str) ["numbers"] [.s] .s (F_check_numbers A) := e_check_numbers (k := 3) c (h_is_integer.up (by decide)) (h_is_many.up (by decide))
  have h_are_possible : FnY P w K mg base 1 ("are_possible" : Str) ["numbers"] [.s] .s (F_are_possible A) := e_are_possible (k := 0) c 
  have h_can_be_often : FnY P w K mg base 5 ("can_be_often" : Str) ["numbers"] [.s] .s (F_can_be_often A) := e_can_be_often (k := 4) c (h_are_possible.up (by decide)) (h_check_numbers.up (by decide))
  have h_without : FnY P w K mg base 1 ("without" : Str) ["many", "row", "member"] [.s, .s, .s] .s (F_without A) := e_without (k := 0) c 
  have h_turned_all : FnY P w K mg base 3 ("turned_all" : Str) ["many", "row", "lot"] [.s, .s, .s] .s (F_turned_all A) := e_turned_all (k := 2) c (h_turned.up (by decide))
  have r_with_couples : ∀ n, FnY P w K mg base (3 + 3 * n) ("with_couples" : Str) ["couples"] [.s] .s (F_with_couples A n) := by
    intro n
    induction n with
    | zero => exact fn_0 c.d_with_couples (fun _ _ _ _ _ _ us hl => match us, hl with | [_], _ => rfl)
    | succ n h_with_couples =>
      have h_six_nearly : FnY P w K mg base (3 + 3 * n + 1) ("six_nearly" : Str) ["main"] [.s] .s (F_six_nearly A (F_with_couples A n)) := e_six_nearly (k := 3 + 3 * n + 0) c (h_has_yes.up (by omega)) (h_plain.up (by omega)) (h_turned.up (by omega)) (h_turned_all.up (by omega)) (h_unlike_in.up (by omega)) (h_with_couples.up (by omega)) (h_without.up (by omega))
      have h_doubled : FnY P w K mg base (3 + 3 * n + 2) ("doubled" : Str) ["couples", "main"] [.s, .s] .s (F_doubled A (F_with_couples A n)) := e_doubled (k := 3 + 3 * n + 1) c (h_has_yes.up (by omega)) (h_turned.up (by omega)) (h_with_couples.up (by omega)) (h_without.up (by omega))
      exact (e_with_couples (k := 3 + 3 * n + 2) c (h_doubled.up (by omega)) (h_six_nearly.up (by omega))).up (by omega)
  have h_with_couples := r_with_couples 12
  have h_coupling_often : FnY P w K mg base 40 ("coupling_often" : Str) ["numbers"] [.s] .s (F_coupling_often A) := e_coupling_often (k := 39) c (h_are_possible.up (by decide)) (h_check_numbers.up (by decide)) (h_with_couples.up (by decide))
  have h__law_dice : FnY P w K mg base 1 ("_law_dice" : Str) ["_law_script"] [.s] (.l .s) (F__law_dice A) := e__law_dice (k := 0) c 
  have h__law_draw : FnY P w K mg base 1 ("_law_draw" : Str) ["_law_dice_here", "_law_sides"] [.l .s, .s] .s (F__law_draw A) := e__law_draw (k := 0) c 
  have h__law_power : FnY P w K mg base 1 ("_law_power" : Str) ["_law_many"] [.s] .s (F__law_power A) := e__law_power (k := 0) c 
  have h__law_turned : FnY P w K mg base 2 ("_law_turned" : Str) ["_law_many", "_law_row", "_law_member"] [.s, .s, .s] .s (F__law_turned A) := e__law_turned (k := 1) c (h__law_power.up (by decide))
  have h__law_is_count : FnY P w K mg base 1 ("_law_is_count" : Str) ["_law_thing", "_law_many"] [.s, .s] .s (F__law_is_count A) := e__law_is_count (k := 0) c 
  have h__law_is_coupling : FnY P w K mg base 3 ("_law_is_coupling" : Str) ["_law_many", "_law_thing"] [.s, .s] .s (F__law_is_coupling A) := e__law_is_coupling (k := 2) c (h__law_is_count.up (by decide)) (h__law_power.up (by decide)) (h__law_turned.up (by decide))
  have h__law_order : FnY P w K mg base 2 ("_law_order" : Str) ["_law_dice_here", "_law_many"] [.l .s, .s] .s (F__law_order A) := e__law_order (k := 1) c (h__law_draw.up (by decide))
  have h__law_often : FnY P w K mg base 1 ("_law_often" : Str) ["_law_many", "_law_coupling"] [.s, .s] .s (F__law_often A) := e__law_often (k := 0) c 
  have h__law_flag : FnY P w K mg base 1 ("_law_flag" : Str) ["_law_told", "_law_due"] [.s, .s] .s (F__law_flag A) := e__law_flag (k := 0) c 
  have h__law_fours : FnY P w K mg base 3 ("_law_fours" : Str) ["_law_dice_here", "_law_many"] [.l .s, .s] .s (F__law_fours A) := e__law_fours (k := 2) c (h__law_draw.up (by decide)) (h__law_order.up (by decide)) (h__law_power.up (by decide))
  have h__law_near : FnY P w K mg base 2 ("_law_near" : Str) ["_law_dice_here", "_law_many", "_law_numbers"] [.l .s, .s, .s] .s (F__law_near A) := e__law_near (k := 1) c (h__law_draw.up (by decide))
  exact e_law (k := 40) c (h__law_dice.up (by decide)) (h__law_draw.up (by decide)) (h__law_flag.up (by decide)) (h__law_fours.up (by decide)) (h__law_is_coupling.up (by decide)) (h__law_near.up (by decide)) (h__law_often.up (by decide)) (h__law_power.up (by decide)) (h_can_be_often.up (by decide)) (h_coupling_often.up (by decide)) F
end
end LW
namespace LW
open PySem PySem.Spec PyProof.Rows L2 Cl
/-! ### the plain law: what the defs reckon -/
section
variable {A : Ad}
@[simp] theorem isi_ii {i : Int} : isiD [.int i, .ty "int"] = some (.bl true) := rfl
@[simp] theorem isi_ib {i : Int} : isiD [.int i, .ty "bool"] = some (.bl false) := rfl
theorem F_is_integer_i {i : Int} : F_is_integer A [.int i] = some (.ok (.bl true), [.int i]) := by
  simp [F_is_integer, runF_def, m_is_integer]
theorem F_is_within_i {i a b : Int} : F_is_within A [.int i, .int a, .int b] = some (.ok (.bl (decide (a ≤ i) && decide (i ≤ b))), [.int i, .int a, .int b]) := by
  simp [F_is_within, runF_def, m_is_within, F_is_integer_i]
  by_cases h : a ≤ i <;> simp [h]
theorem F_is_many_i {i : Int} : F_is_many A [.int i] = some (.ok (.bl (decide (1 ≤ i) && decide (i ≤ 8))), [.int i]) := by
  simp [F_is_many, runF_def, m_is_many, F_is_within_i]
def pw (k : Nat) : Nat := 2 ^ k
theorem pw_pos (k : Nat) : 0 < pw k := Nat.two_pow_pos k
theorem pw_le {k : Nat} (h : k ≤ 8) : pw k ≤ 256 := Nat.pow_le_pow_right (by decide) h
theorem pw_succ (k : Nat) : pw (k + 1) = 2 * pw k := by
  unfold pw
  rw [Nat.pow_succ, Nat.mul_comm]
theorem pow_at {k : Nat} (h : k ≤ 8) : atI t_POWERS (k : Int) = some (.int (pw k : Nat)) := by
  have e : k = 0 ∨ k = 1 ∨ k = 2 ∨ k = 3 ∨ k = 4 ∨ k = 5 ∨ k = 6 ∨ k = 7 ∨ k = 8 := by omega
  rcases e with rfl | rfl | rfl | rfl | rfl | rfl | rfl | rfl | rfl <;> rfl
theorem pow_ix {n m : Nat} (hm : m < n) (hn : n ≤ 9) : atI t_POWERS ((n : Int) - 1 - (m : Int)) = some (.int (pw (n - 1 - m) : Nat)) := by
  rw [show (n : Int) - 1 - (m : Int) = ((n - 1 - m : Nat) : Int) by omega]
  exact pow_at (by omega)
theorem div_n {i : Int} {s : Nat} (h : 0 < s) (h' : s ≤ 1000000) : divI (.int i) (.int s) = some (.int (i / s)) :=
  divI_i (by omega) (Int.lt_of_le_of_lt (b := 1000000) (by omega) (by decide +kernel))
theorem mod_n {i : Int} {s : Nat} (h : 0 < s) : modI (.int i) (.int s) = some (.int (i % s)) := modI_i (by omega)
theorem mul_n {i j : Int} (h : i.natAbs ≤ 1000000) (h' : j.natAbs ≤ 1000000) : mulI (.int i) (.int j) = some (.int (i * j)) :=
  mulI_i (Nat.lt_of_le_of_lt h (by decide +kernel)) (Nat.lt_of_le_of_lt h' (by decide +kernel))
@[simp] theorem mod_2 {i : Int} : modI (.int i) (.int 2) = some (.int (i % 2)) := rfl
@[simp] theorem mod_4 {i : Int} : modI (.int i) (.int 4) = some (.int (i % 4)) := rfl
theorem div_2 {i : Int} : divI (.int i) (.int 2) = some (.int (i / 2)) := div_n (s := 2) (by decide) (by decide)
def yes (n r m : Nat) : Bool := decide (r / pw (n - 1 - m) % 2 = 1)
def turn (n r m : Nat) : Nat := if yes n r m = true then r - pw (n - 1 - m) else r + pw (n - 1 - m)
def wo (n r m : Nat) : Nat := r / (2 * pw (n - 1 - m)) * pw (n - 1 - m) + r % pw (n - 1 - m)
theorem F_has_yes_n {n r m : Nat} (hm : m < n) (hn : n ≤ 8) : F_has_yes A [.int n, .int r, .int m] = some (.ok (.bl (yes n r m)), [.int n, .int r, .int m]) := by
  have p := pw_le (k := n - 1 - m) (by omega)
  have e : decide ((r : Int) / ((pw (n - 1 - m) : Nat) : Int) % 2 = 1) = yes n r m := by
    unfold yes
    rw [decide_eq_decide]
    generalize pw (n - 1 - m) = s
    omega
  simp [F_has_yes, runF_def, m_has_yes, pow_ix hm (show n ≤ 9 by omega), div_n (pw_pos (n - 1 - m)) (Nat.le_trans p (by decide)), e]
theorem F_turned_n {n r m : Nat} (hm : m < n) (hn : n ≤ 8) : F_turned A [.int n, .int r, .int m] = some (.ok (.int (turn n r m : Nat)), [.int n, .int r, .int m]) := by
  have p := pw_le (k := n - 1 - m) (by omega)
  simp [F_turned, runF_def, m_turned, pow_ix hm (show n ≤ 9 by omega), F_has_yes_n hm hn]
  unfold turn
  cases h : yes n r m with
  | true =>
    have q : pw (n - 1 - m) ≤ r := by
      unfold yes at h
      have h := of_decide_eq_true h
      by_cases z : r < pw (n - 1 - m)
      · rw [Nat.div_eq_of_lt z] at h
        cases h
      · omega
    simp
    omega
  | false => simp
theorem F_without_n {n r m : Nat} (hm : m < n) (hn : n ≤ 8) (hr : r ≤ 1000000) : F_without A [.int n, .int r, .int m] = some (.ok (.int (wo n r m : Nat)), [.int n, .int r, .int m]) := by
  have p := pw_le (k := n - 1 - m) (by omega)
  have p0 := pw_pos (n - 1 - m)
  have m1 : mulI (.int 2) (.int (pw (n - 1 - m) : Nat)) = some (.int ((2 * pw (n - 1 - m) : Nat) : Int)) := by
    rw [mul_n (by decide) (by omega)]
    rfl
  have m2 : divI (.int r) (.int ((2 * pw (n - 1 - m) : Nat) : Int)) = some (.int ((r / (2 * pw (n - 1 - m)) : Nat) : Int)) := by
    rw [div_n (by omega) (by omega)]
    rfl
  have m3 : mulI (.int ((r / (2 * pw (n - 1 - m)) : Nat) : Int)) (.int (pw (n - 1 - m) : Nat)) = some (.int ((r / (2 * pw (n - 1 - m)) * pw (n - 1 - m) : Nat) : Int)) := by
    have : r / (2 * pw (n - 1 - m)) ≤ r := Nat.div_le_self _ _
    rw [mul_n (by rw [Int.natAbs_natCast]; omega) (by rw [Int.natAbs_natCast]; omega)]
    rfl
  have m4 : modI (.int r) (.int (pw (n - 1 - m) : Nat)) = some (.int ((r % pw (n - 1 - m) : Nat) : Int)) := by
    rw [mod_n p0]
    rfl
  simp only [F_without, runF_def, m_without, s_seq, s_set, e_op2, e_get, e_ret, List.map_cons, List.map_nil, List.length_cons, List.length_nil, List.replicate, List.cons_append, List.nil_append, List.getElem?_cons_succ, List.getElem?_cons_zero, getK_some, bindK_ok, sbK_ok, seqK_nx, subI_i, ix_ktup_, pow_ix hm (show n ≤ 9 by omega), e_lift_some, List.set_cons_succ, List.set_cons_zero, s_ret, m1, m2, m3, m4, addI_i]
  rfl
theorem asBls_map {α : Type} {p : α → Bool} : ∀ {xs : List α}, asBls (xs.map fun x => D.bl (p x)) = some (xs.map p)
  | [] => rfl
  | x :: xs => by
    have ih := asBls_map (p := p) (xs := xs)
    show (asBls (xs.map fun x => D.bl (p x))).map (p x :: ·) = _
    rw [ih]
    rfl
theorem allD_map {α : Type} {p : α → Bool} {xs : List α} : allD [.lst (xs.map fun x => D.bl (p x))] = some (.bl (xs.all p)) := by
  unfold allD
  simp only [asBls_map]
  simp [Function.comp_def, List.all_map]
@[simp] theorem isi_tt {ds : List D} : isiD [.tup ds, .ty "tuple"] = some (.bl true) := rfl
@[simp] theorem isi_tk {ds : List D} : isiD [.ktup ds, .ty "tuple"] = some (.bl true) := rfl
theorem F_check_numbers_t {ns : List Int} (h : ∀ i ∈ ns, 0 ≤ i) (h1 : 1 ≤ ns.length) (h8 : ns.length ≤ 8) : F_check_numbers A [.tup (dints ns)] = some (.ok .non, [.tup (dints ns)]) := by
  have L := lc_all (i := 1) (it := EM.seqOf (EM.get 0)) (te := EM.and_ (EM.call (F_is_integer A) [none] (EM.cons (EM.get 1) (EM.ret []))) (EM.op2 geI (EM.get 1) (EM.ret (.int 0)))) (enc := fun i => D.int i) (xs := ns) (ρ := [some (.tup (dints ns)), none]) (σ := [some (.tup (dints ns)), none]) (fun i => .bl (decide (0 ≤ i))) (by simp [dints]) (by omega) (fun i _ => by simp [F_is_integer_i])
  have q : ns.all (fun i => decide (0 ≤ i)) = true := List.all_eq_true.mpr fun i hi => decide_eq_true (h i hi)
  have z1 : decide ((1 : Int) ≤ ns.length) = true := decide_eq_true (by omega)
  have z2 : decide ((ns.length : Int) ≤ 8) = true := decide_eq_true (by omega)
  simp [F_check_numbers, runF_def, m_check_numbers, F_is_many_i, L, allD_map, q, z1, z2]
def possN (ns : List Int) : Bool := decide (ns.sum = (pw ns.length : Nat)) && ns.all fun i => decide (i % 4 = 0)
theorem sum_tup {ns : List Int} : sumD [.tup (dints ns)] = some (.int ns.sum) := by
  show (asInts (dints ns)).map _ = _
  rw [asInts_ints]
  rfl
theorem sum_lst {ns : List Int} : sumD [.lst (dints ns)] = some (.int ns.sum) := by
  show (asInts (dints ns)).map _ = _
  rw [asInts_ints]
  rfl
theorem F_are_possible_t {ns : List Int} (h1 : 2 ≤ ns.length) (h8 : ns.length ≤ 8) : F_are_possible A [.tup (dints ns)] = some (.ok (.bl (possN ns)), [.tup (dints ns)]) := by
  have L := lc_all (i := 1) (it := EM.seqOf (EM.get 0)) (te := EM.op2 eqD (EM.op2 modI (EM.get 1) (EM.ret (.int 4))) (EM.ret (.int 0))) (enc := fun i => D.int i) (xs := ns) (ρ := [some (.tup (dints ns)), none]) (σ := [some (.tup (dints ns)), none]) (fun i => .bl (decide (i % 4 = 0))) (by simp [dints]) (by omega) (fun i _ => by simp)
  have z : ¬ ns.length = 1 := by omega
  have z2 : ¬ ((ns.length : Int) = 1) := by omega
  unfold possN
  by_cases e : ns.sum = (pw ns.length : Nat)
  · simp [F_are_possible, runF_def, m_are_possible, sum_tup, pow_at h8, L, allD_map, z, z2, e]
  · simp [F_are_possible, runF_def, m_are_possible, sum_tup, pow_at h8, L, allD_map, z, z2, e]
theorem F_can_be_often_t {ns : List Int} (h : ∀ i ∈ ns, 0 ≤ i) (h1 : 2 ≤ ns.length) (h8 : ns.length ≤ 8) : F_can_be_often A [.tup (dints ns)] = some (.ok (.bl (possN ns)), [.tup (dints ns)]) := by
  simp [F_can_be_often, runF_def, m_can_be_often, F_check_numbers_t h (by omega) h8, F_are_possible_t h1 h8]
end
end LW
namespace LW
open PySem PySem.Spec PyProof.Rows L2 Cl
section
variable {A : Ad}
/-- natural numbers as data -/
def dn (ns : List Nat) : List D := ns.map fun n => D.int (n : Nat)
@[simp] theorem dn_len {ns : List Nat} : (dn ns).length = ns.length := List.length_map ..
theorem dn_ints {ns : List Nat} : dn ns = dints (ns.map fun (n : Nat) => (n : Int)) := by simp [dn, dints, Function.comp_def]
theorem dn_get {ns : List Nat} {k : Nat} (h : k < ns.length) : atI (dn ns) (k : Int) = some (.int (ns[k] : Nat)) := by
  rw [atI_nat (by simpa using h)]
  simp [dn]
@[simp] theorem dn_imm {ns : List Nat} : (dn ns).all imm = true := by simp [dn]
@[simp] theorem dn_imm2 {ns : List Nat} : (dn ns).all (immO .s) = true := by simp [dn]
theorem F_power_n {k : Nat} (h : k ≤ 8) : F__law_power A [.int k] = some (.ok (.int (pw k : Nat)), [.int k]) := by
  have p := pow_at h
  have e : t_POWERS = [.int 1, .int 2, .int 4, .int 8, .int 16, .int 32, .int 64, .int 128, .int 256] := rfl
  rw [e] at p
  simp [F__law_power, runF_def, m__law_power, tupD, p]
theorem F_law_turned_n {n r m : Nat} (hm : m < n) (hn : n ≤ 8) : F__law_turned A [.int n, .int r, .int m] = some (.ok (.int (turn n r m : Nat)), [.int n, .int r, .int m]) := by
  have p := pw_le (k := n - 1 - m) (by omega)
  have e : decide ((r : Int) / ((pw (n - 1 - m) : Nat) : Int) % 2 = 1) = yes n r m := by
    unfold yes
    rw [decide_eq_decide]
    generalize pw (n - 1 - m) = s
    omega
  have q : F__law_power A [.int ((n : Int) - 1 - (m : Int))] = some (.ok (.int (pw (n - 1 - m) : Nat)), [.int ((n : Int) - 1 - (m : Int))]) := by
    rw [show (n : Int) - 1 - (m : Int) = ((n - 1 - m : Nat) : Int) by omega]
    exact F_power_n (by omega)
  simp [F__law_turned, runF_def, m__law_turned, q, div_n (pw_pos (n - 1 - m)) (Nat.le_trans p (by decide)), e]
  unfold turn
  cases h : yes n r m with
  | true =>
    have q : pw (n - 1 - m) ≤ r := by
      unfold yes at h
      have h := of_decide_eq_true h
      by_cases z : r < pw (n - 1 - m)
      · rw [Nat.div_eq_of_lt z] at h
        cases h
      · omega
    simp
    omega
  | false => simp
theorem F_is_count_n {i n : Int} : F__law_is_count A [.int i, .int n] = some (.ok (.bl (decide (0 ≤ i) && decide (i < n))), [.int i, .int n]) := by
  simp [F__law_is_count, runF_def, m__law_is_count]
  by_cases h : 0 ≤ i <;> simp [h]
/-- tuples of numbers, of either kind -/
def isN (d : D) (ns : List Nat) : Prop := d = .tup (dn ns) ∨ d = .ktup (dn ns)
/-- a coupling of n members, as the law asks -/
structure Coup (n : Nat) (h : List Nat) : Prop where
  len : h.length = pw n
  lt : ∀ m ∈ h, m < n
  tu : ∀ r (hr : r < h.length), h[turn n r h[r]]? = some h[r]
theorem F_is_coupling_n {n : Nat} {d : D} {h : List Nat} (hd : isN d h) (c : Coup n h) (hn : n ≤ 8) : F__law_is_coupling A [.int n, d] = some (.ok (.bl true), [.int n, d]) := by
  have pl := pw_le hn
  have isi : isiD [d, .ty "tuple"] = some (.bl true) := by rcases hd with rfl | rfl <;> rfl
  have hlen : lenD [d] = some (.int (pw n : Nat)) := by rcases hd with rfl | rfl <;> simp [c.len]
  have hseq : seqD d = some (h.map fun m => D.int (m : Nat)) := by rcases hd with rfl | rfl <;> rfl
  have hix : ∀ r (hr : r < h.length), ixSeq d (.int (r : Nat)) = some (.int (h[r] : Nat)) := fun r hr => by rcases hd with rfl | rfl <;> simp [dn_get hr]
  have L := lc_pure (i := 2) (it := EM.seqOf (EM.get 1)) (tt := EM.notB (EM.tru (EM.call (F__law_is_count A) [none, none] (EM.cons (EM.get 2) (EM.cons (EM.get 0) (EM.ret [])))))) (te := EM.get 2) (enc := fun (m : Nat) => D.int (m : Nat)) (xs := h) (ρ := [some (.int n), some d, none, none]) (σ := [some (.int n), some d, none, none])
    (fun _ => false) (fun m => .int (m : Nat)) (by simp [hseq]) (by rw [c.len]; omega) (fun m hm => by
      have := c.lt m hm
      simp [F_is_count_n]
      omega) (fun m hm => by simp)
  have L2 := lc_pure (i := 3) (it := EM.rng1 (EM.cons (EM.opn lenD (EM.cons (EM.get 1) (EM.ret []))) (EM.ret []))) (tt := EM.tru (EM.op2 neD (EM.op2 ixSeq (EM.get 1) (EM.call (F__law_turned A) [none, none, none] (EM.cons (EM.get 0) (EM.cons (EM.get 3) (EM.cons (EM.op2 ixSeq (EM.get 1) (EM.get 3)) (EM.ret [])))))) (EM.op2 ixSeq (EM.get 1) (EM.get 3)))) (te := EM.get 3)
    (enc := fun (m : Nat) => D.int (m : Nat)) (xs := List.range (pw n)) (ρ := [some (.int n), some d, none, none]) (σ := [some (.int n), some d, none, none])
    (fun _ => false) (fun m => .int (m : Nat)) (by simp [hlen, range1_nat (show pw n ≤ 1000000000 by omega)]) (by rw [List.length_range]; omega) (fun r hr => by
      have hr2 : r < h.length := by
        rw [c.len]
        exact List.mem_range.mp hr
      have t := c.tu r hr2
      have tl := (List.getElem?_eq_some_iff.mp t).1
      have te := (List.getElem?_eq_some_iff.mp t).2
      have lt := c.lt h[r] (List.getElem_mem hr2)
      simp [hix r hr2, F_law_turned_n lt hn, hix _ tl, te]) (fun m hm => by simp)
  simp [F__law_is_coupling, runF_def, m__law_is_coupling, isi, hlen, F_power_n hn, L, L2]
theorem F_often_n {n : Nat} {d : D} {h : List Nat} (hd : isN d h) (hn : n ≤ 8) (hl : h.length ≤ 256) : F__law_often A [.int n, d] = some (.ok (.tup (dn ((List.range n).map fun m => h.count m))), [.int n, d]) := by
  have hseq : seqD d = some (h.map fun m => D.int (m : Nat)) := by rcases hd with rfl | rfl <;> rfl
  have L := lc_all (i := 3) (it := EM.rng1 (EM.cons (EM.get 0) (EM.ret []))) (te := EM.opn lenD (EM.cons (EM.lc [2] (EM.seqOf (EM.get 1)) (tgN 2) (EM.tru (EM.op2 eqD (EM.get 2) (EM.get 3))) (EM.ret (.int 1))) (EM.ret []))) (enc := fun (m : Nat) => D.int (m : Nat)) (xs := List.range n) (ρ := [some (.int n), some d, none, none]) (σ := [some (.int n), some d, none, none])
    (fun m => .int (h.count m : Nat)) (by simp [range1_nat (show n ≤ 1000000000 by omega)]) (by rw [List.length_range]; omega) (fun m hm => by
      have K := lc_pure (i := 2) (it := EM.seqOf (EM.get 1)) (tt := EM.tru (EM.op2 eqD (EM.get 2) (EM.get 3))) (te := EM.ret (.int 1)) (enc := fun (m : Nat) => D.int (m : Nat)) (xs := h) (ρ := [some (.int n), some d, none, some (.int m)]) (σ := [some (.int n), some d, none, some (.int m)])
        (fun x => x == m) (fun _ => .int 1) (by simp [hseq]) (by omega) (fun x _ => by
          simp
          by_cases e : x = m
          · subst e
            simp
          · simp [e, show ¬ ((x : Int) = m) by omega]) (fun x _ _ => rfl)
      have c : (h.filter fun x => x == m).length = h.count m := by rw [List.count_eq_length_filter]
      simp [K, c])
  simp [F__law_often, runF_def, m__law_often, L, dn, Function.comp_def]
theorem F_flag_n {b c : Bool} : F__law_flag A [.bl b, .bl c] = some (.ok (.bl (b == c)), [.bl b, .bl c]) := by
  cases b <;> cases c <;> rfl
end
end LW
namespace LW
open PySem PySem.Spec PyProof.Rows L2 Cl
section
variable {A : Ad}
/-- the law's dice, after at most N draws of their own -/
def Dice (N : Nat) (d : D) : Prop := ∃ (cs : List Int) (p b h k : Int), d = .lst [.lst (dints cs), .int p, .int b, .int h, .int k] ∧ (∀ c ∈ cs, 0 ≤ c) ∧ 0 ≤ p ∧ p ≤ 64 ∧ cs.length ≤ 63 ∧ 0 ≤ b ∧ 0 ≤ h ∧ h < 2147483647 ∧ 0 ≤ k ∧ k ≤ N
theorem Dice.mono {N M : Nat} {d : D} (h : Dice N d) (e : N ≤ M) : Dice M d := by
  obtain ⟨cs, p, b, hh, k, rfl, h1, h2, h3, h4, h5, h6, h7, h8, h9⟩ := h
  exact ⟨cs, p, b, hh, k, rfl, h1, h2, h3, h4, h5, h6, h7, h8, by omega⟩
theorem mul_b {i j : Int} (h : i.natAbs ≤ 1000000000000000000000000000000) (h' : j.natAbs ≤ 1000000000000000000000000000000) : mulI (.int i) (.int j) = some (.int (i * j)) :=
  mulI_i (Nat.lt_of_le_of_lt h (by decide +kernel)) (Nat.lt_of_le_of_lt h' (by decide +kernel))
theorem div_b {i j : Int} (h : 0 < j) (h' : j ≤ 1000000000000000000000000000000) : divI (.int i) (.int j) = some (.int (i / j)) :=
  divI_i h (Int.lt_of_le_of_lt h' (by decide +kernel))
@[simp] theorem pow_18 : powI (.int 10) (.int 18) = some (.int 1000000000000000000) := by rfl
@[simp] theorem at5_0 {a b c d e : D} : atI [a, b, c, d, e] 0 = some a := rfl
@[simp] theorem at5_1 {a b c d e : D} : atI [a, b, c, d, e] 1 = some b := rfl
@[simp] theorem at5_2 {a b c d e : D} : atI [a, b, c, d, e] 2 = some c := rfl
@[simp] theorem at5_3 {a b c d e : D} : atI [a, b, c, d, e] 3 = some d := rfl
@[simp] theorem at5_4 {a b c d e : D} : atI [a, b, c, d, e] 4 = some e := rfl
@[simp] theorem ix5_1 : ixN 5 1 = some 1 := rfl
@[simp] theorem ix5_2 : ixN 5 2 = some 2 := rfl
@[simp] theorem ix5_3 : ixN 5 3 = some 3 := rfl
@[simp] theorem ix5_4 : ixN 5 4 = some 4 := rfl
theorem F_draw {N s : Nat} {d : D} (hd : Dice N d) (hN : N ≤ 1000000) (s0 : 0 < s) (s1 : s ≤ 1000000) : ∃ d' : D, ∃ x : Nat, x < s ∧ Dice (N + 1) d' ∧ F__law_draw A [d, .int s] = some (.ok (.int x), [d', .int s]) := by
  obtain ⟨cs, p, b, h, k, rfl, h1, h2, h3, h4, h5, h6, h7, h8, h9⟩ := hd
  have si : (0 : Int) < s := by omega
  have fin : ∀ y : Int, ∃ x : Nat, x < s ∧ y % s = x := fun y => ⟨(y % s).toNat, by
    have a := Int.emod_nonneg y (show (s : Int) ≠ 0 by omega)
    have b := Int.emod_lt_of_pos y si
    omega, by
    have a := Int.emod_nonneg y (show (s : Int) ≠ 0 by omega)
    omega⟩
  by_cases hb : b = 0
  · subst hb
    by_cases hp : p < cs.length
    · obtain ⟨q, rfl⟩ := Int.eq_ofNat_of_zero_le h2
      have hq : q < cs.length := by omega
      have hc := h1 cs[q] (List.getElem_mem hq)
      have g := ints_get hq
      generalize cs[q] = c at hc g
      by_cases big : 1000000000000000000 ≤ c
      · obtain ⟨x, hx, ex⟩ := fin c
        refine ⟨.lst [.lst (dints cs), .int ((q : Int) + 1), .int (c / s), .int h, .int k], x, hx, ⟨cs, _, _, h, k, rfl, h1, by omega, by omega, h4, Int.ediv_nonneg hc (by omega), h6, h7, h8, by omega⟩, ?_⟩
        have z : (0 : Int) < c := by omega
        simp (disch := omega) [F__law_draw, runF_def, m__law_draw, hq, g, big, z, modI_i, div_b, ex]
      · obtain ⟨x, hx, ex⟩ := fin ((((h * 69621 + c * 40692 + ((q : Int) + 1)) % 2147483647 * 48271 + (k + 1) * 7919 + 1) % 2147483647 * ((((h * 69621 + c * 40692 + ((q : Int) + 1)) % 2147483647 * 48271 + (k + 1) * 7919 + 1) % 2147483647) / 1009 + 69623) % 2147483399 * ((((h * 69621 + c * 40692 + ((q : Int) + 1)) % 2147483647 * 48271 + (k + 1) * 7919 + 1) % 2147483647 * ((((h * 69621 + c * 40692 + ((q : Int) + 1)) % 2147483647 * 48271 + (k + 1) * 7919 + 1) % 2147483647) / 1009 + 69623) % 2147483399) / 2003 + 40693) % 2147483563) / 16)
        refine ⟨.lst [.lst (dints cs), .int ((q : Int) + 1), .int 0, .int (((h * 69621 + c * 40692 + ((q : Int) + 1)) % 2147483647 * 48271 + (k + 1) * 7919 + 1) % 2147483647), .int (k + 1)], x, hx, ⟨cs, _, _, _, _, rfl, h1, by omega, by omega, h4, by omega, by omega, by omega, by omega, by omega⟩, ?_⟩
        simp (disch := omega) [F__law_draw, runF_def, m__law_draw, hq, g, big, modI_i, div_b, mul_b, ex]
    · obtain ⟨x, hx, ex⟩ := fin (((h * 48271 + (k + 1) * 7919 + 1) % 2147483647 * ((h * 48271 + (k + 1) * 7919 + 1) % 2147483647 / 1009 + 69623) % 2147483399 * ((h * 48271 + (k + 1) * 7919 + 1) % 2147483647 * ((h * 48271 + (k + 1) * 7919 + 1) % 2147483647 / 1009 + 69623) % 2147483399 / 2003 + 40693) % 2147483563) / 16)
      refine ⟨.lst [.lst (dints cs), .int p, .int 0, .int ((h * 48271 + (k + 1) * 7919 + 1) % 2147483647), .int (k + 1)], x, hx, ⟨cs, _, _, _, _, rfl, h1, by omega, by omega, h4, by omega, by omega, by omega, by omega, by omega⟩, ?_⟩
      simp (disch := omega) [F__law_draw, runF_def, m__law_draw, hp, modI_i, div_b, mul_b, ex]
  · obtain ⟨x, hx, ex⟩ := fin b
    refine ⟨.lst [.lst (dints cs), .int p, .int (b / s), .int h, .int k], x, hx, ⟨cs, _, _, h, k, rfl, h1, h2, h3, h4, Int.ediv_nonneg h5 (by omega), h6, h7, h8, by omega⟩, ?_⟩
    have z : (0 : Int) < b := by omega
    simp (disch := omega) [F__law_draw, runF_def, m__law_draw, hb, z, modI_i, div_b, ex]
end
end LW
namespace LW
open PySem PySem.Spec PyProof.Rows L2 Cl
section
variable {A : Ad}
theorem dints_app {ns : List Int} {i : Int} : dints ns ++ [.int i] = dints (ns ++ [i]) := by simp [dints]
theorem dn_app {ns : List Nat} {i : Nat} : dn ns ++ [.int i] = dn (ns ++ [i]) := by simp [dn]
theorem app_n {ds : List D} {d : D} (h : ds.length < 4000000) : appendF [d] ds = some (.non, ds ++ [d]) := by
  show (if ds.length < 4000000 then some (D.non, ds ++ [d]) else none) = _
  rw [if_pos h]
theorem pop_n {ns : List Nat} {x : Nat} (h : x < ns.length) (h' : ns.length < 4000000) : popAtF [.int (x : Nat)] (dn ns) = some (.int (ns[x] : Nat), dn (ns.eraseIdx x)) := by
  show (if 0 ≤ (x : Int) ∧ (x : Int) < (dn ns).length ∧ (dn ns).length < 4000000 then ((dn ns)[(x : Int).toNat]?).map fun d => (d, (dn ns).eraseIdx (x : Int).toNat) else none) = _
  rw [if_pos ⟨by omega, by rw [dn_len]; omega, by rw [dn_len]; omega⟩]
  have e : ∀ (ns : List Nat) (x : Nat), (dn ns).eraseIdx x = dn (ns.eraseIdx x) := by
    intro ns
    induction ns with
    | nil => intro x; rfl
    | cons n ns ih =>
      intro x
      cases x with
      | zero => rfl
      | succ x => exact congrArg (D.int (n : Nat) :: ·) (ih x)
  rw [Int.toNat_natCast, e]
  simp [dn, h]
theorem F_drawI {N : Nat} {s : Int} {d : D} (hd : Dice N d) (hN : N ≤ 1000000) (s0 : 0 < s) (s1 : s ≤ 1000000) : ∃ d' : D, ∃ x : Int, 0 ≤ x ∧ x < s ∧ Dice (N + 1) d' ∧ F__law_draw A [d, .int s] = some (.ok (.int x), [d', .int s]) := by
  obtain ⟨t, rfl⟩ := Int.eq_ofNat_of_zero_le (Int.le_of_lt s0)
  obtain ⟨d', x, h1, h2, h3⟩ := F_draw (A := A) hd hN (s := t) (by omega) (by omega)
  exact ⟨d', x, by omega, by omega, h2, h3⟩
theorem F_dice {ns : List Int} : ∃ d, Dice 0 d ∧ F__law_dice A [.scr ns] = some (.ok d, [.scr ns]) := by
  have c : ∃ ms : List Int, slList (.scr ns) none (some 63) = some (dints ms) ∧ ms.length ≤ 63 := by
    refine ⟨(ns.drop 0).take (HT.sIx ns.length ns.length (some 63) - 0), ?_, ?_⟩
    · show some (((ns.map fun i => D.int i).drop (HT.sIx (ns.map fun i => D.int i).length 0 none)).take (HT.sIx (ns.map fun i => D.int i).length (ns.map fun i => D.int i).length (some 63) - HT.sIx (ns.map fun i => D.int i).length 0 none)) = _
      rw [List.length_map, HT.sIx_none]
      unfold dints
      rw [List.map_take, List.map_drop]
    · have e : HT.sIx ns.length ns.length (some 63) = min 63 ns.length := HT.sIx_nat ns.length ns.length 63
      rw [e, List.length_take]
      omega
  obtain ⟨ms, c1, c2⟩ := c
  have L := lc_all (i := 1) (it := EM.seqOf (EM.slL slList (EM.get 0) (EM.ret none) (EM.part (EM.ret (.int 63))))) (te := EM.opn absD (EM.cons (EM.opn intD (EM.cons (EM.get 1) (EM.ret []))) (EM.ret []))) (enc := fun i => D.int i) (xs := ms) (ρ := [some (.scr ns), none]) (σ := [some (.scr ns), none])
    (fun i => .int (if i < 0 then -i else i)) (by
      have p : EM.part (EM.ret (.int 63)) [some (.scr ns), none] = some (.ok (some 63), [some (.scr ns), none]) := rfl
      have q : EM.slL slList (EM.get 0) (EM.ret none) (EM.part (EM.ret (.int 63))) [some (.scr ns), none] = some (.ok (.lst (dints ms)), [some (.scr ns), none]) := by
        show EM.bind (EM.get 0) (fun d => EM.bind (EM.ret none) fun lo => EM.bind (EM.part (EM.ret (.int 63))) fun hi => EM.lift ((slList d lo hi).map D.lst)) _ = _
        simp [p, c1]
      simp [q, dints]) (by omega) (fun i _ => by simp)
  refine ⟨.lst [.lst (dints (ms.map fun i => if i < 0 then -i else i)), .int 0, .int 0, .int 1, .int 0], ⟨_, _, _, _, _, rfl, fun c hc => ?_, by omega, by omega, by rw [List.length_map]; exact c2, by omega, by omega, by omega, by omega, by omega⟩, ?_⟩
  · obtain ⟨i, _, rfl⟩ := List.mem_map.mp hc
    split <;> omega
  · simp [F__law_dice, runF_def, m__law_dice, L, lit4, dints, Function.comp_def]
theorem rangeL_n {n : Nat} (h : n ≤ 1000000) : rangeL1 (.int n) = some (dn (List.range n)) := by
  show (if (n : Int) ≤ 16777216 ∧ -16777216 ≤ (n : Int) then some (rangeD 0 n) else none) = _
  rw [if_pos ⟨by omega, by omega⟩, rangeD_nat]
  rfl
theorem F_order {N n : Nat} {d : D} (hd : Dice N d) (hN : N ≤ 1000) (hn : n ≤ 8) : ∃ d' : D, ∃ os : List Nat, Dice (N + 8) d' ∧ os.length = n ∧ (∀ o ∈ os, o < n) ∧ F__law_order A [d, .int n] = some (.ok (.lst (dn os)), [d', .int n]) := by
  obtain ⟨ρ', h1, h2⟩ := each_inv (enc := fun (m : Nat) => D.int (m : Nat)) (tg := tgN 4) (body := SM.drop (EM.modL 3 appendF (EM.cons (EM.modL 2 popAtF (EM.cons (EM.call (F__law_draw A) [some 0, none] (EM.cons (EM.get 0) (EM.cons (EM.lend .s (EM.opn lenD (EM.cons (EM.get 2) (EM.ret [])))) (EM.ret [])))) (EM.ret []))) (EM.ret []))))
    (fun i ρ => ∃ (dc : D) (l f : List Nat) (x : Option D), ρ = [some dc, some (.int n), some (.lst (dn l)), some (.lst (dn f)), x] ∧ Dice (N + i) dc ∧ l.length + i = n ∧ (∀ o ∈ l, o < n) ∧ f.length = i ∧ ∀ o ∈ f, o < n)
    (xs := List.range n) (n := 0) (ρ := [some d, some (.int n), some (.lst (dn (List.range n))), some (.lst (dn [])), none]) ⟨d, _, _, _, rfl, hd, by simp, fun o ho => List.mem_range.mp ho, rfl, fun o ho => absurd ho (by simp)⟩ (fun i x ρ hx ⟨dc, l, f, y, e, k1, k2, k3, k4, k5⟩ => by
      have hi : i < n := by
        have := (List.getElem?_eq_some_iff.mp hx).1
        simpa using this
      subst e
      obtain ⟨dc', z, z1, z2, z3⟩ := F_draw (A := A) k1 (by omega) (s := l.length) (by omega) (by omega)
      refine ⟨_, _, rfl, .inl ?_, ⟨dc', l.eraseIdx z, f ++ [l[z]], some (.int x), rfl, z2.mono (by omega), ?_, fun o ho => k3 o (List.mem_of_mem_eraseIdx ho), by simp [k4], fun o ho => ?_⟩⟩
      · simp [z3, pop_n z1 (by omega), app_n (ds := dn f) (by rw [dn_len]; omega), dn_app]
      · rw [List.length_eraseIdx, if_pos z1]
        omega
      · rcases List.mem_append.mp ho with h | h
        · exact k5 o h
        · rw [List.mem_singleton.mp h]
          exact k3 _ (List.getElem_mem z1))
  obtain ⟨dc, l, f, x, rfl, k1, k2, k3, k4, k5⟩ := h2
  rw [List.length_range] at k1 k2 k4
  refine ⟨dc, f, k1.mono (by omega), by omega, k5, ?_⟩
  have q : EM.lrange (EM.get 1) [some d, some (.int n), none, none, none] = some (.ok (.lst (dn (List.range n))), [some d, some (.int n), none, none, none]) := by
    show EM.bind (EM.get 1) (fun d => EM.lift ((rangeL1 d).map D.lst)) _ = _
    simp [rangeL_n (show n ≤ 1000000 by omega)]
  have h1' : SM.each (tgN 4) (SM.drop (EM.modL 3 appendF (EM.cons (EM.modL 2 popAtF (EM.cons (EM.call (F__law_draw A) [some 0, none] (EM.cons (EM.get 0) (EM.cons (EM.lend .s (EM.opn lenD (EM.cons (EM.get 2) (EM.ret [])))) (EM.ret [])))) (EM.ret []))) (EM.ret [])))) ((List.range n).map fun (m : Nat) => D.int (m : Nat)) [some d, some (.int n), some (.lst (dn (List.range n))), some (.lst []), none] = _ := h1
  simp [F__law_order, runF_def, m__law_order, q, lit4, range1_nat (show n ≤ 1000000000 by omega), h1']
end
end LW
namespace LW
open PySem PySem.Spec PyProof.Rows L2 Cl
section
variable {A : Ad}
theorem most4 {a b c : Int} {w : Nat} (hw : w < 4) (ha : 0 ≤ a ∧ a ≤ 200) (hb : 0 ≤ b ∧ b ≤ 200) (hc : 0 ≤ c ∧ c ≤ 200) : ∃ m : Int, (0 ≤ m ∧ m ≤ 200) ∧ atI [D.int a, D.int b, D.int c, D.int 3] (w : Int) = some (.int m) := by
  have e : w = 0 ∨ w = 1 ∨ w = 2 ∨ w = 3 := by omega
  rcases e with rfl | rfl | rfl | rfl
  · exact ⟨a, ha, rfl⟩
  · exact ⟨b, hb, rfl⟩
  · exact ⟨c, hc, rfl⟩
  · exact ⟨3, by omega, rfl⟩
theorem min_b {i j : Int} : min2D [.int i, .int j] = some (.int (if j < i then j else i)) := rfl
abbrev fourBody (A : Ad) : SM := (SM.seq (SM.set 6 (EM.op2 ixSeq (EM.opl lit4 (EM.cons (EM.get 2) (EM.cons (EM.op2 divI (EM.get 2) (EM.op2 subI (EM.get 1) (EM.get 5))) (EM.cons (EM.op2 divI (EM.op2 mulI (EM.ret (.int 2)) (EM.get 2)) (EM.op2 subI (EM.get 1) (EM.get 5))) (EM.cons (EM.ret (.int 3)) (EM.ret [])))))) (EM.get 4)))
    (SM.seq (SM.set 7 (EM.call (F__law_draw A) [some 0, none] (EM.cons (EM.get 0) (EM.cons (EM.op2 addI (EM.opn min2D (EM.cons (EM.get 6) (EM.cons (EM.get 2) (EM.ret [])))) (EM.ret (.int 1))) (EM.ret [])))))
    (SM.seq (SM.ite (EM.ite (EM.tru (EM.op2 eqD (EM.get 4) (EM.ret (.int 1)))) (EM.tru (EM.op2 gtI (EM.call (F__law_draw A) [some 0, none] (EM.cons (EM.get 0) (EM.cons (EM.ret (.int 3)) (EM.ret [])))) (EM.ret (.int 0)))) (EM.ret false)) (SM.set 7 (EM.opn min2D (EM.cons (EM.get 6) (EM.cons (EM.get 2) (EM.ret []))))) (SM.nop))
    (SM.seq (SM.drop (EM.modL 3 appendF (EM.cons (EM.get 7) (EM.ret []))))
    (SM.set 2 (EM.op2 subI (EM.get 2) (EM.get 7)))))))
theorem four_step {N n k w : Nat} {dc : D} {left : Int} {f : List Int} {x5 x6 x7 x8 : Option D} (hk : k < n) (hn : n ≤ 8) (hw : w < 4) (hd : Dice N dc) (hN : N ≤ 1000) (hl : 0 ≤ left ∧ left ≤ 64) (hf : f.length ≤ 8) :
    ∃ (dc' : D) (m : Int) (y6 y7 : Option D), 0 ≤ m ∧ m ≤ left ∧ Dice (N + 2) dc' ∧ fourBody A ([some dc, some (.int n), some (.int left), some (.lst (dints f)), some (.int w), x5, x6, x7, x8].set 5 (some (.int k))) = some (.nx, [some dc', some (.int n), some (.int (left - m)), some (.lst (dints (f ++ [m]))), some (.int w), some (.int k), y6, y7, x8]) := by
  have dk : (0 : Int) < (n : Int) - k := by omega
  have q1 : left / ((n : Int) - k) ≤ left := Int.ediv_le_self _ hl.1
  have q2 : 0 ≤ left / ((n : Int) - k) := Int.ediv_nonneg hl.1 (by omega)
  have q3 : 2 * left / ((n : Int) - k) ≤ 2 * left := Int.ediv_le_self _ (by omega)
  have q4 : 0 ≤ 2 * left / ((n : Int) - k) := Int.ediv_nonneg (by omega) (by omega)
  have m2 : mulI (.int 2) (.int left) = some (.int (2 * left)) := mul_b (by decide) (by omega)
  have d1 : divI (.int left) (.int ((n : Int) - k)) = some (.int (left / ((n : Int) - k))) := div_b dk (by omega)
  have d2 : divI (.int (2 * left)) (.int ((n : Int) - k)) = some (.int (2 * left / ((n : Int) - k))) := div_b dk (by omega)
  obtain ⟨mo, hm, e4⟩ := most4 (a := left) (b := left / ((n : Int) - k)) (c := 2 * left / ((n : Int) - k)) hw (by omega) (by omega) (by omega)
  obtain ⟨mi, hmi⟩ : ∃ mi : Int, mi = if left < mo then left else mo := ⟨_, rfl⟩
  have hmi0 : 0 ≤ mi ∧ mi ≤ left := by
    subst hmi
    split <;> omega
  obtain ⟨d1', x, a1, a2, a3, a4⟩ := F_drawI (A := A) hd (by omega) (s := mi + 1) (by omega) (by omega)
  have ap : ∀ i : Int, appendF [D.int i] (dints f) = some (.non, dints (f ++ [i])) := fun i => by
    rw [app_n (by rw [ints_len]; omega), dints_app]
  have le : ∀ {a b : D}, lit4 [a, b, D.int (2 * left / ((n : Int) - k)), D.int 3] = some [a, b, D.int (2 * left / ((n : Int) - k)), D.int 3] := rfl
  by_cases hw1 : w = 1
  · subst hw1
    have e5 : atI [D.int left, D.int (left / ((n : Int) - k)), D.int (2 * left / ((n : Int) - k)), D.int 3] 1 = some (.int mo) := e4
    obtain ⟨d2', y, b1, b2, b3⟩ := F_draw (A := A) a3 (by omega) (s := 3) (by decide) (by decide)
    have b4 : F__law_draw A [d1', .int 3] = some (.ok (.int y), [d2', .int 3]) := b3
    by_cases hy : 0 < y
    · refine ⟨d2', mi, some (.int mo), some (.int mi), hmi0.1, hmi0.2, b2.mono (by omega), ?_⟩
      simp [m2, d1, d2, le, e5, min_b, ← hmi, a4, b4, ap, hy]
    · refine ⟨d2', x, some (.int mo), some (.int x), a1, by omega, b2.mono (by omega), ?_⟩
      simp [m2, d1, d2, le, e5, min_b, ← hmi, a4, b4, ap, hy]
  · refine ⟨d1', x, some (.int mo), some (.int x), a1, by omega, a3.mono (by omega), ?_⟩
    have w1 : ¬ ((w : Int) = 1) := by omega
    simp [m2, d1, d2, le, e4, min_b, ← hmi, a4, w1, ap]
theorem F_fours {N n : Nat} {d : D} (hd : Dice N d) (hN : N ≤ 500) (h5 : 5 ≤ n) (hn : n ≤ 8) : ∃ (d' : D) (ns : List Int), Dice (N + 40) d' ∧ ns.length = n ∧ (∀ i ∈ ns, 0 ≤ i ∧ i ≤ 1000) ∧ F__law_fours A [d, .int n] = some (.ok (.lst (dints ns)), [d', .int n]) := by
  have pl := pw_le hn
  obtain ⟨d1, w, w1, w2, w3⟩ := F_draw (A := A) hd (by omega) (s := 4) (by decide) (by decide)
  have w4 : F__law_draw A [d, .int 4] = some (.ok (.int w), [d1, .int 4]) := w3
  have hq : divI (.int (pw n : Nat)) (.int 4) = some (.int ((pw n : Nat) / 4)) := div_b (by decide) (by decide)
  have hr : range1 [.int ((n : Int) - 1)] = some ((List.range (n - 1)).map fun (m : Nat) => D.int (m : Nat)) := by
    rw [show (n : Int) - 1 = ((n - 1 : Nat) : Int) by omega]
    exact range1_nat (by omega)
  obtain ⟨ρ', h1, h2⟩ := each_inv (enc := fun (m : Nat) => D.int (m : Nat)) (tg := tgN 5) (body := fourBody A)
    (fun i ρ => ∃ (dc : D) (left : Int) (f : List Int) (x5 x6 x7 : Option D), ρ = [some dc, some (.int n), some (.int left), some (.lst (dints f)), some (.int w), x5, x6, x7, none] ∧ Dice (N + 1 + 2 * i) dc ∧ (0 ≤ left ∧ left ≤ 64) ∧ f.length = i ∧ ∀ o ∈ f, 0 ≤ o ∧ o ≤ 64)
    (xs := List.range (n - 1)) (n := 0) (ρ := [some d1, some (.int n), some (.int ((pw n : Nat) / 4)), some (.lst (dints [])), some (.int w), none, none, none, none]) ⟨d1, _, _, none, none, none, rfl, w2, by omega, rfl, fun o ho => absurd ho (by simp)⟩ (fun i x ρ hx ⟨dc, left, f, x5, x6, x7, e, k1, k2, k3, k4⟩ => by
      have hi := (List.getElem?_eq_some_iff.mp hx).1
      rw [List.length_range] at hi
      have hx2 : x = i := by
        rw [List.getElem?_range hi] at hx
        exact (Option.some.inj hx).symm
      subst hx2
      subst e
      obtain ⟨dc', m, y6, y7, m1, m2, m3, m4⟩ := four_step (A := A) (f := f) (x5 := x5) (x6 := x6) (x7 := x7) (x8 := none) (k := x) (n := n) (by omega) hn w1 k1 (by omega) k2 (by omega)
      refine ⟨_, _, rfl, .inl m4, ⟨dc', left - m, f ++ [m], some (.int x), y6, y7, rfl, m3.mono (by omega), by omega, by simp [k3], fun o ho => ?_⟩⟩
      rcases List.mem_append.mp ho with h | h
      · exact k4 o h
      · rw [List.mem_singleton.mp h]
        omega)
  obtain ⟨dc, left, f, x5, x6, x7, rfl, k1, k2, k3, k4⟩ := h2
  rw [List.length_range] at k1 k3
  obtain ⟨d3, os, o1, o2, o3, o4⟩ := F_order (A := A) k1 (by omega) hn
  have fl : (f ++ [left]).length = n := by
    rw [List.length_append, k3]
    simp
    omega
  have fb : ∀ i ∈ f ++ [left], 0 ≤ i ∧ i ≤ 64 := fun i hi => by
    rcases List.mem_append.mp hi with h | h
    · exact k4 i h
    · rw [List.mem_singleton.mp h]
      exact k2
  have L := lc_all (i := 5) (it := EM.seqOf (EM.get 8)) (te := EM.op2 mulI (EM.ret (.int 4)) (EM.op2 ixSeq (EM.get 3) (EM.get 5))) (enc := fun (m : Nat) => D.int (m : Nat)) (xs := os) (ρ := [some d3, some (.int n), some (.int left), some (.lst (dints (f ++ [left]))), some (.int w), x5, x6, x7, some (.lst (dn os))]) (σ := [some d3, some (.int n), some (.int left), some (.lst (dints (f ++ [left]))), some (.int w), x5, x6, x7, some (.lst (dn os))])
    (fun m => .int (4 * (f ++ [left]).getD m 0)) (by simp [dn]) (by omega) (fun m hm => by
      have hm2 : m < (f ++ [left]).length := by
        rw [fl]
        exact o3 m hm
      have g := ints_get hm2
      have b := fb _ (List.getElem_mem hm2)
      have e : (f ++ [left]).getD m 0 = (f ++ [left])[m] := by rw [List.getD_eq_getElem?_getD, List.getElem?_eq_getElem hm2]; rfl
      rw [e]
      have mu : mulI (.int 4) (.int (f ++ [left])[m]) = some (.int (4 * (f ++ [left])[m])) := mul_b (by decide) (by omega)
      generalize (f ++ [left])[m] = v at g mu
      simp [g, mu])
  have ap : appendF [D.int left] (dints f) = some (.non, dints (f ++ [left])) := by
    rw [app_n (by rw [ints_len]; omega), dints_app]
  refine ⟨d3, os.map fun m => 4 * (f ++ [left]).getD m 0, o1.mono (by omega), by rw [List.length_map, o2], fun i hi => ?_, ?_⟩
  · obtain ⟨m, hm, rfl⟩ := List.mem_map.mp hi
    have hm2 : m < (f ++ [left]).length := by
      rw [fl]
      exact o3 m hm
    have e : (f ++ [left]).getD m 0 = (f ++ [left])[m] := by rw [List.getD_eq_getElem?_getD, List.getElem?_eq_getElem hm2]; rfl
    rw [e]
    have := fb _ (List.getElem_mem hm2)
    omega
  · have h1' : SM.each (tgN 5) (fourBody A) ((List.range (n - 1)).map fun (m : Nat) => D.int (m : Nat)) [some d1, some (.int n), some (.int ((pw n : Nat) / 4)), some (.lst []), some (.int w), none, none, none, none] = _ := h1
    have e : m__law_fours A = SM.seq (SM.set 2 (EM.op2 divI (EM.call (F__law_power A) [none] (EM.cons (EM.get 1) (EM.ret []))) (EM.ret (.int 4))))
      (SM.seq (SM.set 3 (EM.opl lit4 (EM.ret [])))
      (SM.seq (SM.set 4 (EM.call (F__law_draw A) [some 0, none] (EM.cons (EM.get 0) (EM.cons (EM.ret (.int 4)) (EM.ret [])))))
      (SM.seq (SM.for_ (EM.rng1 (EM.cons (EM.op2 subI (EM.get 1) (EM.ret (.int 1))) (EM.ret []))) (tgN 5) (fourBody A))
      (SM.seq (SM.drop (EM.modL 3 appendF (EM.cons (EM.get 2) (EM.ret []))))
      (SM.seq (SM.set 8 (EM.call (F__law_order A) [some 0, none] (EM.cons (EM.get 0) (EM.cons (EM.get 1) (EM.ret [])))))
      (SM.ret (EM.lend (.l .s) (EM.lc [5] (EM.seqOf (EM.get 8)) (tgN 5) (EM.ret true) (EM.op2 mulI (EM.ret (.int 4)) (EM.op2 ixSeq (EM.get 3) (EM.get 5))))))))))) := rfl
    rw [F__law_fours, runF_def, e]
    have L2 := L
    rw [show (os.map fun m => D.int (4 * (f ++ [left]).getD m 0)) = dints (os.map fun m => 4 * (f ++ [left]).getD m 0) by simp [dints, Function.comp_def]] at L2
    generalize (os.map fun m => 4 * (f ++ [left]).getD m 0) = r at L2
    simp [F_power_n hn, hq, lit4, w4, hr, h1', ap, o4, L2]
end
end LW
namespace LW
open PySem PySem.Spec PyProof.Rows L2 Cl
section
variable {A : Ad}
theorem set_i {v : Int} : ∀ {ns : List Int} {k : Nat}, (dints ns).set k (.int v) = dints (ns.set k v) := by
  intro ns k
  unfold dints
  rw [List.map_set]
theorem ge_set {ns : List Int} {k : Nat} {v : Int} (h : ∀ i ∈ ns, 0 ≤ i) (hv : 0 ≤ v) : ∀ i ∈ ns.set k v, 0 ≤ i := fun i hi => by
  rcases List.mem_or_eq_of_mem_set hi with h1 | h1
  · exact h i h1
  · rw [h1]
    exact hv
theorem F_near {N n : Nat} {d : D} {ns : List Int} (hd : Dice N d) (hN : N ≤ 1000) (h1 : 1 ≤ n) (hn : n ≤ 8) (hl : ns.length = n) (hp : ∀ i ∈ ns, 0 ≤ i) : ∃ (d' : D) (ms : List Int), Dice (N + 3) d' ∧ ms.length = n ∧ (∀ i ∈ ms, 0 ≤ i) ∧ F__law_near A [d, .int n, .lst (dints ns)] = some (.ok (.tup (dints ms)), [d', .int n, .lst (dints ns)]) := by
  obtain ⟨d1, o, a1, a2, a3⟩ := F_draw (A := A) hd (by omega) (s := n) (by omega) (by omega)
  obtain ⟨d2, t, b1, b2, b3⟩ := F_draw (A := A) a2 (by omega) (s := n) (by omega) (by omega)
  obtain ⟨d3, k, c1, c2, c3'⟩ := F_draw (A := A) b2 (by omega) (s := 6) (by omega) (by omega)
  have c3 : F__law_draw A [d2, .int 6] = some (.ok (.int k), [d3, .int 6]) := c3'
  have ho : o < ns.length := by omega
  have ga := ints_get ho
  have pa := hp _ (List.getElem_mem ho)
  generalize ns[o] = a at ga pa
  have io : ixN ns.length (o : Int) = some o := ixN_nat ho
  have it : ixN ns.length (t : Int) = some t := ixN_nat (by omega)
  have two : ∀ v : Int, 0 ≤ v → ∃ b : Int, 0 ≤ b ∧ atI (dints (ns.set o v)) (t : Int) = some (.int b) := fun v hv => by
    have q : t < (ns.set o v).length := by
      rw [List.length_set]
      omega
    exact ⟨_, ge_set hp hv _ (List.getElem_mem q), ints_get q⟩
  have lo : lit4 = lit4 := rfl
  have li : listOf [.lst (dints ns)] = some (dints ns) := rfl
  have fin : ∀ ms : List Int, tupleOf [.lst (dints ms)] = some (.tup (dints ms)) := fun _ => rfl
  have ks : k = 0 ∨ k = 1 ∨ k = 2 ∨ k = 3 ∨ k = 4 ∨ k = 5 := by omega
  have plain : ∀ (ms : List Int), ms.length = n → (∀ i ∈ ms, 0 ≤ i) → F__law_near A [d, .int n, .lst (dints ns)] = some (.ok (.tup (dints ms)), [d3, .int n, .lst (dints ns)]) → ∃ (d' : D) (ms : List Int), Dice (N + 3) d' ∧ ms.length = n ∧ (∀ i ∈ ms, 0 ≤ i) ∧ F__law_near A [d, .int n, .lst (dints ns)] = some (.ok (.tup (dints ms)), [d', .int n, .lst (dints ns)]) :=
    fun ms x y z => ⟨d3, ms, c2, x, y, z⟩
  rcases ks with rfl | rfl | rfl | rfl | rfl | rfl
  · have c4 : F__law_draw A [d2, .int 6] = some (.ok (.int 0), [d3, .int 6]) := c3
    by_cases q : 1 < a
    · obtain ⟨b, hb, gb⟩ := two (a - 2) (by omega)
      refine plain ((ns.set o (a - 2)).set t (b + 2)) (by simp [hl]) (ge_set (ge_set hp (by omega)) (by omega)) ?_
      simp [F__law_near, runF_def, m__law_near, li, a3, b3, c4, ga, q, io, it, set_i, gb, fin]
    · refine plain ns hl hp ?_
      simp [F__law_near, runF_def, m__law_near, li, a3, b3, c4, ga, q, fin]
  · have c4 : F__law_draw A [d2, .int 6] = some (.ok (.int 1), [d3, .int 6]) := c3
    refine plain (ns.set o (a + 4)) (by simp [hl]) (ge_set hp (by omega)) ?_
    simp [F__law_near, runF_def, m__law_near, li, a3, b3, c4, ga, io, it, set_i, fin]
  · have c4 : F__law_draw A [d2, .int 6] = some (.ok (.int 2), [d3, .int 6]) := c3
    by_cases q : 3 < a
    · refine plain (ns.set o (a - 4)) (by simp [hl]) (ge_set hp (by omega)) ?_
      simp [F__law_near, runF_def, m__law_near, li, a3, b3, c4, ga, q, io, it, set_i, fin]
    · refine plain ns hl hp ?_
      simp [F__law_near, runF_def, m__law_near, li, a3, b3, c4, ga, q, fin]
  · have c4 : F__law_draw A [d2, .int 6] = some (.ok (.int 3), [d3, .int 6]) := c3
    by_cases q : 0 < a
    · obtain ⟨b, hb, gb⟩ := two (a - 1) (by omega)
      refine plain ((ns.set o (a - 1)).set t (b + 1)) (by simp [hl]) (ge_set (ge_set hp (by omega)) (by omega)) ?_
      simp [F__law_near, runF_def, m__law_near, li, a3, b3, c4, ga, q, io, it, set_i, gb, fin]
    · refine plain ns hl hp ?_
      simp [F__law_near, runF_def, m__law_near, li, a3, b3, c4, ga, q, fin]
  · have c4 : F__law_draw A [d2, .int 6] = some (.ok (.int 4), [d3, .int 6]) := c3
    refine plain ns hl hp ?_
    simp [F__law_near, runF_def, m__law_near, li, a3, b3, c4, ga, fin]
  · have c4 : F__law_draw A [d2, .int 6] = some (.ok (.int 5), [d3, .int 6]) := c3
    refine plain ns hl hp ?_
    simp [F__law_near, runF_def, m__law_near, li, a3, b3, c4, ga, fin]
end
end LW
namespace LW
/-! ### rows of 2^n, bits by members: facts for n up to 8, by reckoning -/
def yesB (n r m : Nat) : Bool := Nat.beq (r / pw (n - 1 - m) % 2) 1
def turnB (n r m : Nat) : Nat := cond (yesB n r m) (r - pw (n - 1 - m)) (r + pw (n - 1 - m))
def oth (m p : Nat) : Nat := cond (Nat.blt p m) p (p + 1)
def allU : Nat → (Nat → Bool) → Bool
  | 0, _ => true
  | k + 1, f => f k && allU k f
theorem allU_of : ∀ {n : Nat} {f : Nat → Bool}, allU n f = true → ∀ k, k < n → f k = true
  | 0, _, _, k, h => absurd h (Nat.not_lt_zero _)
  | n + 1, f, e, k, h => by
    have e2 : (f n && allU n f) = true := e
    rw [Bool.and_eq_true] at e2
    by_cases z : k = n
    · rw [z]
      exact e2.1
    · exact allU_of e2.2 k (by omega)
theorem yesB_eq {n r m : Nat} : yesB n r m = yes n r m := by
  unfold yesB yes
  by_cases h : r / pw (n - 1 - m) % 2 = 1
  · rw [h]
    rfl
  · rw [decide_eq_false h]
    cases e : Nat.beq (r / pw (n - 1 - m) % 2) 1 with
    | false => rfl
    | true => exact absurd (Nat.eq_of_beq_eq_true e) h
theorem turnB_eq {n r m : Nat} : turnB n r m = turn n r m := by
  unfold turnB turn
  rw [yesB_eq]
  cases yes n r m <;> rfl
def chkA (n : Nat) : Bool := allU (pw n) fun r => allU n fun m => Nat.blt (wo n r m) (pw (n - 1)) && (Nat.blt (turnB n r m) (pw n) && (Nat.beq (turnB n (turnB n r m) m) r && (Nat.beq (wo n (turnB n r m) m) (wo n r m) && (!(yesB n (turnB n r m) m == yesB n r m) &&
  allU (n - 1) fun p => Nat.beq (wo n (turnB n r (oth m p)) m) (turnB (n - 1) (wo n r m) p)))))
def insB (n s m : Nat) (b : Nat) : Nat := s / pw (n - 1 - m) * (2 * pw (n - 1 - m)) + b * pw (n - 1 - m) + s % pw (n - 1 - m)
def chkP (n : Nat) : Bool := allU n fun m => (allU (pw (n - 1)) fun s => Nat.beq (wo n (insB n s m 0) m) s && (Nat.beq (wo n (insB n s m 1) m) s && (Nat.blt (insB n s m 0) (pw n) && (Nat.blt (insB n s m 1) (pw n) && (!yesB n (insB n s m 0) m && yesB n (insB n s m 1) m))))) &&
  allU (pw n) fun r => Nat.beq (insB n (wo n r m) m (r / pw (n - 1 - m) % 2)) r
theorem chkA_all : (chkA 1 && chkA 2 && chkA 3 && chkA 4 && chkA 5 && chkA 6 && chkA 7 && chkA 8) = true := by decide +kernel
theorem chkP_all : (chkP 1 && chkP 2 && chkP 3 && chkP 4 && chkP 5 && chkP 6 && chkP 7 && chkP 8) = true := by decide +kernel
end LW
namespace LW
theorem chkA_at {n : Nat} (h1 : 1 ≤ n) (h8 : n ≤ 8) : chkA n = true := by
  have h := chkA_all
  simp only [Bool.and_eq_true] at h
  obtain ⟨⟨⟨⟨⟨⟨⟨a, b⟩, c⟩, d⟩, e⟩, f⟩, g⟩, i⟩ := h
  have z : n = 1 ∨ n = 2 ∨ n = 3 ∨ n = 4 ∨ n = 5 ∨ n = 6 ∨ n = 7 ∨ n = 8 := by omega
  rcases z with z | z | z | z | z | z | z | z <;> rw [z]
  · exact a
  · exact b
  · exact c
  · exact d
  · exact e
  · exact f
  · exact g
  · exact i
theorem chkP_at {n : Nat} (h1 : 1 ≤ n) (h8 : n ≤ 8) : chkP n = true := by
  have h := chkP_all
  simp only [Bool.and_eq_true] at h
  obtain ⟨⟨⟨⟨⟨⟨⟨a, b⟩, c⟩, d⟩, e⟩, f⟩, g⟩, i⟩ := h
  have z : n = 1 ∨ n = 2 ∨ n = 3 ∨ n = 4 ∨ n = 5 ∨ n = 6 ∨ n = 7 ∨ n = 8 := by omega
  rcases z with z | z | z | z | z | z | z | z <;> rw [z]
  · exact a
  · exact b
  · exact c
  · exact d
  · exact e
  · exact f
  · exact g
  · exact i
theorem blt_lt {a b : Nat} (h : Nat.blt a b = true) : a < b := Nat.le_of_ble_eq_true h
section
variable {n r m : Nat}
structure Bits (n r m : Nat) : Prop where
  w : wo n r m < pw (n - 1)
  t : turn n r m < pw n
  tt : turn n (turn n r m) m = r
  wt : wo n (turn n r m) m = wo n r m
  y : yes n (turn n r m) m = !yes n r m
  o : ∀ p, p < n - 1 → wo n (turn n r (oth m p)) m = turn (n - 1) (wo n r m) p
theorem bits (h8 : n ≤ 8) (hr : r < pw n) (hm : m < n) : Bits n r m := by
  have h := chkA_at (n := n) (by omega) h8
  have h2 := allU_of (allU_of h r hr) m hm
  simp only [Bool.and_eq_true, turnB_eq, yesB_eq] at h2
  obtain ⟨a, b, c, d, e, f⟩ := h2
  refine ⟨blt_lt a, blt_lt b, Nat.eq_of_beq_eq_true c, Nat.eq_of_beq_eq_true d, ?_, fun p hp => Nat.eq_of_beq_eq_true (allU_of f p hp)⟩
  generalize yes n (turn n r m) m = x at e ⊢
  generalize yes n r m = y at e ⊢
  cases x <;> cases y <;> first | rfl | cases e
structure Ins (n s m : Nat) : Prop where
  w0 : wo n (insB n s m 0) m = s
  w1 : wo n (insB n s m 1) m = s
  l0 : insB n s m 0 < pw n
  l1 : insB n s m 1 < pw n
  y0 : yes n (insB n s m 0) m = false
  y1 : yes n (insB n s m 1) m = true
theorem insb {s : Nat} (h8 : n ≤ 8) (hs : s < pw (n - 1)) (hm : m < n) : Ins n s m := by
  have h := chkP_at (n := n) (by omega) h8
  have h2 := allU_of h m hm
  simp only [Bool.and_eq_true, Bool.not_eq_true', yesB_eq] at h2
  have h3 := allU_of h2.1 s hs
  simp only [Bool.and_eq_true, Bool.not_eq_true'] at h3
  obtain ⟨a, b, c, d, e, f⟩ := h3
  exact ⟨Nat.eq_of_beq_eq_true a, Nat.eq_of_beq_eq_true b, blt_lt c, blt_lt d, e, f⟩
theorem ins_wo (h8 : n ≤ 8) (hr : r < pw n) (hm : m < n) : insB n (wo n r m) m (r / pw (n - 1 - m) % 2) = r := by
  have h := chkP_at (n := n) (by omega) h8
  have h2 := allU_of h m hm
  rw [Bool.and_eq_true] at h2
  exact Nat.eq_of_beq_eq_true (allU_of h2.2 r hr)
theorem nodup_map_inj {f : Nat → Nat} : ∀ {l : List Nat}, l.Nodup → (∀ a ∈ l, ∀ b ∈ l, f a = f b → a = b) → (l.map f).Nodup
  | [], _, _ => List.nodup_nil
  | x :: l, h, inj => by
    rw [List.nodup_cons] at h
    rw [List.map_cons, List.nodup_cons]
    refine ⟨fun hm => ?_, nodup_map_inj h.2 fun a ha b hb => inj a (List.mem_cons_of_mem _ ha) b (List.mem_cons_of_mem _ hb)⟩
    obtain ⟨b, hb, e⟩ := List.mem_map.mp hm
    have := inj b (List.mem_cons_of_mem _ hb) x List.mem_cons_self e
    subst this
    exact h.1 hb
theorem turn_perm (h8 : n ≤ 8) (hm : m < n) : (List.range (pw n)).Perm ((List.range (pw n)).map fun r => turn n r m) := by
  refine (List.perm_ext_iff_of_nodup List.nodup_range (nodup_map_inj List.nodup_range fun a ha b hb e => ?_)).mpr fun a => ?_
  · have x := (bits h8 (List.mem_range.mp ha) hm).tt
    have y := (bits h8 (List.mem_range.mp hb) hm).tt
    have e : turn n a m = turn n b m := e
    rw [← x, e, y]
  · simp only [List.mem_range, List.mem_map]
    constructor
    · intro h
      have b := bits h8 h hm
      exact ⟨_, b.t, b.tt⟩
    · rintro ⟨r, h, rfl⟩
      exact (bits h8 h hm).t
theorem wo_perm (h8 : n ≤ 8) (hm : m < n) : (List.range (pw n)).Perm ((List.range (pw (n - 1))).map (fun s => insB n s m 0) ++ (List.range (pw (n - 1))).map fun s => insB n s m 1) := by
  have i0 : ∀ b : Nat, b = 0 ∨ b = 1 → ((List.range (pw (n - 1))).map fun s => insB n s m b).Nodup := fun b hb => nodup_map_inj List.nodup_range fun x hx y hy e => by
    have a := insb h8 (List.mem_range.mp hx) hm
    have c := insb h8 (List.mem_range.mp hy) hm
    have e : insB n x m b = insB n y m b := e
    rcases hb with rfl | rfl
    · rw [← a.w0, e, c.w0]
    · rw [← a.w1, e, c.w1]
  refine (List.perm_ext_iff_of_nodup List.nodup_range (List.nodup_append.mpr ⟨i0 0 (.inl rfl), i0 1 (.inr rfl), fun x hx y hy e => ?_⟩)).mpr fun a => ?_
  · obtain ⟨s, hs, rfl⟩ := List.mem_map.mp hx
    obtain ⟨t, ht, e2⟩ := List.mem_map.mp hy
    have a := (insb h8 (List.mem_range.mp hs) hm).y0
    have c := (insb h8 (List.mem_range.mp ht) hm).y1
    rw [e, ← e2, c] at a
    cases a
  · simp only [List.mem_range, List.mem_map, List.mem_append]
    constructor
    · intro h
      have b := bits h8 h hm
      have q := ins_wo h8 h hm
      have z : a / pw (n - 1 - m) % 2 = 0 ∨ a / pw (n - 1 - m) % 2 = 1 := by omega
      rcases z with z | z
      · rw [z] at q
        exact .inl ⟨_, b.w, q⟩
      · rw [z] at q
        exact .inr ⟨_, b.w, q⟩
    · rintro (⟨s, hs, rfl⟩ | ⟨s, hs, rfl⟩)
      · exact (insb h8 hs hm).l0
      · exact (insb h8 hs hm).l1
/-- what is counted by the rows without one member is counted twice -/
theorem count_wo (h8 : n ≤ 8) (hm : m < n) (P : Nat → Bool) : (List.range (pw n)).countP (fun r => P (wo n r m)) = 2 * (List.range (pw (n - 1))).countP P := by
  rw [(wo_perm h8 hm).countP_eq, List.countP_append, List.countP_map, List.countP_map]
  have a : ∀ b : Nat, b = 0 ∨ b = 1 → (List.range (pw (n - 1))).countP ((fun r => P (wo n r m)) ∘ fun s => insB n s m b) = (List.range (pw (n - 1))).countP P := fun b hb => List.countP_congr fun s hs => by
    have i := insb h8 (List.mem_range.mp hs) hm
    rcases hb with rfl | rfl
    · show P (wo n (insB n s m 0) m) = true ↔ _
      rw [i.w0]
    · show P (wo n (insB n s m 1) m) = true ↔ _
      rw [i.w1]
  rw [a 0 (.inl rfl), a 1 (.inr rfl)]
  omega
theorem count_turn (h8 : n ≤ 8) (hm : m < n) (P : Nat → Bool) : (List.range (pw n)).countP (fun r => P (turn n r m)) = (List.range (pw n)).countP P := by
  have h := (turn_perm h8 hm).countP_eq P
  rw [List.countP_map] at h
  exact h.symm
theorem countP_mem {l T : List Nat} (h : T.Sublist l) (nd : l.Nodup) : l.countP (fun x => T.contains x) = T.length := by
  induction h with
  | slnil => rfl
  | cons a s ih =>
    rename_i T l
    rw [List.nodup_cons] at nd
    have na : T.contains a = false := by
      cases e : T.contains a with
      | false => rfl
      | true => exact absurd (s.subset (List.contains_iff_mem.mp e)) nd.1
    rw [List.countP_cons_of_neg (by rw [na]; exact Bool.false_ne_true), ih nd.2]
  | cons_cons a s ih =>
    rename_i T l
    rw [List.nodup_cons] at nd
    rw [List.countP_cons_of_pos (by simp), List.length_cons, ← ih nd.2]
    congr 1
    refine List.countP_congr fun x hx => ?_
    have ne : x ≠ a := fun e => nd.1 (e ▸ hx)
    simp [ne]
end
end LW
namespace LW
theorem countP_split (P Q : Nat → Bool) : ∀ l : List Nat, l.countP P = l.countP (fun x => P x && Q x) + l.countP (fun x => P x && !Q x)
  | [] => rfl
  | x :: l => by
    have ih := countP_split P Q l
    simp only [List.countP_cons, ih]
    cases P x <;> cases Q x <;> simp <;> omega
theorem oth_lt {n m p : Nat} (hm : m < n) (hp : p < n - 1) : oth m p < n := by
  unfold oth
  cases e : Nat.blt p m with
  | true => show p < n; omega
  | false => show p + 1 < n; omega
theorem blt_iff {a b : Nat} : Nat.blt a b = true ↔ a < b := ⟨blt_lt, fun h => Nat.ble_eq_true_of_le h⟩
theorem oth_val {m p : Nat} : oth m p = if p < m then p else p + 1 := by
  unfold oth
  by_cases h : p < m
  · rw [blt_iff.mpr h, if_pos h]
    rfl
  · cases e : Nat.blt p m with
    | true => exact absurd (blt_iff.mp e) h
    | false => rw [if_neg h]; rfl
theorem oth_ne {m p : Nat} : oth m p ≠ m := by
  rw [oth_val]
  split <;> omega
theorem oth_inj {m p q : Nat} (h : oth m p = oth m q) : p = q := by
  rw [oth_val, oth_val] at h
  split at h <;> split at h <;> omega
def HH (half : List Nat) (s : Nat) : Nat := half.getD s 0
def firsts (k : Nat) (half : List Nat) (p : Nat) : List Nat := (List.range (pw k)).filter fun s => HH half s == p && !yes k s p
def acr (k : Nat) (half : List Nat) (T : Nat → List Nat) (s : Nat) : Bool := (T (HH half s)).contains s || (T (HH half s)).contains (turn k s (HH half s))
def found (n main : Nat) (half : List Nat) (T : Nat → List Nat) (r : Nat) : Nat := if acr (n - 1) half T (wo n r main) = true then main else oth main (HH half (wo n r main))
section
variable {k : Nat} {half : List Nat} {T : Nat → List Nat} {s p : Nat}
theorem HH_get (c : Coup k half) (h : s < pw k) : ∃ h' : s < half.length, HH half s = half[s] := by
  have h' : s < half.length := by rw [c.len]; exact h
  refine ⟨h', ?_⟩
  unfold HH
  rw [List.getD_eq_getElem?_getD, List.getElem?_eq_getElem h']
  rfl
theorem HH_lt (c : Coup k half) (h : s < pw k) : HH half s < k := by
  obtain ⟨h', e⟩ := HH_get c h
  rw [e]
  exact c.lt _ (List.getElem_mem h')
theorem HH_turn (c : Coup k half) (h : s < pw k) : HH half (turn k s (HH half s)) = HH half s := by
  obtain ⟨h', e⟩ := HH_get c h
  have t := c.tu s h'
  rw [← e] at t
  have e2 := e
  unfold HH at e2 ⊢
  rw [List.getD_eq_getElem?_getD, show turn k s (half.getD s 0) = turn k s (HH half s) from rfl, t]
  rfl
theorem HH_iff (h8 : k ≤ 8) (c : Coup k half) (h : s < pw k) (hp : p < k) : HH half (turn k s p) = p ↔ HH half s = p := by
  constructor
  · intro e
    have b := bits h8 h hp
    have q := HH_turn c b.t
    rw [e, b.tt] at q
    exact q
  · intro e
    have q := HH_turn c h
    rw [e] at q
    exact q
theorem mem_firsts : s ∈ firsts k half p ↔ s < pw k ∧ HH half s = p ∧ yes k s p = false := by
  unfold firsts
  rw [List.mem_filter, List.mem_range]
  simp
theorem acr_turn (h8 : k ≤ 8) (c : Coup k half) (h : s < pw k) : acr k half T (turn k s (HH half s)) = acr k half T s := by
  unfold acr
  rw [HH_turn c h, (bits h8 h (HH_lt c h)).tt, Bool.or_comm]
theorem acr_first (h8 : k ≤ 8) (c : Coup k half) (hT : (T p).Sublist (firsts k half p)) (h : s < pw k) (hp : p < k) : (HH half s == p && acr k half T s && !yes k s p) = (T p).contains s := by
  cases e : (T p).contains s with
  | true =>
    have m := mem_firsts.mp (hT.subset (List.contains_iff_mem.mp e))
    unfold acr
    rw [m.2.1, e, m.2.2]
    simp
  | false =>
    by_cases q : HH half s = p
    · unfold acr
      rw [q, e]
      cases e2 : (T p).contains (turn k s p) with
      | false => simp
      | true =>
        have m := mem_firsts.mp (hT.subset (List.contains_iff_mem.mp e2))
        have y := (bits h8 h hp).y
        rw [m.2.2] at y
        cases e3 : yes k s p with
        | true => simp
        | false =>
          rw [e3] at y
          cases y
    · rw [show (HH half s == p) = false from beq_eq_false_iff_ne.mpr q]
      rfl
theorem count_acr (h8 : k ≤ 8) (c : Coup k half) (hT : (T p).Sublist (firsts k half p)) (hp : p < k) : (List.range (pw k)).countP (fun s => HH half s == p && acr k half T s) = 2 * (T p).length := by
  rw [countP_split (fun s => HH half s == p && acr k half T s) (fun s => yes k s p)]
  have b : (List.range (pw k)).countP (fun s => HH half s == p && acr k half T s && !yes k s p) = (T p).length := by
    rw [← countP_mem (l := List.range (pw k)) (T := T p) (hT.trans List.filter_sublist) List.nodup_range]
    exact List.countP_congr fun s hs => by rw [acr_first h8 c hT (List.mem_range.mp hs) hp]
  have a : (List.range (pw k)).countP (fun s => HH half s == p && acr k half T s && yes k s p) = (T p).length := by
    rw [← b, ← count_turn h8 hp]
    refine List.countP_congr fun s hs => ?_
    have hs := List.mem_range.mp hs
    have y := (bits h8 hs hp).y
    have q : (HH half (turn k s p) == p && acr k half T (turn k s p)) = (HH half s == p && acr k half T s) := by
      by_cases e : HH half s = p
      · have z := acr_turn (T := T) h8 c hs
        rw [e] at z
        rw [z, e, (HH_iff h8 c hs hp).mpr e]
      · have e2 : ¬ HH half (turn k s p) = p := fun z => e ((HH_iff h8 c hs hp).mp z)
        rw [show (HH half s == p) = false from beq_eq_false_iff_ne.mpr e, show (HH half (turn k s p) == p) = false from beq_eq_false_iff_ne.mpr e2]
        rfl
    rw [q, y]
  rw [a, b]
  omega
theorem count_half (c : Coup k half) : (List.range (pw k)).countP (fun s => HH half s == p) = half.count p := by
  have e : half = (List.range (pw k)).map fun s => HH half s := by
    apply List.ext_getElem
    · simp [c.len]
    · intro i h1 h2
      obtain ⟨_, z⟩ := HH_get c (show i < pw k by rw [← c.len]; exact h1)
      simp [z]
  rw [List.count_eq_countP]
  conv => rhs; rw [e]
  rw [List.countP_map]
  rfl
/-- the firsts are half of the rows at a place -/
theorem firsts_len (h8 : k ≤ 8) (c : Coup k half) (hp : p < k) : half.count p = 2 * (firsts k half p).length := by
  have z := count_acr (T := fun q => firsts k half q) h8 c (List.Sublist.refl _) hp
  rw [← count_half c, ← z]
  refine List.countP_congr fun s hs => ?_
  have hs := List.mem_range.mp hs
  by_cases e : HH half s = p
  · have q : acr k half (fun q => firsts k half q) s = true := by
      unfold acr
      rw [e]
      cases y : yes k s p with
      | false => rw [List.contains_iff_mem.mpr (mem_firsts.mpr ⟨hs, e, y⟩)]; rfl
      | true =>
        have b := bits h8 hs hp
        rw [show (firsts k half p).contains (turn k s p) = true from List.contains_iff_mem.mpr (mem_firsts.mpr ⟨b.t, (HH_iff h8 c hs hp).mpr e, by rw [b.y, y]; rfl⟩), Bool.or_true]
    rw [q, Bool.and_true]
  · rw [show (HH half s == p) = false from beq_eq_false_iff_ne.mpr e]
    simp
end
section
variable {n main : Nat} {half : List Nat} {T : Nat → List Nat}
/-- the doubling keeps a coupling -/
theorem doub_coup (h2 : 2 ≤ n) (h8 : n ≤ 8) (hm : main < n) (c : Coup (n - 1) half) : Coup n ((List.range (pw n)).map (found n main half T)) := by
  have lt : ∀ r, r < pw n → found n main half T r < n := fun r hr => by
    unfold found
    split
    · exact hm
    · exact oth_lt hm (HH_lt c (bits h8 hr hm).w)
  have tu : ∀ r, r < pw n → turn n r (found n main half T r) < pw n ∧ found n main half T (turn n r (found n main half T r)) = found n main half T r := fun r hr => by
    have b := bits h8 hr hm
    refine ⟨(bits h8 hr (lt r hr)).t, ?_⟩
    by_cases e : acr (n - 1) half T (wo n r main) = true
    · have f : found n main half T r = main := by unfold found; rw [if_pos e]
      rw [f]
      unfold found
      rw [b.wt, if_pos e]
    · have f : found n main half T r = oth main (HH half (wo n r main)) := by unfold found; rw [if_neg e]
      rw [f]
      have hp := HH_lt c b.w
      unfold found
      rw [b.o _ hp, acr_turn (by omega) c b.w, if_neg e, HH_turn c b.w]
  refine ⟨by simp, fun m hmem => ?_, fun r hr => ?_⟩
  · obtain ⟨r, hr, rfl⟩ := List.mem_map.mp hmem
    exact lt r (List.mem_range.mp hr)
  · have hr2 : r < pw n := by simpa using hr
    obtain ⟨t1, t2⟩ := tu r hr2
    rw [List.getElem_map, List.getElem_range, List.getElem?_map, List.getElem?_range t1]
    exact congrArg some t2
theorem doub_count (h2 : 2 ≤ n) (h8 : n ≤ 8) (hm : main < n) (c : Coup (n - 1) half) {p : Nat} (hp : p < n - 1) (hT : (T p).Sublist (firsts (n - 1) half p)) :
    ((List.range (pw n)).map (found n main half T)).count (oth main p) + 4 * (T p).length = 2 * half.count p := by
  have a := count_acr (k := n - 1) (by omega) c hT hp
  have b := countP_split (fun s => HH half s == p) (fun s => acr (n - 1) half T s) (List.range (pw (n - 1)))
  rw [count_half c, a] at b
  have d := count_wo h8 hm fun s => HH half s == p && !acr (n - 1) half T s
  have e : ((List.range (pw n)).map (found n main half T)).count (oth main p) = (List.range (pw n)).countP fun r => HH half (wo n r main) == p && !acr (n - 1) half T (wo n r main) := by
    rw [List.count_eq_countP, List.countP_map]
    refine List.countP_congr fun r hr => ?_
    show (found n main half T r == oth main p) = true ↔ _
    unfold found
    by_cases e : acr (n - 1) half T (wo n r main) = true
    · rw [if_pos e, e]
      simp [Ne.symm (oth_ne (m := main) (p := p))]
    · rw [if_neg e]
      have e2 : acr (n - 1) half T (wo n r main) = false := by simpa using e
      rw [e2]
      by_cases q : HH half (wo n r main) = p
      · simp [q]
      · simp [q]
        exact fun z => q (oth_inj z)
  rw [e, d]
  omega
end
end LW
namespace LW
/-- six couples, one of 2, five of 6 -/
def six (c : List Nat) : Prop := c = [1, 3, 3, 3, 3, 3] ∨ c = [3, 1, 3, 3, 3, 3] ∨ c = [3, 3, 1, 3, 3, 3] ∨ c = [3, 3, 3, 1, 3, 3] ∨ c = [3, 3, 3, 3, 1, 3] ∨ c = [3, 3, 3, 3, 3, 1]
def odd (h : List Nat) : Nat := (h.map fun x => x % 2).sum
theorem odd_cons {x : Nat} {h : List Nat} : odd (x :: h) = x % 2 + odd h := by simp [odd]
theorem odd_even : ∀ {h : List Nat}, (h.sum + odd h) % 2 = 0
  | [] => rfl
  | x :: h => by
    have := odd_even (h := h)
    rw [odd_cons, List.sum_cons]
    omega
theorem odd_le : ∀ {h : List Nat}, odd h ≤ h.length
  | [] => Nat.le_refl _
  | x :: h => by
    have := odd_le (h := h)
    rw [odd_cons, List.length_cons]
    omega
theorem odd_lt : ∀ {h : List Nat} {M : Nat}, M ∈ h → M % 2 = 0 → odd h + 1 ≤ h.length
  | [], _, hm, _ => absurd hm (by simp)
  | x :: h, M, hm, e => by
    rw [odd_cons, List.length_cons]
    rcases List.mem_cons.mp hm with rfl | hm
    · have := odd_le (h := h)
      omega
    · have := odd_lt hm e
      omega
theorem up_even {M : Nat} (e : M % 2 = 0) : ∀ {h : List Nat}, (∀ x ∈ h, x ≤ M) → h.sum + odd h ≤ h.length * M
  | [], _ => by simp [odd]
  | x :: h, a => by
    have b := up_even e (h := h) fun y hy => a y (List.mem_cons_of_mem _ hy)
    have d := a x List.mem_cons_self
    rw [odd_cons, List.length_cons, List.sum_cons, Nat.succ_mul]
    omega
theorem up_odd {M : Nat} (e : M % 2 = 1) : ∀ {h : List Nat}, (∀ x ∈ h, x ≤ M) → h.sum + h.length ≤ h.length * M + odd h
  | [], _ => by simp [odd]
  | x :: h, a => by
    have b := up_odd e (h := h) fun y hy => a y (List.mem_cons_of_mem _ hy)
    have d := a x List.mem_cons_self
    rw [odd_cons, List.length_cons, List.sum_cons, Nat.succ_mul]
    omega
theorem all_odd : ∀ {h : List Nat}, odd h = h.length → ∀ x ∈ h, x % 2 = 1
  | [], _, x, hx => absurd hx (by simp)
  | y :: h, e, x, hx => by
    rw [odd_cons, List.length_cons] at e
    have l := odd_le (h := h)
    rcases List.mem_cons.mp hx with rfl | hx
    · omega
    · exact all_odd (by omega) x hx
theorem six_of {a b d e f g : Nat} (s : a + (b + (d + (e + (f + (g + 0))))) = 16) (ha : a = 1 ∨ a = 3) (hb : b = 1 ∨ b = 3) (hd : d = 1 ∨ d = 3) (he : e = 1 ∨ e = 3) (hf : f = 1 ∨ f = 3) (hg : g = 1 ∨ g = 3) : six [a, b, d, e, f, g] := by
  unfold six
  rcases ha with rfl | rfl <;> rcases hb with rfl | rfl <;> rcases hd with rfl | rfl <;> rcases he with rfl | rfl <;> rcases hf with rfl | rfl <;> rcases hg with rfl | rfl <;> first | (exfalso; revert s; decide) | simp
/-- where the others' odd ones are too many -/
theorem key {h : List Nat} {M : Nat} (l3 : 3 ≤ h.length) (l8 : h.length ≤ 8) (s : h.sum = pw (h.length - 2)) (hM : M ∈ h) (a : ∀ x ∈ h, x ≤ M) (n4 : h ≠ [1, 1, 1, 1]) (n6 : ¬ six h) : odd h ≤ M + M % 2 := by
  have o1 := odd_even (h := h)
  have o2 := odd_le (h := h)
  have z : h.length = 3 ∨ h.length = 4 ∨ h.length = 5 ∨ h.length = 6 ∨ h.length = 7 ∨ h.length = 8 := by omega
  by_cases e : M % 2 = 0
  · have o3 := odd_lt hM e
    have o4 := up_even e a
    rcases z with z | z | z | z | z | z <;> rw [z] at s o2 o3 o4
    · have s : h.sum = 2 := s
      omega
    · have s : h.sum = 4 := s
      omega
    · have s : h.sum = 8 := s
      omega
    · have s : h.sum = 16 := s
      omega
    · have s : h.sum = 32 := s
      omega
    · have s : h.sum = 64 := s
      omega
  · have e1 : M % 2 = 1 := by omega
    have o4 := up_odd e1 a
    rcases z with z | z | z | z | z | z <;> rw [z] at s o2 o4
    · have s : h.sum = 2 := s
      omega
    · have s : h.sum = 4 := s
      by_cases q : odd h ≤ M + 1
      · omega
      · have m1 : M = 1 := by omega
        have od := all_odd (h := h) (by omega)
        match h, z with
        | [x, y, u, v], _ =>
          have b1 := a x (by simp)
          have b2 := a y (by simp)
          have b3 := a u (by simp)
          have b4 := a v (by simp)
          have c1 := od x (by simp)
          have c2 := od y (by simp)
          have c3 := od u (by simp)
          have c4 := od v (by simp)
          have d1 : x = 1 := by omega
          have d2 : y = 1 := by omega
          have d3 : u = 1 := by omega
          have d4 : v = 1 := by omega
          exact absurd (by rw [d1, d2, d3, d4]) n4
    · have s : h.sum = 8 := s
      omega
    · have s : h.sum = 16 := s
      by_cases q : odd h ≤ M + 1
      · omega
      · have m1 : M = 3 := by omega
        have od := all_odd (h := h) (by omega)
        subst m1
        match h, z with
        | [x, y, u, v, w, t], _ =>
          have k : ∀ i ∈ [x, y, u, v, w, t], i = 1 ∨ i = 3 := fun i hi => by
            have b := a i hi
            have c := od i hi
            omega
          exact absurd (six_of (by simpa using s) (k x (by simp)) (k y (by simp)) (k u (by simp)) (k v (by simp)) (k w (by simp)) (k t (by simp))) n6
    · have s : h.sum = 32 := s
      omega
    · have s : h.sum = 64 := s
      omega
end LW
namespace LW
open PySem PySem.Spec PyProof.Rows L2 Cl
/-! ### doubled, reckoned -/
def oths (n main : Nat) : List Nat := (List.range n).filter fun m => m != main
def chkO (n : Nat) : Bool := allU n fun m => oths n m == (List.range (n - 1)).map fun p => oth m p
theorem chkO_all : (chkO 1 && chkO 2 && chkO 3 && chkO 4 && chkO 5 && chkO 6 && chkO 7 && chkO 8) = true := by decide +kernel
theorem oths_eq {n m : Nat} (h8 : n ≤ 8) (hm : m < n) : oths n m = (List.range (n - 1)).map fun p => oth m p := by
  have h := chkO_all
  simp only [Bool.and_eq_true] at h
  obtain ⟨⟨⟨⟨⟨⟨⟨a, b⟩, c⟩, d⟩, e⟩, f⟩, g⟩, i⟩ := h
  have z : n = 1 ∨ n = 2 ∨ n = 3 ∨ n = 4 ∨ n = 5 ∨ n = 6 ∨ n = 7 ∨ n = 8 := by omega
  have k : chkO n = true := by
    rcases z with z | z | z | z | z | z | z | z <;> rw [z]
    · exact a
    · exact b
    · exact c
    · exact d
    · exact e
    · exact f
    · exact g
    · exact i
  exact eq_of_beq (allU_of k m hm)
def DKS (ks : List Key) (ds : List D) (P : Nat → Prop) (b : Nat) : Prop := (∀ s : Nat, (lookD ks ds (.inl (s : Int))).isSome = true ↔ P s) ∧ ks.length ≤ b ∧ ds.length = ks.length
theorem lookD_put {κ : Type} [DecidableEq κ] {x y : κ} {d : D} : ∀ {ks : List κ} {ds : List D}, ds.length = ks.length → (lookD (putD ks ds x d).1 (putD ks ds x d).2 y).isSome = (decide (x = y) || (lookD ks ds y).isSome)
  | [], [], _ => by
    by_cases h : x = y <;> simp [putD, lookD, h]
  | k :: ks, e :: ds, h => by
    have ih := lookD_put (x := x) (y := y) (d := d) (ks := ks) (ds := ds) (by simpa using h)
    by_cases hk : k = x
    · subst hk
      by_cases hy : k = y <;> simp [putD, lookD, hy]
    · by_cases hy : k = y
      · subst hy
        simp [putD, lookD, hk]
      · simp [putD, lookD, hk, hy, ih]
  | [], _ :: _, h => by simp at h
  | _ :: _, [], h => by simp at h
theorem putD_len {κ : Type} [DecidableEq κ] {x : κ} {d : D} : ∀ {ks : List κ} {ds : List D}, ds.length = ks.length → (putD ks ds x d).1.length ≤ ks.length + 1 ∧ (putD ks ds x d).2.length = (putD ks ds x d).1.length
  | [], [], _ => by simp [putD]
  | k :: ks, e :: ds, h => by
    have ih := putD_len (x := x) (d := d) (ks := ks) (ds := ds) (by simpa using h)
    by_cases hk : k = x
    · simp [putD, hk]
      simpa using h
    · simp [putD, hk]
      omega
  | [], _ :: _, h => by simp at h
  | _ :: _, [], h => by simp at h
theorem DKS.put {ks : List Key} {ds : List D} {P : Nat → Prop} {b r : Nat} {d : D} (h : DKS ks ds P b) : DKS (putD ks ds (.inl (r : Int)) d).1 (putD ks ds (.inl (r : Int)) d).2 (fun s => s = r ∨ P s) (b + 1) := by
  obtain ⟨h1, h2, h3⟩ := h
  have l := putD_len (x := (.inl (r : Int) : Key)) (d := d) h3
  refine ⟨fun s => ?_, by omega, l.2⟩
  rw [lookD_put h3, Bool.or_eq_true, h1]
  constructor
  · rintro (z | z)
    · have z := of_decide_eq_true z
      injection z with z
      exact .inl (by omega)
    · exact .inr z
  · rintro (rfl | z)
    · exact .inl (decide_eq_true rfl)
    · exact .inr z
def putS (i : Nat) (d kd : D) (ρ : Rho) (o : Option (Option D)) : Option (Fl × Rho) := match o, keyD kd with
  | some (some (.dK ks ds)), some k => if ks.length ≤ 1000000 then some (.nx, ρ.set i (some (.dK (putD ks ds k d).1 (putD ks ds k d).2))) else none
  | _, _ => none
@[simp] theorem s_putK {i : Nat} {m k : EM D} {ρ : Rho} : SM.putK_ i m k ρ = sbK (m ρ) fun d ρ => sbK (EM.get i ρ) fun _ ρ => sbK (k ρ) fun kd ρ => putS i d kd ρ ρ[i]? := rfl
theorem putS_k {i : Nat} {d : D} {r : Int} {ks : List Key} {ds : List D} {ρ : Rho} (h : ks.length ≤ 1000000) : putS i d (.int r) ρ (some (some (.dK ks ds))) = some (.nx, ρ.set i (some (.dK (putD ks ds (.inl r) d).1 (putD ks ds (.inl r) d).2))) := by
  show (if ks.length ≤ 1000000 then some (Fl.nx, ρ.set i (some (.dK (putD ks ds (.inl r) d).1 (putD ks ds (.inl r) d).2))) else none) = _
  rw [if_pos h]
@[simp] theorem inDict_k {r : Int} {ks : List Key} {ds : List D} : inDict (.int r) (.dK ks ds) = some (.bl (lookD ks ds (.inl r)).isSome) := rfl
theorem enumD_dn : ∀ (l : List Nat) (j : Nat), enumD j (dn l) = (l.zipIdx j).map fun q => D.tup [.int (q.2 : Nat), .int (q.1 : Nat)]
  | [], _ => rfl
  | x :: l, j => by
    show D.tup [.int (j : Nat), .int (x : Nat)] :: enumD (j + 1) (dn l) = _
    rw [enumD_dn l (j + 1)]
    rfl
@[simp] theorem enumL_e {ρ : Rho} {m : EM D} : EM.enumL m ρ = bindK (m ρ) fun d => match d with
  | .lst ds => EM.ret (enumD 0 ds)
  | _ => EM.lift none := rfl
section
variable {A : Ad} {k p : Nat} {x : Option D} {C MN dh ot ow : D} {T : List Nat}
abbrev inBody (A : Ad) : SM := (SM.seq (SM.putK_ 7 (EM.ret (.bl true)) (EM.get 10))
    (SM.putK_ 7 (EM.ret (.bl true)) (EM.call (F_turned A) [none, none, none] (EM.cons (EM.op2 subI (EM.get 2) (EM.ret (.int 1))) (EM.cons (EM.get 10) (EM.cons (EM.get 8) (EM.ret [])))))))
/-- the inner loop: some firsts and the rows beside them are across -/
theorem inner {n : Nat} {ks : List Key} {ds : List D} {P : Nat → Prop} {b : Nat} {x4 x9 x10 : Option D} (h1 : 1 ≤ n) (h8 : n ≤ 8) (hp : p < n - 1) (hT : T.length ≤ 256) (h : DKS ks ds P b) (hb : b ≤ 100000) :
    ∃ (ks' : List Key) (ds' : List D) (y10 : Option D), DKS ks' ds' (fun s => P s ∨ ∃ t ∈ T, s = t ∨ s = turn (n - 1) t p) (b + 2 * T.length) ∧
      SM.each (tgN 10) (inBody A) (dn T) [some C, some MN, some (.int n), some ot, x4, some ow, some dh, some (.dK ks ds), some (.int p), x9, x10, none, none] = some (.nx, [some C, some MN, some (.int n), some ot, x4, some ow, some dh, some (.dK ks' ds'), some (.int p), x9, y10, none, none]) := by
  obtain ⟨ρ', e1, e2⟩ := each_inv (enc := fun (m : Nat) => D.int (m : Nat)) (tg := tgN 10) (body := inBody A)
    (fun i ρ => ∃ (ks' : List Key) (ds' : List D) (y : Option D), ρ = [some C, some MN, some (.int n), some ot, x4, some ow, some dh, some (.dK ks' ds'), some (.int p), x9, y, none, none] ∧ DKS ks' ds' (fun s => P s ∨ ∃ t ∈ T.take i, s = t ∨ s = turn (n - 1) t p) (b + 2 * i))
    (xs := T) (n := 0) (ρ := [some C, some MN, some (.int n), some ot, x4, some ow, some dh, some (.dK ks ds), some (.int p), x9, x10, none, none]) ⟨ks, ds, x10, rfl, ⟨fun s => by rw [h.1 s]; simp, h.2.1, h.2.2⟩⟩ (fun i r ρ hr ⟨ks', ds', y, e, g⟩ => by
      subst e
      have hi := (List.getElem?_eq_some_iff.mp hr).1
      have q := F_turned_n (A := A) (n := n - 1) (r := r) hp (by omega)
      have q2 : F_turned A [.int ((n : Int) - 1), .int r, .int p] = some (.ok (.int (turn (n - 1) r p : Nat)), [.int ((n : Int) - 1), .int r, .int p]) := by
        rw [show (n : Int) - 1 = ((n - 1 : Nat) : Int) by omega]
        exact q
      have g1 := g.put (r := r) (d := .bl true)
      have g2 := g1.put (r := turn (n - 1) r p) (d := .bl true)
      have l1 : ks'.length ≤ 1000000 := by
        have := g.2.1
        omega
      have l2 : (putD ks' ds' (.inl (r : Int)) (.bl true)).1.length ≤ 1000000 := by
        have := g1.2.1
        omega
      refine ⟨_, _, rfl, .inl ?_, ⟨_, _, some (.int r), rfl, ⟨fun s => ?_, ?_, g2.2.2⟩⟩⟩
      · simp [putS_k l1, putS_k l2, q2]
      · rw [g2.1 s, Nat.zero_add, List.take_add_one, hr]
        simp only [Nat.zero_add, List.mem_append, Option.toList_some, List.mem_singleton]
        constructor
        · rintro (z | z | z | ⟨t, z1, z2⟩)
          · exact .inr ⟨r, .inr rfl, .inr z⟩
          · exact .inr ⟨r, .inr rfl, .inl z⟩
          · exact .inl z
          · exact .inr ⟨t, .inl z1, z2⟩
        · rintro (z | ⟨t, z1 | rfl, z2⟩)
          · exact .inr (.inr (.inl z))
          · exact .inr (.inr (.inr ⟨t, z1, z2⟩))
          · rcases z2 with z2 | z2
            · exact .inr (.inl z2)
            · exact .inl z2
      · have := g2.2.1
        omega)
  obtain ⟨ks', ds', y, rfl, g⟩ := e2
  refine ⟨ks', ds', y, ?_, e1⟩
  rw [Nat.zero_add, List.take_length] at g
  exact g
end
end LW
namespace LW
open PySem PySem.Spec PyProof.Rows L2 Cl
section
variable {A : Ad}
@[simp] theorem tg2_e {i j : Nat} {a b : D} {ρ : Rho} : tgT (tgCons (tgN i) (tgCons (tgN j) tgNil)) (.tup [a, b]) ρ = some ((ρ.set i (some a)).set j (some b)) := rfl
@[simp] theorem e_slL {f : D → Option Int → Option Int → Option (List D)} {de : EM D} {dl du : EM (Option Int)} {ρ : Rho} : EM.slL f de dl du ρ = bindK (de ρ) fun d ρ => bindK (dl ρ) fun lo ρ => bindK (du ρ) fun hi => EM.lift ((f d lo hi).map D.lst) := rfl
def partK (x : D) : EM (Option Int) := match x with
  | .v (.int i) => EM.ret (some i)
  | _ => EM.lift none
@[simp] theorem partK_i {i : Int} : partK (.int i) = EM.ret (some i) := rfl
@[simp] theorem e_part {m : EM D} {ρ : Rho} : EM.part m ρ = bindK (m ρ) fun x => partK x := by
  show EM.bind _ _ _ = _
  rw [e_bind]
  cases m ρ with
  | none => rfl
  | some p =>
    obtain ⟨r, ρ1⟩ := p
    cases r with
    | ex => rfl
    | ok d => cases d with
      | v v => cases v <;> rfl
      | _ => rfl
theorem slList_n {F : List Nat} {k : Int} (h : 0 ≤ k) : slList (.lst (dn F)) none (some k) = some (dn (F.take k.toNat)) := by
  obtain ⟨j, rfl⟩ := Int.eq_ofNat_of_zero_le h
  show some (((dn F).drop (HT.sIx (dn F).length 0 none)).take (HT.sIx (dn F).length (dn F).length (some (j : Int)) - HT.sIx (dn F).length 0 none)) = _
  rw [HT.sIx_none, HT.sIx_nat, List.drop_zero, Nat.sub_zero]
  unfold dn
  rw [List.map_take, List.length_map]
  congr 1
  rw [← List.map_take, ← List.map_take]
  congr 1
  by_cases z : j ≤ F.length
  · rw [Nat.min_eq_left z, Int.toNat_natCast]
  · rw [Nat.min_eq_right (by omega), List.take_length, Int.toNat_natCast, List.take_of_length_le (by omega)]
abbrev outBody (A : Ad) : SM := (SM.seq (SM.set 9 (EM.lc [10] (EM.rng1 (EM.cons (EM.opn lenD (EM.cons (EM.get 6) (EM.ret []))) (EM.ret []))) (tgN 10) (EM.ite (EM.tru (EM.op2 eqD (EM.op2 ixSeq (EM.get 6) (EM.get 10)) (EM.get 8))) (EM.notB (EM.tru (EM.call (F_has_yes A) [none, none, none] (EM.cons (EM.op2 subI (EM.get 2) (EM.ret (.int 1))) (EM.cons (EM.get 10) (EM.cons (EM.get 8) (EM.ret []))))))) (EM.ret false)) (EM.get 10)))
    (SM.for_ (EM.seqOf (EM.lend (.l .s) (EM.slL slList (EM.get 9) (EM.ret none) (EM.part (EM.op2 subI (EM.op2 ixSeq (EM.get 5) (EM.get 8)) (EM.op2 divI (EM.op2 ixSeq (EM.get 0) (EM.get 4)) (EM.ret (.int 2)))))))) (tgN 10) (inBody A)))
theorem isN_ix {d : D} {h : List Nat} (hd : isN d h) {r : Nat} (hr : r < h.length) : ixSeq d (.int (r : Nat)) = some (.int (h[r] : Nat)) := by rcases hd with rfl | rfl <;> simp [dn_get hr]
theorem isN_len {d : D} {h : List Nat} (hd : isN d h) : lenD [d] = some (.int (h.length : Nat)) := by rcases hd with rfl | rfl <;> simp
theorem div_two {i : Int} : divI (.int i) (.int 2) = some (.int (i / 2)) := div_b (by decide) (by decide)
theorem outer_step {n p m : Nat} {c half own : List Nat} {MN dh ot : D} {ks : List Key} {ds : List D} {P : Nat → Prop} {b : Nat} {x4 x8 x9 x10 : Option D} (h1 : 2 ≤ n) (h8 : n ≤ 8) (hd : isN dh half) (ch : Coup (n - 1) half) (hp : p < n - 1) (hm : m < c.length) (hol : own.length = n - 1) (ho : ∀ q : p < own.length, c[m] / 2 ≤ own[p]) (h : DKS ks ds P b) (hb : b ≤ 100000) :
    ∃ (ks' : List Key) (ds' : List D) (y9 y10 : Option D), DKS ks' ds' (fun s => P s ∨ ∃ t ∈ (firsts (n - 1) half p).take (own.getD p 0 - c[m] / 2), s = t ∨ s = turn (n - 1) t p) (b + 600) ∧
      outBody A (([some (.ktup (dn c)), some MN, some (.int n), some ot, x4, some (.lst (dn own)), some dh, some (.dK ks ds), x8, x9, x10, none, none].set 8 (some (.int p))).set 4 (some (.int m))) = some (.nx, [some (.ktup (dn c)), some MN, some (.int n), some ot, some (.int m), some (.lst (dn own)), some dh, some (.dK ks' ds'), some (.int p), y9, y10, none, none]) := by
  have pl := pw_le (k := n - 1) (by omega)
  have po : p < own.length := by omega
  have ho := ho po
  have go : own.getD p 0 = own[p] := by rw [List.getD_eq_getElem?_getD, List.getElem?_eq_getElem po]; rfl
  have L := lc_pure (i := 10) (it := EM.rng1 (EM.cons (EM.opn lenD (EM.cons (EM.get 6) (EM.ret []))) (EM.ret []))) (tt := EM.ite (EM.tru (EM.op2 eqD (EM.op2 ixSeq (EM.get 6) (EM.get 10)) (EM.get 8))) (EM.notB (EM.tru (EM.call (F_has_yes A) [none, none, none] (EM.cons (EM.op2 subI (EM.get 2) (EM.ret (.int 1))) (EM.cons (EM.get 10) (EM.cons (EM.get 8) (EM.ret []))))))) (EM.ret false)) (te := EM.get 10)
    (enc := fun (r : Nat) => D.int (r : Nat)) (xs := List.range (pw (n - 1))) (ρ := [some (.ktup (dn c)), some MN, some (.int n), some ot, some (.int m), some (.lst (dn own)), some dh, some (.dK ks ds), some (.int p), x9, x10, none, none]) (σ := [some (.ktup (dn c)), some MN, some (.int n), some ot, some (.int m), some (.lst (dn own)), some dh, some (.dK ks ds), some (.int p), x9, x10, none, none])
    (fun s => HH half s == p && !yes (n - 1) s p) (fun r => .int (r : Nat)) (by simp [isN_len hd, ch.len, range1_nat (show pw (n - 1) ≤ 1000000000 by omega)]) (by rw [List.length_range]; omega) (fun r hr => by
      have hr := List.mem_range.mp hr
      obtain ⟨hr2, e⟩ := HH_get ch hr
      have q := F_has_yes_n (A := A) (n := n - 1) (r := r) hp (by omega)
      have q2 : F_has_yes A [.int ((n : Int) - 1), .int r, .int p] = some (.ok (.bl (yes (n - 1) r p)), [.int ((n : Int) - 1), .int r, .int p]) := by
        rw [show (n : Int) - 1 = ((n - 1 : Nat) : Int) by omega]
        exact q
      have ix := isN_ix hd hr2
      rw [← e] at ix
      generalize HH half r = v at ix
      by_cases z : v = p
      · subst z
        simp [ix, q2]
      · simp [ix, q2, z, show ¬ ((v : Int) = p) by omega]) (fun r _ _ => by simp)
  have L2 : (List.filter (fun s => HH half s == p && !yes (n - 1) s p) (List.range (pw (n - 1)))).map (fun (r : Nat) => D.int (r : Nat)) = dn (firsts (n - 1) half p) := rfl
  rw [L2] at L
  have fl : (firsts (n - 1) half p).length ≤ 256 := Nat.le_trans (List.length_filter_le ..) (by rw [List.length_range]; exact pl)
  have tl : ((firsts (n - 1) half p).take (own[p] - c[m] / 2)).length ≤ 256 := by
    rw [List.length_take]
    omega
  obtain ⟨ks', ds', y10, g1, g2⟩ := inner (A := A) (T := (firsts (n - 1) half p).take (own[p] - c[m] / 2)) (C := .ktup (dn c)) (MN := MN) (dh := dh) (ot := ot) (ow := .lst (dn own)) (x4 := some (.int m)) (x9 := some (.lst (dn (firsts (n - 1) half p)))) (x10 := x10) (by omega) h8 hp tl h hb
  refine ⟨ks', ds', some (.lst (dn (firsts (n - 1) half p))), y10, ?_, ?_⟩
  · rw [go]
    exact ⟨g1.1, by have := g1.2.1; omega, g1.2.2⟩
  · have a1 : atI (dn own) (p : Int) = some (.int (own[p] : Nat)) := dn_get po
    have a2 : atI (dn c) (m : Int) = some (.int (c[m] : Nat)) := dn_get hm
    have sl : slList (.lst (dn (firsts (n - 1) half p))) none (some ((own[p] : Int) - (c[m] : Int) / 2)) = some (dn ((firsts (n - 1) half p).take (own[p] - c[m] / 2))) := by
      rw [slList_n (by omega)]
      congr 3
      omega
    generalize firsts (n - 1) half p = F at L g2 sl
    generalize own[p] = u at a1 sl g2
    generalize c[m] = v at a2 sl g2
    simp [L, a1, a2, div_two, sl, g2]
end
end LW
namespace LW
open PySem PySem.Spec PyProof.Rows L2 Cl
def own0 (n main : Nat) (c : List Nat) : List Nat := (oths n main).map fun m => (c.getD m 0 / 2 + 1) / 2 * 2
def ownL (n main : Nat) (c : List Nat) : List Nat := (own0 n main c).set 0 ((own0 n main c).getD 0 0 + (pw (n - 2) - (own0 n main c).sum))
def TT (n main : Nat) (c half : List Nat) (p : Nat) : List Nat := (firsts (n - 1) half p).take ((ownL n main c).getD p 0 - c.getD (oth main p) 0 / 2)
section
variable {A : Ad}
theorem sum_dn {ns : List Nat} : sumD [.lst (dn ns)] = some (.int (ns.sum : Nat)) := by
  rw [dn_ints, sum_lst]
  congr 2
  induction ns with
  | nil => rfl
  | cons n ns ih =>
    rw [List.map_cons, List.sum_cons, List.sum_cons, ih]
    omega
theorem oths_get {n main p : Nat} (h8 : n ≤ 8) (hm : main < n) (hp : p < n - 1) : (oths n main)[p]? = some (oth main p) := by
  rw [oths_eq h8 hm, List.getElem?_map, List.getElem?_range hp]
  rfl
theorem oths_len {n main : Nat} (h8 : n ≤ 8) (hm : main < n) : (oths n main).length = n - 1 := by rw [oths_eq h8 hm]; simp
def augK (i : Nat) (new kd : D) (ρ : Rho) (o : Option (Option D)) : Option (Fl × Rho) := match o, kd with
  | some (some (.lst ds)), .v (.int k) => (ixN ds.length k).map fun j => (.nx, ρ.set i (some (.lst (ds.set j new))))
  | _, _ => none
@[simp] theorem augK_l {i : Nat} {d : D} {ds : List D} {k : Int} {ρ : Rho} : augK i d (.int k) ρ (some (some (.lst ds))) = (ixN ds.length k).map fun j => (.nx, ρ.set i (some (.lst (ds.set j d)))) := rfl
@[simp] theorem s_augL {f : D → D → Option D} {i : Nat} {k m : EM D} {ρ : Rho} : SM.augL f i k m ρ = sbK (EM.get i ρ) fun _ ρ => sbK (k ρ) fun kd ρ => sbK (bindK (EM.get i ρ) fun l => EM.lift (ixSeq l kd)) fun old ρ => sbK (m ρ) fun d ρ => sbK (EM.lift (f old d) ρ) fun new ρ => augK i new kd ρ ρ[i]? := rfl
abbrev fndBody (A : Ad) : SM := (SM.seq (SM.set 12 (EM.call (F_without A) [none, none, none] (EM.cons (EM.get 2) (EM.cons (EM.get 10) (EM.cons (EM.get 1) (EM.ret []))))))
    (SM.drop (EM.modL 11 appendF (EM.cons (EM.lend .s (EM.ite (EM.tru (EM.op2 inDict (EM.get 12) (EM.get 7))) (EM.get 1) (EM.op2 ixSeq (EM.get 3) (EM.op2 ixSeq (EM.get 6) (EM.get 12))))) (EM.ret [])))))
theorem F_doubled_n {n main : Nat} {c half : List Nat} {f : FD} {dh : D} (h3 : 3 ≤ n) (h8 : n ≤ 8) (hm : main < n) (hc : c.length = n) (hb : ∀ x ∈ c, x ≤ 256) (hs : (own0 n main c).sum ≤ pw (n - 2))
    (hf : f [.ktup (dn (ownL n main c))] = some (.ok dh, [.ktup (dn (ownL n main c))])) (hd : isN dh half) (ch : Coup (n - 1) half) :
    F_doubled A f [.ktup (dn c), .int main] = some (.ok (.ktup (dn ((List.range (pw n)).map (found n main half (TT n main c half))))), [.ktup (dn c), .int main]) := by
  have pl := pw_le h8
  have ol := oths_len h8 hm
  have imm_h : immO .s dh = true := by rcases hd with rfl | rfl <;> simp
  have L1 := lc_pure (i := 4) (it := EM.rng1 (EM.cons (EM.get 2) (EM.ret []))) (tt := EM.tru (EM.op2 neD (EM.get 4) (EM.get 1))) (te := EM.get 4) (enc := fun (r : Nat) => D.int (r : Nat)) (xs := List.range n)
    (ρ := [some (.ktup (dn c)), some (.int main), some (.int n), none, none, none, none, none, none, none, none, none, none]) (σ := [some (.ktup (dn c)), some (.int main), some (.int n), none, none, none, none, none, none, none, none, none, none])
    (fun m => m != main) (fun r => .int (r : Nat)) (by simp [range1_nat (show n ≤ 1000000000 by omega)]) (by rw [List.length_range]; omega) (fun r _ => by
      by_cases e : r = main
      · subst e
        simp
      · simp [e, show ¬ ((r : Int) = main) by omega]) (fun r _ _ => by simp)
  have L1' : (List.filter (fun m => m != main) (List.range n)).map (fun (r : Nat) => D.int (r : Nat)) = dn (oths n main) := rfl
  rw [L1'] at L1
  have om : ∀ m ∈ oths n main, m < n := fun m h => List.mem_range.mp (List.mem_filter.mp h).1
  have L2 := lc_all (i := 4) (it := EM.seqOf (EM.get 3)) (te := EM.op2 mulI (EM.op2 divI (EM.op2 addI (EM.op2 divI (EM.op2 ixSeq (EM.get 0) (EM.get 4)) (EM.ret (.int 2))) (EM.ret (.int 1))) (EM.ret (.int 2))) (EM.ret (.int 2))) (enc := fun (r : Nat) => D.int (r : Nat)) (xs := oths n main)
    (ρ := [some (.ktup (dn c)), some (.int main), some (.int n), some (.lst (dn (oths n main))), none, none, none, none, none, none, none, none, none]) (σ := [some (.ktup (dn c)), some (.int main), some (.int n), some (.lst (dn (oths n main))), none, none, none, none, none, none, none, none, none])
    (fun m => .int (((c.getD m 0 / 2 + 1) / 2 * 2 : Nat) : Int)) (by simp [dn]) (by rw [ol]; omega) (fun m hm' => by
      have q : m < c.length := by
        rw [hc]
        exact om m hm'
      have a := dn_get q
      have b := hb _ (List.getElem_mem q)
      have e : c.getD m 0 = c[m] := by rw [List.getD_eq_getElem?_getD, List.getElem?_eq_getElem q]; rfl
      rw [e]
      generalize c[m] = v at a b
      have mu : mulI (.int (((v : Int) / 2 + 1) / 2)) (.int 2) = some (.int (((v : Int) / 2 + 1) / 2 * 2)) := mul_b (by omega) (by decide)
      simp [a, div_two, mu])
  have L2' : (oths n main).map (fun m => D.int (((c.getD m 0 / 2 + 1) / 2 * 2 : Nat) : Int)) = dn (own0 n main c) := by simp [dn, own0, Function.comp_def]
  rw [L2'] at L2
  have l0 : (own0 n main c).length = n - 1 := by unfold own0; rw [List.length_map, ol]
  have lo : (ownL n main c).length = n - 1 := by unfold ownL; rw [List.length_set, l0]
  have a0 : atI (dn (own0 n main c)) 0 = some (.int ((own0 n main c).getD 0 0 : Nat)) := by
    have q : 0 < (own0 n main c).length := by omega
    have := dn_get q
    rw [List.getD_eq_getElem?_getD, List.getElem?_eq_getElem q]
    exact this
  have i0 : ixN (n - 1) 0 = some 0 := ixN_nat (k := 0) (by omega)
  have p2 : atI t_POWERS ((n : Int) - 2) = some (.int (pw (n - 2) : Nat)) := by
    rw [show (n : Int) - 2 = ((n - 2 : Nat) : Int) by omega]
    exact pow_at (by omega)
  have so : (dn (own0 n main c)).set 0 (.int (((own0 n main c).getD 0 0 : Nat) + (((pw (n - 2) : Nat) : Int) - ((own0 n main c).sum : Nat)))) = dn (ownL n main c) := by
    unfold ownL dn
    rw [List.map_set]
    congr 3
    omega
  have ow : ∀ p (h : p < (ownL n main c).length) (q : oth main p < c.length), c[oth main p] / 2 ≤ (ownL n main c)[p] := fun p h q => by
    have hp : p < n - 1 := by omega
    have e : c.getD (oth main p) 0 = c[oth main p] := by rw [List.getD_eq_getElem?_getD, List.getElem?_eq_getElem q]; rfl
    have g : (own0 n main c)[p]? = some ((c[oth main p] / 2 + 1) / 2 * 2) := by
      unfold own0
      rw [List.getElem?_map, oths_get h8 hm hp]
      show some ((c.getD (oth main p) 0 / 2 + 1) / 2 * 2) = _
      rw [e]
    have g2 : (ownL n main c)[p]? = some (ownL n main c)[p] := List.getElem?_eq_getElem h
    by_cases z : p = 0
    · subst z
      have : (ownL n main c)[0]? = some ((own0 n main c).getD 0 0 + (pw (n - 2) - (own0 n main c).sum)) := by
        unfold ownL
        rw [List.getElem?_set_self (by omega)]
      rw [this, List.getD_eq_getElem?_getD, g] at g2
      have g3 := Option.some.inj g2
      simp at g3
      omega
    · have : (ownL n main c)[p]? = some ((c[oth main p] / 2 + 1) / 2 * 2) := by
        unfold ownL
        rw [List.getElem?_set_ne (fun e => z e.symm), g]
      rw [this] at g2
      have g3 := Option.some.inj g2
      omega
  -- the places
  obtain ⟨ρ1, e1, e2⟩ := each_inv (enc := fun (q : Nat × Nat) => D.tup [.int (q.2 : Nat), .int (q.1 : Nat)]) (tg := tgT (tgCons (tgN 8) (tgCons (tgN 4) (tgNil)))) (body := outBody A)
    (fun i ρ => ∃ (ks : List Key) (ds : List D) (x4 x8 x9 x10 : Option D), ρ = [some (.ktup (dn c)), some (.int main), some (.int n), some (.lst (dn (oths n main))), x4, some (.lst (dn (ownL n main c))), some dh, some (.dK ks ds), x8, x9, x10, none, none] ∧ DKS ks ds (fun s => ∃ p, p < i ∧ ∃ t ∈ TT n main c half p, s = t ∨ s = turn (n - 1) t p) (600 * i))
    (xs := (oths n main).zipIdx 0) (n := 0) (ρ := [some (.ktup (dn c)), some (.int main), some (.int n), some (.lst (dn (oths n main))), none, some (.lst (dn (ownL n main c))), some dh, some (.dK [] []), none, none, none, none, none]) ⟨[], [], none, none, none, none, rfl, ⟨fun s => by simp [lookD], by simp, rfl⟩⟩ (fun i q ρ hq ⟨ks, ds, x4, x8, x9, x10, e, g⟩ => by
      subst e
      have hi : i < n - 1 := by
        have := (List.getElem?_eq_some_iff.mp hq).1
        rw [List.length_zipIdx, ol] at this
        exact this
      rw [List.getElem?_zipIdx, oths_get h8 hm hi] at hq
      have hq : (oth main i, 0 + i) = q := Option.some.inj hq
      subst hq
      have om2 : oth main i < c.length := by
        rw [hc]
        exact oth_lt hm hi
      have e : c.getD (oth main i) 0 = c[oth main i] := by rw [List.getD_eq_getElem?_getD, List.getElem?_eq_getElem om2]; rfl
      obtain ⟨ks', ds', y9, y10, g1, g2⟩ := outer_step (A := A) (MN := .int main) (ot := .lst (dn (oths n main))) (x4 := x4) (x8 := x8) (x9 := x9) (x10 := x10) (p := i) (m := oth main i) (by omega) h8 hd ch hi om2 lo (fun q => ow i q om2) g (by omega)
      refine ⟨_, _, rfl, .inl (by simpa using g2), ⟨ks', ds', some (.int (oth main i : Nat)), some (.int i), y9, y10, by simp, ⟨fun s => ?_, by have := g1.2.1; omega, g1.2.2⟩⟩⟩
      rw [g1.1 s, Nat.zero_add]
      unfold TT
      constructor
      · rintro (⟨p, z1, z2⟩ | z)
        · exact ⟨p, by omega, z2⟩
        · exact ⟨i, by omega, by rw [e]; exact z⟩
      · rintro ⟨p, z1, z2⟩
        by_cases z : p = i
        · subst z
          rw [e] at z2
          exact .inr z2
        · exact .inl ⟨p, by omega, z2⟩)
  obtain ⟨ks, ds, x4, x8, x9, x10, rfl, g⟩ := e2
  rw [List.length_zipIdx, ol, Nat.zero_add] at g
  have look : ∀ s, s < pw (n - 1) → (lookD ks ds (.inl (s : Int))).isSome = acr (n - 1) half (TT n main c half) s := fun s hs => by
    rw [Bool.eq_iff_iff, g.1 s]
    have hl := HH_lt ch hs
    have b := bits (by omega) hs hl
    have su : ∀ {p t : Nat}, t ∈ TT n main c half p → t < pw (n - 1) ∧ HH half t = p ∧ yes (n - 1) t p = false := fun h => mem_firsts.mp ((List.take_sublist _ _).subset h)
    unfold acr
    rw [Bool.or_eq_true, List.contains_iff_mem, List.contains_iff_mem]
    constructor
    · rintro ⟨p, z1, t, z2, z3⟩
      have w := su z2
      rcases z3 with rfl | rfl
      · rw [w.2.1]
        exact .inl z2
      · have q := HH_turn ch w.1
        rw [w.2.1] at q
        rw [q, (bits (by omega) w.1 z1).tt]
        exact .inr z2
    · rintro (z | z)
      · exact ⟨_, hl, s, z, .inl rfl⟩
      · exact ⟨_, hl, _, z, .inr b.tt.symm⟩
  obtain ⟨ρ2, u1, u2⟩ := each_inv (enc := fun (m : Nat) => D.int (m : Nat)) (tg := tgN 10) (body := fndBody A)
    (fun j ρ => ∃ (x10 x12 : Option D), ρ = [some (.ktup (dn c)), some (.int main), some (.int n), some (.lst (dn (oths n main))), x4, some (.lst (dn (ownL n main c))), some dh, some (.dK ks ds), x8, x9, x10, some (.lst (dn ((List.range j).map (found n main half (TT n main c half))))), x12])
    (xs := List.range (pw n)) (n := 0) (ρ := [some (.ktup (dn c)), some (.int main), some (.int n), some (.lst (dn (oths n main))), x4, some (.lst (dn (ownL n main c))), some dh, some (.dK ks ds), x8, x9, x10, some (.lst (dn [])), none]) ⟨x10, none, rfl⟩ (fun i r ρ hr ⟨y10, y12, e⟩ => by
      subst e
      have hi := (List.getElem?_eq_some_iff.mp hr).1
      rw [List.length_range] at hi
      rw [List.getElem?_range hi] at hr
      have hr := Option.some.inj hr
      subst hr
      have b := bits h8 hi hm
      have lk := look _ b.w
      have wq := F_without_n (A := A) hm h8 (show i ≤ 1000000 by omega)
      obtain ⟨hw, hv⟩ := HH_get ch b.w
      have ix := isN_ix hd hw
      rw [← hv] at ix
      have hl := HH_lt ch b.w
      have ix2 : atI (dn (oths n main)) ((HH half (wo n i main) : Nat) : Int) = some (.int (oth main (HH half (wo n i main)) : Nat)) := by
        have q : HH half (wo n i main) < (oths n main).length := by omega
        rw [dn_get q]
        have z := oths_get h8 hm hl
        rw [List.getElem?_eq_getElem q] at z
        rw [Option.some.inj z]
      have ap : ∀ v : Nat, appendF [D.int v] (dn ((List.range i).map (found n main half (TT n main c half)))) = some (.non, dn ((List.range i).map (found n main half (TT n main c half)) ++ [v])) := fun v => by
        rw [app_n (by rw [dn_len]; simp; omega), dn_app]
      have fin : (List.range i).map (found n main half (TT n main c half)) ++ [found n main half (TT n main c half) i] = (List.range (0 + i + 1)).map (found n main half (TT n main c half)) := by
        rw [Nat.zero_add, List.range_succ, List.map_append]
        rfl
      refine ⟨_, _, rfl, .inl ?_, ⟨some (.int i), some (.int (wo n i main : Nat)), by rw [← fin]⟩⟩
      rw [Nat.zero_add]
      unfold found at ap ⊢
      cases e : acr (n - 1) half (TT n main c half) (wo n i main) with
      | true =>
        rw [e] at lk
        simp [wq, lk, ap]
      | false =>
        rw [e] at lk
        simp [wq, lk, ix, ix2, ap])
  obtain ⟨y10, y12, rfl⟩ := u2
  rw [List.length_range, Nat.zero_add] at u1
  have e : m_doubled A f = SM.seq (SM.set 2 (EM.opn lenD (EM.cons (EM.get 0) (EM.ret []))))
    (SM.seq (SM.set 3 (EM.lc [4] (EM.rng1 (EM.cons (EM.get 2) (EM.ret []))) (tgN 4) (EM.tru (EM.op2 neD (EM.get 4) (EM.get 1))) (EM.get 4)))
    (SM.seq (SM.set 5 (EM.lc [4] (EM.seqOf (EM.get 3)) (tgN 4) (EM.ret true) (EM.op2 mulI (EM.op2 divI (EM.op2 addI (EM.op2 divI (EM.op2 ixSeq (EM.get 0) (EM.get 4)) (EM.ret (.int 2))) (EM.ret (.int 1))) (EM.ret (.int 2))) (EM.ret (.int 2)))))
    (SM.seq (SM.augL addI 5 (EM.ret (.int 0)) (EM.lend .s (EM.op2 subI (EM.op2 ixSeq (EM.ret (.ktup t_POWERS)) (EM.op2 subI (EM.get 2) (EM.ret (.int 2)))) (EM.opn sumD (EM.cons (EM.get 5) (EM.ret []))))))
    (SM.seq (SM.set 6 (EM.lend .s (EM.call f [none] (EM.cons (EM.opn tupleK (EM.cons (EM.get 5) (EM.ret []))) (EM.ret [])))))
    (SM.seq (SM.set 7 (EM.ret (.dK [] [])))
    (SM.seq (SM.for_ (EM.enumL (EM.get 3)) (tgT (tgCons (tgN 8) (tgCons (tgN 4) (tgNil)))) (outBody A))
    (SM.seq (SM.set 11 (EM.opl lit4 (EM.ret [])))
    (SM.seq (SM.for_ (EM.rng1 (EM.cons (EM.op2 ixSeq (EM.ret (.ktup t_POWERS)) (EM.get 2)) (EM.ret []))) (tgN 10) (fndBody A))
    (SM.ret (EM.lend .s (EM.opn tupleK (EM.cons (EM.get 11) (EM.ret []))))))))))))) := rfl
  have e1' := e1
  rw [← enumD_dn] at e1'
  have pn : atI t_POWERS (n : Int) = some (.int (pw n : Nat)) := pow_at h8
  have u1' : SM.each (tgN 10) (fndBody A) ((List.range (pw n)).map fun (m : Nat) => D.int (m : Nat)) [some (.ktup (dn c)), some (.int main), some (.int n), some (.lst (dn (oths n main))), x4, some (.lst (dn (ownL n main c))), some dh, some (.dK ks ds), x8, x9, x10, some (.lst []), none] = _ := u1
  obtain ⟨v0, hv⟩ : ∃ v, (own0 n main c).getD 0 0 = v := ⟨_, rfl⟩
  rw [hv] at a0 so
  rw [F_doubled, runF_def, e]
  simp [hc, L1, L2, a0, i0, l0, p2, sum_dn, so, hf, imm_h, e1', lit4, pn, range1_nat (show pw n ≤ 1000000000 by omega), u1']
end
end LW
namespace LW
open PySem PySem.Spec PyProof.Rows L2 Cl
theorem getD_get {c : List Nat} {m : Nat} (h : m < c.length) : c.getD m 0 = c[m] := by rw [List.getD_eq_getElem?_getD, List.getElem?_eq_getElem h]; rfl
theorem range_get (c : List Nat) : (List.range c.length).map (fun m => c.getD m 0) = c := by
  apply List.ext_getElem
  · simp
  · intro i h1 h2
    simp [h2]
theorem oths_perm {n m : Nat} (hm : m < n) : (List.range n).Perm (m :: oths n m) := by
  refine (List.perm_ext_iff_of_nodup List.nodup_range (List.nodup_cons.mpr ⟨fun h => ?_, List.Nodup.sublist List.filter_sublist List.nodup_range⟩)).mpr fun a => ?_
  · have := (List.mem_filter.mp h).2
    simp at this
  · simp only [List.mem_range, List.mem_cons, oths, List.mem_filter, bne_iff_ne]
    constructor
    · intro h
      by_cases e : a = m
      · exact .inl e
      · exact .inr ⟨h, e⟩
    · rintro (rfl | ⟨h, _⟩)
      · exact hm
      · exact h
theorem sum_oths {n m : Nat} (g : Nat → Nat) (hm : m < n) : ((List.range n).map g).sum = g m + ((oths n m).map g).sum := by
  have := ((oths_perm hm).map g).sum_nat
  rw [this, List.map_cons, List.sum_cons]
theorem sum_counts {n : Nat} : ∀ {l : List Nat}, (∀ x ∈ l, x < n) → ((List.range n).map fun m => l.count m).sum = l.length
  | [], _ => by
    have e : ∀ k : Nat, ((List.range k).map fun m => ([] : List Nat).count m).sum = 0 := fun k => by
      induction k with
      | zero => rfl
      | succ k ih => rw [List.range_succ, List.map_append, List.sum_append, ih]; simp
    exact e n
  | x :: l, h => by
    have ih := sum_counts (n := n) (l := l) fun y hy => h y (List.mem_cons_of_mem _ hy)
    have hx := h x List.mem_cons_self
    have a := sum_oths (fun m => (x :: l).count m) hx
    have b := sum_oths (fun m => l.count m) hx
    rw [ih] at b
    rw [a, List.count_cons_self, List.length_cons, b]
    have e : (oths n x).map (fun m => (x :: l).count m) = (oths n x).map fun m => l.count m := List.map_congr_left fun m hm => by
      have := (List.mem_filter.mp hm).2
      have ne : m ≠ x := by simpa using this
      rw [List.count_cons_of_ne (fun z => ne z.symm)]
    rw [e]
    omega
structure Pre (n : Nat) (c : List Nat) : Prop where
  len : c.length = n
  ev : ∀ x ∈ c, x % 2 = 0
  sum : c.sum = pw (n - 1)
theorem sum_half : ∀ {c : List Nat}, (∀ x ∈ c, x % 2 = 0) → c.sum = 2 * (c.map fun x => x / 2).sum
  | [], _ => rfl
  | x :: c, h => by
    have ih := sum_half (c := c) fun y hy => h y (List.mem_cons_of_mem _ hy)
    have := h x List.mem_cons_self
    rw [List.map_cons, List.sum_cons, List.sum_cons, ih]
    omega
theorem le_sum : ∀ {c : List Nat} {x : Nat}, x ∈ c → x ≤ c.sum
  | y :: c, x, h => by
    rw [List.sum_cons]
    rcases List.mem_cons.mp h with rfl | h
    · omega
    · have := le_sum h
      omega
theorem sum_g : ∀ {c : List Nat}, (c.map fun x => (x / 2 + 1) / 2 * 2).sum = (c.map fun x => x / 2).sum + odd (c.map fun x => x / 2)
  | [] => rfl
  | x :: c => by
    have ih := sum_g (c := c)
    rw [List.map_cons, List.map_cons, List.sum_cons, List.sum_cons, odd_cons, ih]
    omega
section
variable {n main : Nat} {c : List Nat}
theorem own0_sum (P : Pre n c) (hm : main < n) : (own0 n main c).sum + (c.getD main 0 / 2 + 1) / 2 * 2 = (c.map fun x => x / 2).sum + odd (c.map fun x => x / 2) := by
  have a := sum_oths (fun m => (c.getD m 0 / 2 + 1) / 2 * 2) hm
  have e : ((List.range n).map fun m => (c.getD m 0 / 2 + 1) / 2 * 2) = c.map fun x => (x / 2 + 1) / 2 * 2 := by
    have r := range_get c
    rw [P.len] at r
    conv => rhs; rw [← r]
    rw [List.map_map]
    rfl
  rw [e, sum_g] at a
  unfold own0
  omega
/-- the others' own, and what is left to give -/
theorem own0_le (P : Pre n c) (h3 : 3 ≤ n) (h8 : n ≤ 8) (hm : main < n) (mx : ∀ x ∈ c, x ≤ c.getD main 0) (n4 : c ≠ [2, 2, 2, 2]) (n6 : ¬ six (c.map fun x => x / 2)) : (own0 n main c).sum ≤ pw (n - 2) := by
  have a := own0_sum P hm
  have hs := sum_half P.ev
  rw [P.sum, show n - 1 = (n - 2) + 1 by omega, pw_succ] at hs
  have l : (c.map fun x => x / 2).length = n := by rw [List.length_map, P.len]
  have q : main < c.length := by rw [P.len]; exact hm
  have k := key (h := c.map fun x => x / 2) (M := c.getD main 0 / 2) (by omega) (by omega) (by rw [l]; omega) (List.mem_map.mpr ⟨c.getD main 0, by rw [getD_get q]; exact List.getElem_mem q, rfl⟩) (fun x hx => by
    obtain ⟨y, hy, rfl⟩ := List.mem_map.mp hx
    have := mx y hy
    omega) (fun z => n4 ?_) n6
  · omega
  · have z2 : ∀ (c : List Nat) (h : List Nat), (∀ x ∈ c, x % 2 = 0) → (c.map fun x => x / 2) = h → c = h.map fun x => 2 * x := by
      intro c
      induction c with
      | nil => intro h _ e; rw [← e]; rfl
      | cons x c ih =>
        intro h ev e
        rw [← e, List.map_cons, List.map_cons, ← ih _ (fun y hy => ev y (List.mem_cons_of_mem _ hy)) rfl]
        have := ev x List.mem_cons_self
        congr 1
        omega
    exact z2 c _ P.ev z
theorem own_ok (P : Pre n c) (h3 : 3 ≤ n) (h8 : n ≤ 8) (hm : main < n) (hs : (own0 n main c).sum ≤ pw (n - 2)) : Pre (n - 1) (ownL n main c) := by
  have ol := oths_len h8 hm
  have l0 : (own0 n main c).length = n - 1 := by unfold own0; rw [List.length_map, ol]
  have e0 : ∀ x ∈ own0 n main c, x % 2 = 0 := fun x hx => by
    obtain ⟨m, _, rfl⟩ := List.mem_map.mp hx
    omega
  have es : (own0 n main c).sum % 2 = 0 := by
    have := sum_half e0
    omega
  have ep : pw (n - 2) % 2 = 0 := by
    rw [show n - 2 = (n - 3) + 1 by omega, pw_succ]
    omega
  obtain ⟨x, r, e⟩ : ∃ x r, own0 n main c = x :: r := by
    cases q : own0 n main c with
    | nil => rw [q] at l0; simp at l0; omega
    | cons x r => exact ⟨x, r, rfl⟩
  have oe : ownL n main c = (x + (pw (n - 2) - (own0 n main c).sum)) :: r := by
    unfold ownL
    rw [e]
    rfl
  have xe := e0 x (by rw [e]; exact List.mem_cons_self)
  refine ⟨?_, fun y hy => ?_, ?_⟩
  · rw [oe, List.length_cons]
    rw [e, List.length_cons] at l0
    exact l0
  · rw [oe] at hy
    rcases List.mem_cons.mp hy with rfl | hy
    · omega
    · exact e0 y (by rw [e]; exact List.mem_cons_of_mem _ hy)
  · rw [oe, List.sum_cons, show n - 1 - 1 = n - 2 by omega]
    have : (own0 n main c).sum = x + r.sum := by rw [e, List.sum_cons]
    omega
theorem own_ge (P : Pre n c) (h8 : n ≤ 8) (hm : main < n) {p : Nat} (hp : p < n - 1) : c.getD (oth main p) 0 / 2 ≤ (ownL n main c).getD p 0 := by
  have ol := oths_len h8 hm
  have l0 : (own0 n main c).length = n - 1 := by unfold own0; rw [List.length_map, ol]
  have g : (own0 n main c)[p]? = some ((c.getD (oth main p) 0 / 2 + 1) / 2 * 2) := by
    unfold own0
    rw [List.getElem?_map, oths_get h8 hm hp]
    rfl
  rw [List.getD_eq_getElem?_getD (l := ownL n main c)]
  unfold ownL
  by_cases z : p = 0
  · subst z
    rw [List.getElem?_set_self (by omega), List.getD_eq_getElem?_getD (l := own0 n main c), g]
    simp
    omega
  · rw [List.getElem?_set_ne (fun e => z e.symm), g]
    simp
    omega
/-- what the doubled coupling counts -/
theorem doub_all (P : Pre n c) (h3 : 3 ≤ n) (h8 : n ≤ 8) (hm : main < n) {half : List Nat} (ch : Coup (n - 1) half) (hc : ∀ p, p < n - 1 → half.count p = 2 * (ownL n main c).getD p 0) :
    ∀ m, m < n → ((List.range (pw n)).map (found n main half (TT n main c half))).count m = 2 * c.getD m 0 := by
  have cp := doub_coup (T := TT n main c half) (by omega) h8 hm ch
  have ev : ∀ m, m < n → c.getD m 0 % 2 = 0 := fun m h => by
    have q : m < c.length := by rw [P.len]; exact h
    rw [getD_get q]
    exact P.ev _ (List.getElem_mem q)
  have ot : ∀ p, p < n - 1 → ((List.range (pw n)).map (found n main half (TT n main c half))).count (oth main p) = 2 * c.getD (oth main p) 0 := fun p hp => by
    have a := doub_count (T := TT n main c half) (by omega) h8 hm ch hp (List.take_sublist _ _)
    have b := firsts_len (k := n - 1) (by omega) ch hp
    have d := hc p hp
    have e := own_ge P h8 hm hp
    have f := ev _ (oth_lt hm hp)
    have l : (TT n main c half p).length = (ownL n main c).getD p 0 - c.getD (oth main p) 0 / 2 := by
      unfold TT
      rw [List.length_take]
      omega
    omega
  have s := sum_counts cp.lt
  rw [cp.len, sum_oths _ hm] at s
  have s2 : ((List.range n).map fun m => c.getD m 0).sum = pw (n - 1) := by
    have r := range_get c
    rw [P.len] at r
    rw [r, P.sum]
  rw [sum_oths _ hm] at s2
  have e2 : ((oths n main).map fun m => ((List.range (pw n)).map (found n main half (TT n main c half))).count m).sum = 2 * ((oths n main).map fun m => c.getD m 0).sum := by
    have : ∀ l : List Nat, (∀ m ∈ l, ((List.range (pw n)).map (found n main half (TT n main c half))).count m = 2 * c.getD m 0) → (l.map fun m => ((List.range (pw n)).map (found n main half (TT n main c half))).count m).sum = 2 * (l.map fun m => c.getD m 0).sum := by
      intro l
      induction l with
      | nil => intro _; rfl
      | cons x l ih =>
        intro h
        rw [List.map_cons, List.map_cons, List.sum_cons, List.sum_cons, ih fun m hm => h m (List.mem_cons_of_mem _ hm), h x List.mem_cons_self]
        omega
    refine this _ fun m hm2 => ?_
    rw [oths_eq h8 hm] at hm2
    obtain ⟨p, hp, rfl⟩ := List.mem_map.mp hm2
    exact ot p (List.mem_range.mp hp)
  have pn : pw n = 2 * pw (n - 1) := by
    rw [← pw_succ]
    congr 1
    omega
  intro m hmn
  by_cases z : m = main
  · subst z
    omega
  · have : m ∈ oths n main := List.mem_filter.mpr ⟨List.mem_range.mpr hmn, by simpa using z⟩
    rw [oths_eq h8 hm] at this
    obtain ⟨p, hp, rfl⟩ := List.mem_map.mp this
    exact ot p (List.mem_range.mp hp)
end
end LW
namespace LW
open PySem PySem.Spec PyProof.Rows L2 Cl
/-! ### six nearly alike -/
def FOURL : List Nat := [3, 3, 1, 1, 0, 0, 1, 1, 2, 2, 2, 2, 0, 0, 3, 3]
def H1 : List Nat := [0, 0, 2, 2, 1, 1, 2, 2, 0, 3, 0, 3, 1, 1, 4, 4, 0, 0, 2, 2, 1, 1, 2, 2, 0, 3, 0, 3, 1, 1, 4, 4]
def H2 : List Nat := [4, 4, 0, 2, 0, 1, 0, 2, 3, 3, 3, 3, 0, 1, 4, 4, 4, 4, 0, 2, 0, 1, 0, 2, 3, 3, 3, 3, 0, 1, 4, 4]
theorem H1_eq : (List.range (pw 5)).map (found 5 0 FOURL (TT 5 0 [4, 4, 4, 2, 2] FOURL)) = H1 := by decide +kernel
theorem H2_eq : (List.range (pw 5)).map (found 5 0 FOURL (TT 5 0 [4, 2, 2, 4, 4] FOURL)) = H2 := by decide +kernel
def allL (f : Nat → Nat → Bool) : Nat → List Nat → Bool
  | _, [] => true
  | i, x :: xs => f i x && allL f (i + 1) xs
/-- a coupling, by reckoning -/
def coupB (n : Nat) (h : List Nat) : Bool := Nat.beq h.length (pw n) && allL (fun r m => Nat.blt m n && (match h[turnB n r m]? with
  | some x => Nat.beq x m
  | none => false)) 0 h
theorem allL_of {f : Nat → Nat → Bool} : ∀ {xs : List Nat} {i : Nat}, allL f i xs = true → ∀ r (h : r < xs.length), f (i + r) xs[r] = true
  | [], _, _, r, h => absurd h (Nat.not_lt_zero _)
  | x :: xs, i, e, r, h => by
    have e2 : (f i x && allL f (i + 1) xs) = true := e
    rw [Bool.and_eq_true] at e2
    cases r with
    | zero => exact e2.1
    | succ r =>
      have := allL_of e2.2 r (by simpa using h)
      rw [show i + (r + 1) = i + 1 + r by omega]
      exact this
theorem coup_of {n : Nat} {h : List Nat} (e : coupB n h = true) : Coup n h := by
  unfold coupB at e
  rw [Bool.and_eq_true] at e
  have all := allL_of e.2
  refine ⟨Nat.eq_of_beq_eq_true e.1, fun m hm => ?_, fun r hr => ?_⟩
  · obtain ⟨r, hr, rfl⟩ := List.getElem_of_mem hm
    have a := all r hr
    rw [Bool.and_eq_true] at a
    exact blt_lt a.1
  · have a := all r hr
    rw [Bool.and_eq_true, Nat.zero_add] at a
    have b := a.2
    rw [turnB_eq] at b
    cases q : h[turn n r h[r]]? with
    | none =>
      rw [q] at b
      cases b
    | some x =>
      rw [q] at b
      rw [Nat.eq_of_beq_eq_true b]
def six0 : List Nat := [0, 1, 3, 3, 2, 2, 3, 3, 1, 4, 1, 4, 2, 2, 5, 5, 0, 1, 3, 3, 2, 2, 3, 3, 1, 4, 1, 4, 2, 2, 5, 5, 0, 3, 5, 5, 1, 3, 1, 2, 4, 4, 4, 4, 5, 5, 1, 2, 0, 3, 5, 5, 1, 3, 1, 2, 4, 4, 4, 4, 5, 5, 1, 2]
def six1 : List Nat := [1, 0, 3, 3, 2, 2, 3, 3, 0, 4, 0, 4, 2, 2, 5, 5, 1, 3, 5, 5, 0, 3, 0, 2, 4, 4, 4, 4, 5, 5, 0, 2, 1, 0, 3, 3, 2, 2, 3, 3, 0, 4, 0, 4, 2, 2, 5, 5, 1, 3, 5, 5, 0, 3, 0, 2, 4, 4, 4, 4, 5, 5, 0, 2]
def six2 : List Nat := [2, 0, 3, 3, 1, 1, 3, 3, 2, 3, 5, 5, 0, 3, 0, 1, 0, 4, 0, 4, 1, 1, 5, 5, 4, 4, 4, 4, 5, 5, 0, 1, 2, 0, 3, 3, 1, 1, 3, 3, 2, 3, 5, 5, 0, 3, 0, 1, 0, 4, 0, 4, 1, 1, 5, 5, 4, 4, 4, 4, 5, 5, 0, 1]
def six3 : List Nat := [3, 0, 2, 2, 3, 2, 5, 5, 1, 1, 2, 2, 0, 2, 0, 1, 0, 4, 0, 4, 4, 4, 4, 4, 1, 1, 5, 5, 5, 5, 0, 1, 3, 0, 2, 2, 3, 2, 5, 5, 1, 1, 2, 2, 0, 2, 0, 1, 0, 4, 0, 4, 4, 4, 4, 4, 1, 1, 5, 5, 5, 5, 0, 1]
def six4 : List Nat := [4, 0, 4, 2, 2, 2, 5, 5, 1, 1, 0, 2, 2, 2, 0, 1, 0, 3, 3, 3, 0, 3, 3, 3, 1, 1, 5, 5, 5, 5, 0, 1, 4, 0, 4, 2, 2, 2, 5, 5, 1, 1, 0, 2, 2, 2, 0, 1, 0, 3, 3, 3, 0, 3, 3, 3, 1, 1, 5, 5, 5, 5, 0, 1]
def six5 : List Nat := [5, 5, 0, 2, 2, 4, 2, 4, 1, 0, 1, 2, 2, 0, 2, 1, 0, 3, 3, 3, 0, 3, 3, 3, 1, 4, 1, 4, 4, 0, 4, 1, 5, 5, 0, 2, 2, 4, 2, 4, 1, 0, 1, 2, 2, 0, 2, 1, 0, 3, 3, 3, 0, 3, 3, 3, 1, 4, 1, 4, 4, 0, 4, 1]
theorem coup_four : Coup 4 FOURL := coup_of (by decide +kernel)
theorem coup_six0 : Coup 6 six0 := coup_of (by decide +kernel)
theorem coup_six1 : Coup 6 six1 := coup_of (by decide +kernel)
theorem coup_six2 : Coup 6 six2 := coup_of (by decide +kernel)
theorem coup_six3 : Coup 6 six3 := coup_of (by decide +kernel)
theorem coup_six4 : Coup 6 six4 := coup_of (by decide +kernel)
theorem coup_six5 : Coup 6 six5 := coup_of (by decide +kernel)
section
variable {A : Ad} {f : FD}
abbrev sixRest (A : Ad) : SM := (SM.seq (SM.set 5 (EM.meth indexF (EM.get 3) (EM.cons (EM.ret (.int 0)) (EM.ret []))))
    (SM.seq (SM.set 6 (EM.call (F_unlike_in A) [none, none, none] (EM.cons (EM.call (F_plain A) [none] (EM.cons (EM.ret (.int 5)) (EM.ret []))) (EM.cons (EM.get 5) (EM.cons (EM.meth indexF (EM.get 4) (EM.cons (EM.ret (.int 0)) (EM.ret []))) (EM.ret []))))))
    (SM.seq (SM.set 7 (EM.opn tupD (EM.cons (EM.get 5) (EM.cons (EM.call (F_turned A) [none, none, none] (EM.cons (EM.ret (.int 5)) (EM.cons (EM.get 5) (EM.cons (EM.ret (.int 0)) (EM.ret []))))) (EM.ret [])))))
    (SM.seq (SM.set 8 (EM.opl lit4 (EM.ret [])))
    (SM.seq (SM.for_ (EM.rng1 (EM.cons (EM.op2 ixSeq (EM.ret (.ktup t_POWERS)) (EM.ret (.int 6))) (EM.ret []))) (tgN 9) (SM.seq (SM.set 10 (EM.call (F_without A) [none, none, none] (EM.cons (EM.ret (.int 6)) (EM.cons (EM.get 9) (EM.cons (EM.get 0) (EM.ret []))))))
    (SM.seq (SM.set 2 (EM.ite (EM.tru (EM.call (F_has_yes A) [none, none, none] (EM.cons (EM.ret (.int 6)) (EM.cons (EM.get 9) (EM.cons (EM.get 0) (EM.ret [])))))) (EM.op2 ixSeq (EM.get 4) (EM.call (F_turned_all A) [none, none, none] (EM.cons (EM.ret (.int 5)) (EM.cons (EM.get 10) (EM.cons (EM.get 6) (EM.ret [])))))) (EM.op2 ixSeq (EM.get 3) (EM.get 10))))
    (SM.drop (EM.modL 8 appendF (EM.cons (EM.ite (EM.tru (EM.op2 (inSeq false) (EM.get 10) (EM.get 7))) (EM.get 0) (EM.op2 ixSeq (EM.get 1) (EM.get 2))) (EM.ret [])))))))
    (SM.ret (EM.lend .s (EM.opn tupleK (EM.cons (EM.get 8) (EM.ret []))))))))))
theorem six_start {i : Nat} (hi : i < 6) (h1 : f [.ktup t_FIRST_HALF] = some (.ok (.ktup (dn H1)), [.ktup t_FIRST_HALF])) (h2 : f [.ktup t_SECOND_HALF] = some (.ok (.ktup (dn H2)), [.ktup t_SECOND_HALF])) :
    F_six_nearly A f [.int i] = runK [.s] [.int i] (sixRest A [some (.int i), some (.lst (dn (oths 6 i))), none, some (.ktup (dn H1)), some (.ktup (dn H2)), none, none, none, none, none, none]) := by
  have L1 := lc_pure (i := 2) (it := EM.rng1 (EM.cons (EM.ret (.int 6)) (EM.ret []))) (tt := EM.tru (EM.op2 neD (EM.get 2) (EM.get 0))) (te := EM.get 2) (enc := fun (r : Nat) => D.int (r : Nat)) (xs := List.range 6)
    (ρ := [some (.int i), none, none, none, none, none, none, none, none, none, none]) (σ := [some (.int i), none, none, none, none, none, none, none, none, none, none])
    (fun m => m != i) (fun r => .int (r : Nat)) (by
      have := range1_nat (show 6 ≤ 1000000000 by decide)
      have this : range1 [.int 6] = some ((List.range 6).map fun (i : Nat) => D.int i) := this
      simp [this]) (by decide) (fun r _ => by
      by_cases e : r = i
      · subst e
        simp
      · simp [e, show ¬ ((r : Int) = i) by omega]) (fun r _ _ => by simp)
  have L1' : (List.filter (fun m => m != i) (List.range 6)).map (fun (r : Nat) => D.int (r : Nat)) = dn (oths 6 i) := rfl
  rw [L1'] at L1
  have e : m_six_nearly A f = SM.seq (SM.set 1 (EM.lc [2] (EM.rng1 (EM.cons (EM.ret (.int 6)) (EM.ret []))) (tgN 2) (EM.tru (EM.op2 neD (EM.get 2) (EM.get 0))) (EM.get 2)))
    (SM.seq (SM.set 3 (EM.call f [none] (EM.cons (EM.ret (.ktup t_FIRST_HALF)) (EM.ret []))))
    (SM.seq (SM.set 4 (EM.call f [none] (EM.cons (EM.ret (.ktup t_SECOND_HALF)) (EM.ret [])))) (sixRest A))) := rfl
  rw [F_six_nearly, runF_def, e]
  simp only [s_seq, s_set, List.map_cons, List.map_nil, List.length_cons, List.length_nil, List.replicate, List.cons_append, List.nil_append, L1, sbK_ok, seqK_nx, List.set_cons_succ, List.set_cons_zero, e_call, e_cons, e_ret, bindK_ok, fill_n, fill_e, Option.map_some, callK_some, h1, h2, setA_n, setA_e]
theorem six_rest0 : runK [.s] [.int 0] (sixRest A [some (.int 0), some (.lst (dn (oths 6 0))), none, some (.ktup (dn H1)), some (.ktup (dn H2)), none, none, none, none, none, none]) = some (.ok (.ktup (dn six0)), [.int 0]) := by kernel_rfl
theorem six_rest1 : runK [.s] [.int 1] (sixRest A [some (.int 1), some (.lst (dn (oths 6 1))), none, some (.ktup (dn H1)), some (.ktup (dn H2)), none, none, none, none, none, none]) = some (.ok (.ktup (dn six1)), [.int 1]) := by kernel_rfl
theorem six_rest2 : runK [.s] [.int 2] (sixRest A [some (.int 2), some (.lst (dn (oths 6 2))), none, some (.ktup (dn H1)), some (.ktup (dn H2)), none, none, none, none, none, none]) = some (.ok (.ktup (dn six2)), [.int 2]) := by kernel_rfl
theorem six_rest3 : runK [.s] [.int 3] (sixRest A [some (.int 3), some (.lst (dn (oths 6 3))), none, some (.ktup (dn H1)), some (.ktup (dn H2)), none, none, none, none, none, none]) = some (.ok (.ktup (dn six3)), [.int 3]) := by kernel_rfl
theorem six_rest4 : runK [.s] [.int 4] (sixRest A [some (.int 4), some (.lst (dn (oths 6 4))), none, some (.ktup (dn H1)), some (.ktup (dn H2)), none, none, none, none, none, none]) = some (.ok (.ktup (dn six4)), [.int 4]) := by kernel_rfl
theorem six_rest5 : runK [.s] [.int 5] (sixRest A [some (.int 5), some (.lst (dn (oths 6 5))), none, some (.ktup (dn H1)), some (.ktup (dn H2)), none, none, none, none, none, none]) = some (.ok (.ktup (dn six5)), [.int 5]) := by kernel_rfl
end
end LW
namespace LW
open PySem PySem.Spec PyProof.Rows L2 Cl
abbrev ci (c : List Nat) : List Int := c.map fun (n : Nat) => (n : Int)
theorem ci_inj {c e : List Nat} (h : ci c = ci e) : c = e := by
  have : (ci c).map Int.toNat = (ci e).map Int.toNat := by rw [h]
  rw [List.map_map, List.map_map] at this
  have id : (Int.toNat ∘ fun (n : Nat) => (n : Int)) = id := by
    funext n
    rfl
  rw [id, List.map_id, List.map_id] at this
  exact this
section
variable {A : Ad}
theorem mx {c : List Nat} (h : 0 < c.length) : ∃ main, main < c.length ∧ (∀ x ∈ c, x ≤ c.getD main 0) ∧ bestD maxI [.ktup (dn c)] = some (.int (c.getD main 0 : Nat)) ∧ indexF (dn c) [.int (c.getD main 0 : Nat)] = some (.int (main : Nat)) := by
  match c, h with
  | x :: r, _ =>
    obtain ⟨k1, k2, k3⟩ := foldl_max (ns := ci r) (n := (x : Int))
    obtain ⟨M, hM⟩ : ∃ M, M = (ci r).foldl max (x : Int) := ⟨_, rfl⟩
    rw [← hM] at k1 k2 k3
    have mem : M ∈ ci (x :: r) := by
      rcases k3 with k3 | k3
      · rw [k3]
        exact List.mem_cons_self
      · exact List.mem_cons_of_mem _ k3
    have lt := List.idxOf_lt_length_of_mem mem
    have ge := List.getElem_idxOf lt
    have lt2 : (ci (x :: r)).idxOf M < (x :: r).length := by rw [List.length_map] at lt; exact lt
    have e : (((x :: r).getD ((ci (x :: r)).idxOf M) 0 : Nat) : Int) = M := by
      rw [getD_get lt2]
      rw [List.getElem_map] at ge
      exact ge
    refine ⟨(ci (x :: r)).idxOf M, lt2, fun y hy => ?_, ?_, ?_⟩
    · have : (y : Int) ≤ M := by
        rcases List.mem_cons.mp hy with rfl | hy
        · exact k1
        · exact k2 _ (List.mem_map.mpr ⟨y, hy, rfl⟩)
      omega
    · rw [e]
      show (intsOfD (.ktup (dn (x :: r)))).bind _ = _
      have q : intsOfD (.ktup (dn (x :: r))) = some (ci (x :: r)) := by
        show asInts (dn (x :: r)) = _
        rw [dn_ints, asInts_ints]
      rw [q]
      show ((maxI (ci (x :: r))).map D.int) = _
      rw [show maxI (ci (x :: r)) = some M from congrArg some hM.symm]
      rfl
    · rw [e]
      unfold indexF
      rw [dn_ints, asInts_ints]
      show (if M ∈ ci (x :: r) then _ else none) = _
      rw [if_pos mem]
theorem four_eq {c : List Nat} : eqD (.ktup (dn c)) (.ktup t_FOUR_ALIKE) = some (.bl (decide (c = [2, 2, 2, 2]))) := by
  have q := isT_eq (d := .ktup (dn c)) (e := .ktup t_FOUR_ALIKE) (ns := ci c) (ms := ci [2, 2, 2, 2]) (.inr (by rw [dn_ints])) (.inr rfl)
  rw [q]
  congr 2
  exact decide_eq_decide.mpr ⟨ci_inj, fun h => by rw [h]⟩
theorem sort_k {c : List Nat} : sortedD [.ktup (dn c)] = some (dints (sortI (ci c))) := by
  show (intsOfD (.ktup (dn c))).map _ = _
  have q : intsOfD (.ktup (dn c)) = some (ci c) := by
    show asInts (dn c) = _
    rw [dn_ints, asInts_ints]
  rw [q]
  rfl
theorem six_eq {ns : List Int} : eqD (.ktup (dints ns)) (.ktup t_SIX_NEARLY) = some (.bl (decide (ns = [2, 6, 6, 6, 6, 6]))) :=
  isT_eq (.inr rfl) (.inr rfl)
/-- where the sorted couples are nearly alike -/
theorem six_sort {c : List Nat} (ev : ∀ x ∈ c, x % 2 = 0) (h : sortI (ci c) = [2, 6, 6, 6, 6, 6]) : six (c.map fun x => x / 2) := by
  have p : (sortI (ci c)).Perm (ci c) := List.mergeSort_perm ..
  rw [h] at p
  have l := p.length_eq
  have m : ∀ x ∈ c, x / 2 = 1 ∨ x / 2 = 3 := fun x hx => by
    have q := p.mem_iff.mpr (List.mem_map.mpr ⟨x, hx, rfl⟩ : (x : Int) ∈ ci c)
    simp at q
    omega
  have c2 := p.count_eq 2
  rw [List.length_map] at l
  match c, l with
  | [a, b, d, e, f, g], _ =>
    have s : a + b + d + e + f + g = 32 := by
      have s1 := (p.map Int.toNat).sum_nat
      simp at s1
      omega
    have ea := ev a (by simp)
    have eb := ev b (by simp)
    have ed := ev d (by simp)
    have ee := ev e (by simp)
    have ef := ev f (by simp)
    have eg := ev g (by simp)
    exact six_of (show a / 2 + (b / 2 + (d / 2 + (e / 2 + (f / 2 + (g / 2 + 0))))) = 16 by omega) (m a (by simp)) (m b (by simp)) (m d (by simp)) (m e (by simp)) (m f (by simp)) (m g (by simp))
end
end LW
namespace LW
open PySem PySem.Spec PyProof.Rows L2 Cl
section
variable {A : Ad}
theorem wc_four {k : Nat} : F_with_couples A (k + 1) [.ktup (dn [2, 2, 2, 2])] = some (.ok (.ktup (dn FOURL)), [.ktup (dn [2, 2, 2, 2])]) := by
  have e := four_eq (c := [2, 2, 2, 2])
  have t : (.ktup t_FOUR_COUPLING : D) = .ktup (dn FOURL) := rfl
  simp [F_with_couples, runF_def, m_with_couples, e, t]
theorem wc_step {n k main : Nat} {c half : List Nat} {dh : D} (P : Pre n c) (h3 : 3 ≤ n) (h8 : n ≤ 8) (hm : main < n) (n4 : c ≠ [2, 2, 2, 2]) (n6 : sortI (ci c) ≠ [2, 6, 6, 6, 6, 6]) (hs : (own0 n main c).sum ≤ pw (n - 2))
    (hb : bestD maxI [.ktup (dn c)] = some (.int (c.getD main 0 : Nat))) (hi : indexF (dn c) [.int (c.getD main 0 : Nat)] = some (.int (main : Nat)))
    (hf : F_with_couples A k [.ktup (dn (ownL n main c))] = some (.ok dh, [.ktup (dn (ownL n main c))])) (hd : isN dh half) (ch : Coup (n - 1) half) :
    F_with_couples A (k + 1) [.ktup (dn c)] = some (.ok (.ktup (dn ((List.range (pw n)).map (found n main half (TT n main c half))))), [.ktup (dn c)]) := by
  have pl := pw_le (k := n - 1) (by omega)
  have d := F_doubled_n (A := A) h3 h8 hm P.len (fun x hx => by
    have := le_sum hx
    rw [P.sum] at this
    omega) hs hf hd ch
  have e4 := four_eq (c := c)
  rw [decide_eq_false n4] at e4
  have e6 := six_eq (ns := sortI (ci c))
  rw [decide_eq_false n6] at e6
  have z1 : ¬ n = 1 := by omega
  have z2 : ¬ n = 2 := by omega
  have z1' : ¬ (n : Int) = 1 := by omega
  have z2' : ¬ (n : Int) = 2 := by omega
  obtain ⟨v, hv⟩ : ∃ v, c.getD main 0 = v := ⟨_, rfl⟩
  rw [hv] at hb hi
  generalize (List.range (pw n)).map (found n main half (TT n main c half)) = fl at d
  have m_eq : F_with_couples A (k + 1) = runF 2 [.s] (m_with_couples A (F_with_couples A k)) := rfl
  have e : EM.meth indexF (EM.get 0) (EM.cons (EM.opn (bestD maxI) (EM.cons (EM.get 0) (EM.ret []))) (EM.ret [])) [some (.ktup (dn c)), some (.int n)] = some (.ok (.int (main : Nat)), [some (.ktup (dn c)), some (.int n)]) := by
    show EM.bind (EM.get 0) _ _ = _
    simp [hb, hi]
  rw [m_eq, runF_def]
  simp [m_with_couples, P.len, z1, z2, z1', z2', e4, sort_k, e6, e, d]
end
end LW
namespace LW
open PySem PySem.Spec PyProof.Rows L2 Cl
section
variable {A : Ad}
theorem wc_20 {k : Nat} : F_with_couples A (k + 1) [.ktup (dn [2, 0])] = some (.ok (.tup (dn [0, 0, 0, 0])), [.ktup (dn [2, 0])]) := by kernel_rfl
theorem wc_02 {k : Nat} : F_with_couples A (k + 1) [.ktup (dn [0, 2])] = some (.ok (.tup (dn [1, 1, 1, 1])), [.ktup (dn [0, 2])]) := by kernel_rfl
theorem coup_20 : Coup 2 [0, 0, 0, 0] := coup_of (by decide +kernel)
theorem coup_02 : Coup 2 [1, 1, 1, 1] := coup_of (by decide +kernel)
theorem nosix5 {c : List Nat} (h : c.length = 5) : sortI (ci c) ≠ [2, 6, 6, 6, 6, 6] := fun e => by
  have p : (sortI (ci c)).Perm (ci c) := List.mergeSort_perm ..
  rw [e] at p
  have l := p.length_eq
  rw [List.length_map, h] at l
  cases l
theorem wc_first {k : Nat} : F_with_couples A (k + 2) [.ktup t_FIRST_HALF] = some (.ok (.ktup (dn H1)), [.ktup t_FIRST_HALF]) := by
  have s := wc_step (A := A) (n := 5) (k := k + 1) (main := 0) (c := [4, 4, 4, 2, 2]) (half := FOURL) (dh := .ktup (dn FOURL)) ⟨rfl, by decide, rfl⟩ (by decide) (by decide) (by decide) (by decide) (nosix5 rfl) (by decide +kernel) rfl rfl (by
    rw [show ownL 5 0 [4, 4, 4, 2, 2] = [2, 2, 2, 2] by decide +kernel]
    exact wc_four) (.inr rfl) coup_four
  rw [H1_eq] at s
  exact s
theorem wc_second {k : Nat} : F_with_couples A (k + 2) [.ktup t_SECOND_HALF] = some (.ok (.ktup (dn H2)), [.ktup t_SECOND_HALF]) := by
  have s := wc_step (A := A) (n := 5) (k := k + 1) (main := 0) (c := [4, 2, 2, 4, 4]) (half := FOURL) (dh := .ktup (dn FOURL)) ⟨rfl, by decide, rfl⟩ (by decide) (by decide) (by decide) (by decide) (nosix5 rfl) (by decide +kernel) rfl rfl (by
    rw [show ownL 5 0 [4, 2, 2, 4, 4] = [2, 2, 2, 2] by decide +kernel]
    exact wc_four) (.inr rfl) coup_four
  rw [H2_eq] at s
  exact s
theorem wc_six {k i : Nat} {c : List Nat} {d : D} (hl : c.length = 6) (hs : sortI (ci c) = [2, 6, 6, 6, 6, 6]) (hi : indexF (dn c) [.int 2] = some (.int (i : Nat))) (hd : F_six_nearly A (F_with_couples A k) [.int i] = some (.ok d, [.int i])) :
    F_with_couples A (k + 1) [.ktup (dn c)] = some (.ok d, [.ktup (dn c)]) := by
  have e4 := four_eq (c := c)
  rw [decide_eq_false (show c ≠ [2, 2, 2, 2] from fun z => by rw [z] at hl; cases hl)] at e4
  have e6 := six_eq (ns := sortI (ci c))
  rw [decide_eq_true hs] at e6
  have m_eq : F_with_couples A (k + 1) = runF 2 [.s] (m_with_couples A (F_with_couples A k)) := rfl
  have e : EM.meth indexF (EM.get 0) (EM.cons (EM.ret (.int 2)) (EM.ret [])) [some (.ktup (dn c)), some (.int 6)] = some (.ok (.int (i : Nat)), [some (.ktup (dn c)), some (.int 6)]) := by
    show EM.bind (EM.get 0) _ _ = _
    simp [hi]
  rw [m_eq, runF_def]
  simp [m_with_couples, hl, e4, sort_k, e6, e, hd]
theorem wc_six0 {k : Nat} : F_with_couples A (k + 3) [.ktup (dn [2, 6, 6, 6, 6, 6])] = some (.ok (.ktup (dn six0)), [.ktup (dn [2, 6, 6, 6, 6, 6])]) :=
  wc_six (i := 0) rfl (sort_one (a := [2, 6, 6, 6, 6, 6]) (b := ci [2, 6, 6, 6, 6, 6]) (by decide) (by decide)).symm rfl (by
    rw [six_start (by decide) wc_first wc_second]
    exact six_rest0)
theorem cnt_six0 : ∀ m, m < 6 → six0.count m = 2 * ([2, 6, 6, 6, 6, 6] : List Nat).getD m 0 := by decide +kernel
theorem wc_six1 {k : Nat} : F_with_couples A (k + 3) [.ktup (dn [6, 2, 6, 6, 6, 6])] = some (.ok (.ktup (dn six1)), [.ktup (dn [6, 2, 6, 6, 6, 6])]) :=
  wc_six (i := 1) rfl (sort_one (a := [2, 6, 6, 6, 6, 6]) (b := ci [6, 2, 6, 6, 6, 6]) (by decide) (by decide)).symm rfl (by
    rw [six_start (by decide) wc_first wc_second]
    exact six_rest1)
theorem cnt_six1 : ∀ m, m < 6 → six1.count m = 2 * ([6, 2, 6, 6, 6, 6] : List Nat).getD m 0 := by decide +kernel
theorem wc_six2 {k : Nat} : F_with_couples A (k + 3) [.ktup (dn [6, 6, 2, 6, 6, 6])] = some (.ok (.ktup (dn six2)), [.ktup (dn [6, 6, 2, 6, 6, 6])]) :=
  wc_six (i := 2) rfl (sort_one (a := [2, 6, 6, 6, 6, 6]) (b := ci [6, 6, 2, 6, 6, 6]) (by decide) (by decide)).symm rfl (by
    rw [six_start (by decide) wc_first wc_second]
    exact six_rest2)
theorem cnt_six2 : ∀ m, m < 6 → six2.count m = 2 * ([6, 6, 2, 6, 6, 6] : List Nat).getD m 0 := by decide +kernel
theorem wc_six3 {k : Nat} : F_with_couples A (k + 3) [.ktup (dn [6, 6, 6, 2, 6, 6])] = some (.ok (.ktup (dn six3)), [.ktup (dn [6, 6, 6, 2, 6, 6])]) :=
  wc_six (i := 3) rfl (sort_one (a := [2, 6, 6, 6, 6, 6]) (b := ci [6, 6, 6, 2, 6, 6]) (by decide) (by decide)).symm rfl (by
    rw [six_start (by decide) wc_first wc_second]
    exact six_rest3)
theorem cnt_six3 : ∀ m, m < 6 → six3.count m = 2 * ([6, 6, 6, 2, 6, 6] : List Nat).getD m 0 := by decide +kernel
theorem wc_six4 {k : Nat} : F_with_couples A (k + 3) [.ktup (dn [6, 6, 6, 6, 2, 6])] = some (.ok (.ktup (dn six4)), [.ktup (dn [6, 6, 6, 6, 2, 6])]) :=
  wc_six (i := 4) rfl (sort_one (a := [2, 6, 6, 6, 6, 6]) (b := ci [6, 6, 6, 6, 2, 6]) (by decide) (by decide)).symm rfl (by
    rw [six_start (by decide) wc_first wc_second]
    exact six_rest4)
theorem cnt_six4 : ∀ m, m < 6 → six4.count m = 2 * ([6, 6, 6, 6, 2, 6] : List Nat).getD m 0 := by decide +kernel
theorem wc_six5 {k : Nat} : F_with_couples A (k + 3) [.ktup (dn [6, 6, 6, 6, 6, 2])] = some (.ok (.ktup (dn six5)), [.ktup (dn [6, 6, 6, 6, 6, 2])]) :=
  wc_six (i := 5) rfl (sort_one (a := [2, 6, 6, 6, 6, 6]) (b := ci [6, 6, 6, 6, 6, 2]) (by decide) (by decide)).symm rfl (by
    rw [six_start (by decide) wc_first wc_second]
    exact six_rest5)
theorem cnt_six5 : ∀ m, m < 6 → six5.count m = 2 * ([6, 6, 6, 6, 6, 2] : List Nat).getD m 0 := by decide +kernel
theorem dbl {c h : List Nat} (ev : ∀ x ∈ c, x % 2 = 0) (e : (c.map fun x => x / 2) = h) : c = h.map fun x => 2 * x := by
  induction c generalizing h with
  | nil => rw [← e]; rfl
  | cons x c ih =>
    rw [← e, List.map_cons, List.map_cons, ← ih (fun y hy => ev y (List.mem_cons_of_mem _ hy)) rfl]
    have := ev x List.mem_cons_self
    congr 1
    omega
theorem wc : ∀ (n : Nat), 2 ≤ n → n ≤ 8 → ∀ (c : List Nat), Pre n c → ∀ k, n ≤ k → ∃ d h, isN d h ∧ Coup n h ∧ (∀ m, m < n → h.count m = 2 * c.getD m 0) ∧ F_with_couples A k [.ktup (dn c)] = some (.ok d, [.ktup (dn c)])
  | 0, h, _, _, _, _, _ => absurd h (by decide)
  | 1, h, _, _, _, _, _ => absurd h (by decide)
  | 2, _, _, c, P, k, hk => by
    obtain ⟨k, rfl⟩ : ∃ j, k = j + 1 := ⟨k - 1, by omega⟩
    match c, P.len with
    | [a, b], _ =>
      have s : a + b = 2 := by
        have := P.sum
        have e : pw (2 - 1) = 2 := rfl
        rw [e] at this
        simpa using this
      have ea := P.ev a (by simp)
      have z : (a = 2 ∧ b = 0) ∨ (a = 0 ∧ b = 2) := by omega
      rcases z with ⟨rfl, rfl⟩ | ⟨rfl, rfl⟩
      · exact ⟨_, _, .inl rfl, coup_20, by decide, wc_20⟩
      · exact ⟨_, _, .inl rfl, coup_02, by decide, wc_02⟩
  | n + 3, _, h8, c, P, k, hk => by
    obtain ⟨k, rfl⟩ : ∃ j, k = j + 1 := ⟨k - 1, by omega⟩
    by_cases n4 : c = [2, 2, 2, 2]
    · subst n4
      have hn : n = 1 := by
        have := P.len
        simp at this
        omega
      subst hn
      exact ⟨_, _, .inr rfl, coup_four, by decide, wc_four⟩
    · by_cases n6 : six (c.map fun x => x / 2)
      · have hn : n = 3 := by
          have l := P.len
          have : (c.map fun x => x / 2).length = 6 := by
            rcases n6 with h | h | h | h | h | h <;> rw [h] <;> rfl
          rw [List.length_map] at this
          omega
        subst hn
        obtain ⟨k, rfl⟩ : ∃ j, k = j + 2 := ⟨k - 2, by omega⟩
        rcases n6 with h | h | h | h | h | h <;> (have e := dbl P.ev h; subst e)
        · exact ⟨_, _, .inr rfl, coup_six0, cnt_six0, wc_six0⟩
        · exact ⟨_, _, .inr rfl, coup_six1, cnt_six1, wc_six1⟩
        · exact ⟨_, _, .inr rfl, coup_six2, cnt_six2, wc_six2⟩
        · exact ⟨_, _, .inr rfl, coup_six3, cnt_six3, wc_six3⟩
        · exact ⟨_, _, .inr rfl, coup_six4, cnt_six4, wc_six4⟩
        · exact ⟨_, _, .inr rfl, coup_six5, cnt_six5, wc_six5⟩
      · obtain ⟨main, hm, mxx, hb, hi⟩ := mx (c := c) (by rw [P.len]; omega)
        rw [P.len] at hm
        have hs := own0_le P (by omega) h8 hm mxx n4 n6
        have Q := own_ok P (by omega) h8 hm hs
        obtain ⟨d, half, hd, ch, hc, hf⟩ := wc (n + 2) (by omega) (by omega) _ Q k (by omega)
        exact ⟨_, _, .inr rfl, doub_coup (by omega) h8 hm ch, doub_all P (by omega) h8 hm ch hc, wc_step P (by omega) h8 hm n4 (fun e => n6 (six_sort P.ev e)) hs hb hi hf hd ch⟩
end
end LW
namespace LW
open PySem PySem.Spec PyProof.Rows L2 Cl
section
variable {A : Ad}
theorem half_sum : ∀ {ns : List Int}, (∀ i ∈ ns, 0 ≤ i) → (∀ i ∈ ns, i % 4 = 0) → ((ns.map fun i => (i / 2).toNat).sum * 2 : Nat) = ns.sum
  | [], _, _ => rfl
  | x :: ns, h, h4 => by
    have ih := half_sum (ns := ns) (fun i hi => h i (List.mem_cons_of_mem _ hi)) fun i hi => h4 i (List.mem_cons_of_mem _ hi)
    have a := h x List.mem_cons_self
    have b := h4 x List.mem_cons_self
    rw [List.map_cons, List.sum_cons, List.sum_cons]
    omega
theorem dn_half {ns : List Int} (h : ∀ i ∈ ns, 0 ≤ i) : ns.map (fun i => D.int (i / 2)) = dn (ns.map fun i => (i / 2).toNat) := by
  unfold dn
  rw [List.map_map]
  refine List.map_congr_left fun i hi => ?_
  have := h i hi
  show D.int (i / 2) = D.int (((i / 2).toNat : Nat) : Int)
  rw [Int.toNat_of_nonneg (by omega)]
theorem poss_all {ns : List Int} (h : possN ns = true) : ns.sum = (pw ns.length : Nat) ∧ ∀ i ∈ ns, i % 4 = 0 := by
  unfold possN at h
  rw [Bool.and_eq_true, List.all_eq_true] at h
  exact ⟨of_decide_eq_true h.1, fun i hi => of_decide_eq_true (h.2 i hi)⟩
theorem F_often_no {ns : List Int} (h : ∀ i ∈ ns, 0 ≤ i) (h1 : 2 ≤ ns.length) (h8 : ns.length ≤ 8) (hp : possN ns = false) : F_coupling_often A [.tup (dints ns)] = some (.ok .non, [.tup (dints ns)]) := by
  simp [F_coupling_often, runF_def, m_coupling_often, F_check_numbers_t h (by omega) h8, F_are_possible_t h1 h8, hp]
theorem F_often_yes {ns : List Int} (h : ∀ i ∈ ns, 0 ≤ i) (h1 : 2 ≤ ns.length) (h8 : ns.length ≤ 8) (hp : possN ns = true) : ∃ d hh, isN d hh ∧ Coup ns.length hh ∧ (List.range ns.length).map (fun m => ((hh.count m : Nat) : Int)) = ns ∧ F_coupling_often A [.tup (dints ns)] = some (.ok d, [.tup (dints ns)]) := by
  obtain ⟨p1, p2⟩ := poss_all hp
  have P : Pre ns.length (ns.map fun i => (i / 2).toNat) := by
    refine ⟨List.length_map .., fun x hx => ?_, ?_⟩
    · obtain ⟨i, hi, rfl⟩ := List.mem_map.mp hx
      have a := h i hi
      have b := p2 i hi
      omega
    · have s := half_sum h p2
      rw [p1] at s
      have q : pw ns.length = 2 * pw (ns.length - 1) := by
        rw [← pw_succ]
        congr 1
        omega
      omega
  obtain ⟨d, hh, hd, ch, hc, hf⟩ := wc (A := A) ns.length h1 h8 _ P 12 (by omega)
  refine ⟨d, hh, hd, ch, ?_, ?_⟩
  · apply List.ext_getElem
    · simp
    · intro i q1 q2
      have c1 := hc i q2
      rw [getD_get (by rw [List.length_map]; exact q2), List.getElem_map] at c1
      have a := h _ (List.getElem_mem q2)
      have b := p2 _ (List.getElem_mem q2)
      rw [List.getElem_map, List.getElem_range]
      omega
  · have L := lc_all (i := 1) (it := EM.seqOf (EM.get 0)) (te := EM.op2 divI (EM.get 1) (EM.ret (.int 2))) (enc := fun i => D.int i) (xs := ns) (ρ := [some (.tup (dints ns)), none]) (σ := [some (.tup (dints ns)), none]) (fun i => .int (i / 2)) (by simp [dints]) (by omega) (fun i _ => by simp [div_two])
    rw [dn_half h] at L
    generalize (ns.map fun i => (i / 2).toNat) = c at L hf
    simp [F_coupling_often, runF_def, m_coupling_often, F_check_numbers_t h (by omega) h8, F_are_possible_t h1 h8, hp, L, hf]
def dueE (A : Ad) : EM D := EM.and_ (EM.op2 eqD (EM.opn sumD (EM.cons (EM.get 5) (EM.ret []))) (EM.call (F__law_power A) [none] (EM.cons (EM.get 3) (EM.ret [])))) (EM.op2 eqD (EM.opn lenD (EM.cons (EM.lc [7] (EM.seqOf (EM.get 5)) (tgN 7) (EM.tru (EM.op2 neD (EM.op2 modI (EM.opn intD (EM.cons (EM.get 7) (EM.ret []))) (EM.ret (.int 4))) (EM.ret (.int 0)))) (EM.get 7)) (EM.ret []))) (EM.ret (.int 0)))
abbrev thBody (A : Ad) : SM := (SM.seq (SM.set 6 (dueE A))
    (SM.seq (SM.ite (EM.notB (EM.tru (EM.call (F__law_flag A) [none, none] (EM.cons (EM.call (F_can_be_often A) [none] (EM.cons (EM.get 5) (EM.ret []))) (EM.cons (EM.get 6) (EM.ret [])))))) (SM.ret (EM.ret (.bl false))) (SM.nop))
    (SM.seq (SM.set 8 (EM.call (F_coupling_often A) [none] (EM.cons (EM.get 5) (EM.ret []))))
    (SM.seq (SM.ite (EM.tru (EM.op2 neD (EM.op2 notND (EM.get 8) (EM.ret .non)) (EM.get 6))) (SM.ret (EM.ret (.bl false))) (SM.nop))
    (SM.ite (EM.ite (EM.tru (EM.get 6)) (EM.ite (EM.notB (EM.tru (EM.call (F__law_is_coupling A) [none, none] (EM.cons (EM.get 3) (EM.cons (EM.get 8) (EM.ret [])))))) (EM.ret true) (EM.tru (EM.op2 neD (EM.call (F__law_often A) [none, none] (EM.cons (EM.get 3) (EM.cons (EM.get 8) (EM.ret [])))) (EM.get 5)))) (EM.ret false)) (SM.ret (EM.ret (.bl false))) (SM.nop))))))
@[simp] theorem ne_bb {a b : Bool} : neD (.bl a) (.bl b) = some (.bl (!(a == b))) := by cases a <;> cases b <;> rfl
@[simp] theorem notN_n : notND .non .non = some (.bl false) := rfl
@[simp] theorem notN_t {ds : List D} : notND (.tup ds) .non = some (.bl true) := rfl
@[simp] theorem notN_k {ds : List D} : notND (.ktup ds) .non = some (.bl true) := rfl
theorem thing_step {n : Nat} {ns : List Int} {x0 x1 x2 x4 x5 x6 x7 x8 : Option D} (h : ∀ i ∈ ns, 0 ≤ i) (hn : ns.length = n) (h5 : 5 ≤ n) (h8 : n ≤ 8) :
    ∃ y6 y8, thBody A ([x0, x1, x2, some (.int n), x4, x5, x6, x7, x8].set 5 (some (.tup (dints ns)))) = some (.nx, [x0, x1, x2, some (.int n), x4, some (.tup (dints ns)), y6, x7, y8]) := by
  subst hn
  have pwr := F_power_n (A := A) h8
  have L := lc_pure (i := 7) (it := EM.seqOf (EM.get 5)) (tt := EM.tru (EM.op2 neD (EM.op2 modI (EM.opn intD (EM.cons (EM.get 7) (EM.ret []))) (EM.ret (.int 4))) (EM.ret (.int 0)))) (te := EM.get 7) (enc := fun i => D.int i) (xs := ns)
    (ρ := [x0, x1, x2, some (.int (ns.length : Nat)), x4, some (.tup (dints ns)), x6, x7, x8]) (σ := [x0, x1, x2, some (.int (ns.length : Nat)), x4, some (.tup (dints ns)), x6, x7, x8])
    (fun i => !decide (i % 4 = 0)) (fun i => .int i) (by simp [dints]) (by omega) (fun i _ => by simp) (fun i _ _ => by simp)
  have cnt : decide (((ns.filter fun i => !decide (i % 4 = 0)).length : Int) = 0) = ns.all fun i => decide (i % 4 = 0) := by
    rw [Bool.eq_iff_iff, decide_eq_true_eq, List.all_eq_true]
    constructor
    · intro z i hi
      have z2 : (ns.filter fun i => !decide (i % 4 = 0)) = [] := List.eq_nil_of_length_eq_zero (by omega)
      have := List.filter_eq_nil_iff.mp z2 i hi
      simpa using this
    · intro z
      have : (ns.filter fun i => !decide (i % 4 = 0)) = [] := List.filter_eq_nil_iff.mpr fun i hi => by
        have := z i hi
        simpa using this
      rw [this]
      rfl
  have due : dueE A [x0, x1, x2, some (.int (ns.length : Nat)), x4, some (.tup (dints ns)), x6, x7, x8] = some (.ok (.bl (possN ns)), [x0, x1, x2, some (.int (ns.length : Nat)), x4, some (.tup (dints ns)), x6, x7, x8]) := by
    unfold possN dueE
    rw [← cnt]
    generalize (ns.filter fun i => !decide (i % 4 = 0)) = fl at L
    by_cases q : ns.sum = (pw ns.length : Nat)
    · simp [sum_tup, pwr, L, q]
    · simp [sum_tup, pwr, q]
  have cb := F_can_be_often_t (A := A) h (by omega) h8
  cases hp : possN ns with
  | false =>
    have no := F_often_no (A := A) h (by omega) h8 hp
    rw [hp] at due cb
    refine ⟨some (.bl false), some .non, ?_⟩
    simp [due, cb, F_flag_n, no]
  | true =>
    obtain ⟨d, hh, hd, ch, hc, hf⟩ := F_often_yes (A := A) h (by omega) h8 hp
    rw [hp] at due cb
    have isc := F_is_coupling_n (A := A) hd ch h8
    have oft := F_often_n (A := A) (n := ns.length) hd h8 (by rw [ch.len]; exact pw_le h8)
    have eqq : neD (.tup (dn ((List.range ns.length).map fun m => hh.count m))) (.tup (dints ns)) = some (.bl false) := by
      rw [isT_ne (ns := ns) (ms := ns) (.inl ?_) (.inl rfl)]
      · simp
      · rw [dn_ints, List.map_map]
        rw [show ((fun (n : Nat) => (n : Int)) ∘ fun m => hh.count m) = fun m => ((hh.count m : Nat) : Int) from rfl, hc]
    have nn : notND d .non = some (.bl true) := by rcases hd with rfl | rfl <;> rfl
    refine ⟨some (.bl true), some d, ?_⟩
    simp [due, cb, F_flag_n, hf, nn, isc, oft, eqq]
end
end LW
namespace LW
open PySem PySem.Spec PyProof.Rows L2 Cl
section
variable {A : Ad}
@[simp] theorem revL_e {ρ : Rho} {m : EM D} : EM.revL m ρ = bindK (m ρ) fun d => match d with
  | .lst xs => EM.ret (.lst xs.reverse)
  | _ => EM.lift none := rfl
theorem dints_rev {ns : List Int} : (dints ns).reverse = dints ns.reverse := by unfold dints; rw [List.map_reverse]
abbrev itE (A : Ad) : EM (List D) := EM.seqOf (EM.opn tupD (EM.cons (EM.opn tupleOf (EM.cons (EM.get 4) (EM.ret []))) (EM.cons (EM.opn tupleOf (EM.cons (EM.revL (EM.get 4)) (EM.ret []))) (EM.cons (EM.call (F__law_near A) [some 1, none, none] (EM.cons (EM.get 1) (EM.cons (EM.get 3) (EM.cons (EM.get 4) (EM.ret []))))) (EM.ret [])))))
abbrev tuBody (A : Ad) : SM := (SM.seq (SM.set 3 (EM.op2 addI (EM.ret (.int 5)) (EM.call (F__law_draw A) [some 1, none] (EM.cons (EM.get 1) (EM.cons (EM.ret (.int 4)) (EM.ret []))))))
    (SM.seq (SM.set 4 (EM.call (F__law_fours A) [some 1, none] (EM.cons (EM.get 1) (EM.cons (EM.get 3) (EM.ret [])))))
    (SM.for_ (itE A) (tgN 5) (thBody A))))
theorem turn_step {N : Nat} {s d t : D} {x3 x4 x5 x6 x7 x8 : Option D} {x2 : Option D} (hd : Dice N d) (hN : N ≤ 100) :
    ∃ d' y3 y4 y5 y6 y7 y8, Dice (N + 50) d' ∧ tuBody A ([some s, some d, x2, x3, x4, x5, x6, x7, x8].set 2 (some t)) = some (.nx, [some s, some d', some t, y3, y4, y5, y6, y7, y8]) := by
  obtain ⟨d1, x, a1, a2, a3'⟩ := F_draw (A := A) hd (by omega) (s := 4) (by decide) (by decide)
  have a3 : F__law_draw A [d, .int 4] = some (.ok (.int x), [d1, .int 4]) := a3'
  obtain ⟨d2, ns, b1, b2, b3, b4⟩ := F_fours (A := A) a2 (by omega) (n := 5 + x) (by omega) (by omega)
  have p0 : ∀ i ∈ ns, 0 ≤ i := fun i hi => (b3 i hi).1
  obtain ⟨d3, ms, c1, c2, c3, c4⟩ := F_near (A := A) b1 (by omega) (n := 5 + x) (by omega) (by omega) b2 p0
  have rv : ∀ i ∈ ns.reverse, 0 ≤ i := fun i hi => p0 i (List.mem_reverse.mp hi)
  have cast : (5 : Int) + (x : Int) = ((5 + x : Nat) : Int) := by omega
  have tp : ∀ ks : List Int, tupleOf [.lst (dints ks)] = some (.tup (dints ks)) := fun _ => rfl
  have td : ∀ a b c : D, tupD [a, b, c] = some (.tup [a, b, c]) := fun _ _ _ => rfl
  obtain ⟨ρ', e1, e2⟩ := each_inv (enc := fun (ks : List Int) => D.tup (dints ks)) (tg := tgN 5) (body := thBody A)
    (fun i ρ => ∃ y5 y6 y8, ρ = [some s, some d3, some t, some (.int (5 + x : Nat)), some (.lst (dints ns)), y5, y6, x7, y8])
    (xs := [ns, ns.reverse, ms]) (n := 0) (ρ := [some s, some d3, some t, some (.int (5 + x : Nat)), some (.lst (dints ns)), x5, x6, x7, x8]) ⟨_, _, _, rfl⟩ (fun i ks ρ hk ⟨y5, y6, y8, e⟩ => by
      subst e
      have k : (∀ i ∈ ks, 0 ≤ i) ∧ ks.length = 5 + x := by
        have m := List.mem_of_getElem? hk
        simp at m
        rcases m with rfl | rfl | rfl
        · exact ⟨p0, b2⟩
        · exact ⟨rv, by rw [List.length_reverse]; exact b2⟩
        · exact ⟨c3, c2⟩
      obtain ⟨z6, z8, q⟩ := thing_step (A := A) (x0 := some s) (x1 := some d3) (x2 := some t) (x4 := some (.lst (dints ns))) (x5 := y5) (x6 := y6) (x7 := x7) (x8 := y8) k.1 k.2 (by omega) (by omega)
      exact ⟨_, _, rfl, .inl q, ⟨_, _, _, rfl⟩⟩)
  obtain ⟨y5, y6, y8, rfl⟩ := e2
  have e1' : SM.each (tgN 5) (thBody A) [.tup (dints ns), .tup (dints ns.reverse), .tup (dints ms)] [some s, some d3, some t, some (.int (5 + x : Nat)), some (.lst (dints ns)), x5, x6, x7, x8] = _ := e1
  refine ⟨d3, some (.int (5 + x : Nat)), some (.lst (dints ns)), y5, y6, x7, y8, c1.mono (by omega), ?_⟩
  have s1 : SM.set 3 (EM.op2 addI (EM.ret (.int 5)) (EM.call (F__law_draw A) [some 1, none] (EM.cons (EM.get 1) (EM.cons (EM.ret (.int 4)) (EM.ret []))))) [some s, some d, some t, x3, x4, x5, x6, x7, x8] = some (.nx, [some s, some d1, some t, some (.int (5 + x : Nat)), x4, x5, x6, x7, x8]) := by
    rw [← cast]
    simp [a3]
  have s2 : SM.set 4 (EM.call (F__law_fours A) [some 1, none] (EM.cons (EM.get 1) (EM.cons (EM.get 3) (EM.ret [])))) [some s, some d1, some t, some (.int (5 + x : Nat)), x4, x5, x6, x7, x8] = some (.nx, [some s, some d2, some t, some (.int (5 + x : Nat)), some (.lst (dints ns)), x5, x6, x7, x8]) := by
    generalize (5 + x : Nat) = n at b4
    simp [b4]
  have s3 : itE A [some s, some d2, some t, some (.int (5 + x : Nat)), some (.lst (dints ns)), x5, x6, x7, x8] = some (.ok [.tup (dints ns), .tup (dints ns.reverse), .tup (dints ms)], [some s, some d3, some t, some (.int (5 + x : Nat)), some (.lst (dints ns)), x5, x6, x7, x8]) := by
    generalize (5 + x : Nat) = n at c4
    simp [tp, td, c4, dints_rev]
  show seqK (SM.set 3 _ [some s, some d, some t, x3, x4, x5, x6, x7, x8]) _ = _
  rw [s1, seqK_nx, s_seq, s2, seqK_nx, s_for, s3, sbK_ok]
  exact e1'
theorem plain (A : Ad) (ns : List Int) : F_law A [.scr ns] = some (.ok (.bl true), [.scr ns]) := by
  obtain ⟨d0, h0, f0⟩ := F_dice (A := A) (ns := ns)
  obtain ⟨ρ', e1, e2⟩ := each_inv (enc := fun (m : Nat) => D.int (m : Nat)) (tg := tgN 2) (body := tuBody A)
    (fun i ρ => ∃ dc x2 x3 x4 x5 x6 x7 x8, Dice (50 * i) dc ∧ ρ = [some (.scr ns), some dc, x2, x3, x4, x5, x6, x7, x8])
    (xs := List.range 2) (n := 0) (ρ := [some (.scr ns), some d0, none, none, none, none, none, none, none]) ⟨d0, _, _, _, _, _, _, _, h0, rfl⟩ (fun i x ρ hx ⟨dc, x2, x3, x4, x5, x6, x7, x8, hd, e⟩ => by
      subst e
      have hi := (List.getElem?_eq_some_iff.mp hx).1
      rw [List.length_range] at hi
      obtain ⟨d', y3, y4, y5, y6, y7, y8, g1, g2⟩ := turn_step (A := A) (s := .scr ns) (t := .int x) (x2 := x2) (x3 := x3) (x4 := x4) (x5 := x5) (x6 := x6) (x7 := x7) (x8 := x8) hd (by omega)
      exact ⟨_, _, rfl, .inl g2, ⟨d', _, y3, y4, y5, y6, y7, y8, g1.mono (by omega), rfl⟩⟩)
  obtain ⟨dc, x2, x3, x4, x5, x6, x7, x8, hd, rfl⟩ := e2
  have e : m_law A = SM.seq (SM.set 1 (EM.call (F__law_dice A) [none] (EM.cons (EM.get 0) (EM.ret []))))
    (SM.seq (SM.for_ (EM.rng1 (EM.cons (EM.ret (.int 2)) (EM.ret []))) (tgN 2) (tuBody A))
    (SM.ret (EM.ret (.bl true)))) := rfl
  have r2 : range1 [.int 2] = some ((List.range 2).map fun (i : Nat) => D.int i) := range1_nat (show 2 ≤ 1000000000 by decide)
  rw [F_law, runF_def, e]
  have s1 : SM.set 1 (EM.call (F__law_dice A) [none] (EM.cons (EM.get 0) (EM.ret []))) [some (.scr ns), none, none, none, none, none, none, none, none] = some (.nx, [some (.scr ns), some d0, none, none, none, none, none, none, none]) := by
    simp [f0]
  have s2 : EM.rng1 (EM.cons (EM.ret (.int 2)) (EM.ret [])) [some (.scr ns), some d0, none, none, none, none, none, none, none] = some (.ok ((List.range 2).map fun (i : Nat) => D.int i), [some (.scr ns), some d0, none, none, none, none, none, none, none]) := by
    simp only [rng1_i, e_cons, e_ret, bindK_ok, r2, e_lift_some]
  show runK [.s] [.scr ns] (seqK (SM.set 1 _ [some (.scr ns), none, none, none, none, none, none, none, none]) _) = _
  rw [s1, seqK_nx, s_seq, s_for, s2, sbK_ok, e1, seqK_nx]
  rfl
end
end LW
open PySem PySem.Spec PyProof.Rows L2 Cl
namespace LW
def hd_is_integer : He.DefD := ⟨("is_integer", none), "is_integer", "is_integer", defArgs s_is_integer, defBody s_is_integer, defScope s_is_integer, [], []⟩
def hd_is_within : He.DefD := ⟨("is_within", none), "is_within", "is_within", defArgs s_is_within, defBody s_is_within, defScope s_is_within, [], []⟩
def hd_is_many : He.DefD := ⟨("is_many", none), "is_many", "is_many", defArgs s_is_many, defBody s_is_many, defScope s_is_many, [], []⟩
def hd_plain : He.DefD := ⟨("plain", none), "plain", "plain", defArgs s_plain, defBody s_plain, defScope s_plain, [], []⟩
def hd_slips_of : He.DefD := ⟨("slips_of", none), "slips_of", "slips_of", defArgs s_slips_of, defBody s_slips_of, defScope s_slips_of, [], []⟩
def hd_unlike_in : He.DefD := ⟨("unlike_in", none), "unlike_in", "unlike_in", defArgs s_unlike_in, defBody s_unlike_in, defScope s_unlike_in, [], []⟩
def hd_has_yes : He.DefD := ⟨("has_yes", none), "has_yes", "has_yes", defArgs s_has_yes, defBody s_has_yes, defScope s_has_yes, [], []⟩
def hd_turned : He.DefD := ⟨("turned", none), "turned", "turned", defArgs s_turned, defBody s_turned, defScope s_turned, [], []⟩
def hd_check_numbers : He.DefD := ⟨("check_numbers", none), "check_numbers", "check_numbers", defArgs s_check_numbers, defBody s_check_numbers, defScope s_check_numbers, [], []⟩
def hd_are_possible : He.DefD := ⟨("are_possible", none), "are_possible", "are_possible", defArgs s_are_possible, defBody s_are_possible, defScope s_are_possible, [], []⟩
def hd_can_be_often : He.DefD := ⟨("can_be_often", none), "can_be_often", "can_be_often", defArgs s_can_be_often, defBody s_can_be_often, defScope s_can_be_often, [], []⟩
def hd_without : He.DefD := ⟨("without", none), "without", "without", defArgs s_without, defBody s_without, defScope s_without, [], []⟩
def hd_turned_all : He.DefD := ⟨("turned_all", none), "turned_all", "turned_all", defArgs s_turned_all, defBody s_turned_all, defScope s_turned_all, [], []⟩
def hd_six_nearly : He.DefD := ⟨("six_nearly", none), "six_nearly", "six_nearly", defArgs s_six_nearly, defBody s_six_nearly, defScope s_six_nearly, [], []⟩
def hd_doubled : He.DefD := ⟨("doubled", none), "doubled", "doubled", defArgs s_doubled, defBody s_doubled, defScope s_doubled, [], []⟩
def hd_with_couples : He.DefD := ⟨("with_couples", none), "with_couples", "with_couples", defArgs s_with_couples, defBody s_with_couples, defScope s_with_couples, [], []⟩
def hd_coupling_often : He.DefD := ⟨("coupling_often", none), "coupling_often", "coupling_often", defArgs s_coupling_often, defBody s_coupling_often, defScope s_coupling_often, [], []⟩
def hd__law_dice : He.DefD := ⟨("_law_dice", none), "_law_dice", "_law_dice", defArgs s__law_dice, defBody s__law_dice, defScope s__law_dice, [], []⟩
def hd__law_draw : He.DefD := ⟨("_law_draw", none), "_law_draw", "_law_draw", defArgs s__law_draw, defBody s__law_draw, defScope s__law_draw, [], []⟩
def hd__law_power : He.DefD := ⟨("_law_power", none), "_law_power", "_law_power", defArgs s__law_power, defBody s__law_power, defScope s__law_power, [], []⟩
def hd__law_turned : He.DefD := ⟨("_law_turned", none), "_law_turned", "_law_turned", defArgs s__law_turned, defBody s__law_turned, defScope s__law_turned, [], []⟩
def hd__law_is_count : He.DefD := ⟨("_law_is_count", none), "_law_is_count", "_law_is_count", defArgs s__law_is_count, defBody s__law_is_count, defScope s__law_is_count, [], []⟩
def hd__law_is_coupling : He.DefD := ⟨("_law_is_coupling", none), "_law_is_coupling", "_law_is_coupling", defArgs s__law_is_coupling, defBody s__law_is_coupling, defScope s__law_is_coupling, [], []⟩
def hd__law_order : He.DefD := ⟨("_law_order", none), "_law_order", "_law_order", defArgs s__law_order, defBody s__law_order, defScope s__law_order, [], []⟩
def hd__law_often : He.DefD := ⟨("_law_often", none), "_law_often", "_law_often", defArgs s__law_often, defBody s__law_often, defScope s__law_often, [], []⟩
def hd__law_flag : He.DefD := ⟨("_law_flag", none), "_law_flag", "_law_flag", defArgs s__law_flag, defBody s__law_flag, defScope s__law_flag, [], []⟩
def hd__law_fours : He.DefD := ⟨("_law_fours", none), "_law_fours", "_law_fours", defArgs s__law_fours, defBody s__law_fours, defScope s__law_fours, [], []⟩
def hd__law_near : He.DefD := ⟨("_law_near", none), "_law_near", "_law_near", defArgs s__law_near, defBody s__law_near, defScope s__law_near, [], []⟩
def hd_law : He.DefD := ⟨("law", none), "law", "law", defArgs s_law, defBody s_law, defScope s_law, [], []⟩
def hfn : List He.DefD := [hd_is_integer, hd_is_within, hd_is_many, hd_plain, hd_slips_of, hd_unlike_in, hd_has_yes, hd_turned, hd_check_numbers, hd_are_possible, hd_can_be_often, hd_without, hd_turned_all, hd_six_nearly, hd_doubled, hd_with_couples, hd_coupling_often, hd__law_dice, hd__law_draw, hd__law_power, hd__law_turned, hd__law_is_count, hd__law_is_coupling, hd__law_order, hd__law_often, hd__law_flag, hd__law_fours, hd__law_near, hd_law]
def hfa0 : List He.Fa := [.glo "is_integer", .glo "is_within", .glo "is_many", .glo "plain", .glo "slips_of", .glo "unlike_in", .glo "has_yes", .glo "turned", .glo "check_numbers", .glo "are_possible", .glo "can_be_often", .glo "without", .glo "turned_all", .glo "six_nearly", .glo "doubled", .glo "with_couples", .glo "coupling_often", .glo "_law_dice", .glo "_law_draw", .glo "_law_power", .glo "_law_turned", .glo "_law_is_count", .glo "_law_is_coupling", .glo "_law_order", .glo "_law_often", .glo "_law_flag", .glo "_law_fours", .glo "_law_near", .glo "law", .glo "NoNumbers"]
def hfa1 : List He.Fa := [.exc "NoNumbers", .free "abs", .free "all", .free "bool", .free "enumerate", .free "int", .free "isinstance", .free "len", .free "list", .free "max", .free "min", .free "range", .free "reversed", .free "sorted", .free "sum", .free "tuple", .int "MOST_MEMBERS" 8, .glo "FIRST_HALF", .glo "FOUR_ALIKE", .glo "FOUR_COUPLING", .glo "POWERS", .glo "SECOND_HALF", .glo "SIX_NEARLY"]
def hfa : List He.Fa := hfa0 ++ hfa1
def hv_FIRST_HALF : List He.Dv := [.int 4, .int 4, .int 4, .int 2, .int 2]
def hv_FOUR_ALIKE : List He.Dv := [.int 2, .int 2, .int 2, .int 2]
def hv_FOUR_COUPLING : List He.Dv := [.int 3, .int 3, .int 1, .int 1, .int 0, .int 0, .int 1, .int 1, .int 2, .int 2, .int 2, .int 2, .int 0, .int 0, .int 3, .int 3]
def hv_POWERS : List He.Dv := [.int 1, .int 2, .int 4, .int 8, .int 16, .int 32, .int 64, .int 128, .int 256]
def hv_SECOND_HALF : List He.Dv := [.int 4, .int 2, .int 2, .int 4, .int 4]
def hv_SIX_NEARLY : List He.Dv := [.int 2, .int 6, .int 6, .int 6, .int 6, .int 6]
def hex (K : PySem.W.Frag) : Bool := ktB K "FIRST_HALF" hv_FIRST_HALF && (ktB K "FOUR_ALIKE" hv_FOUR_ALIKE && (ktB K "FOUR_COUPLING" hv_FOUR_COUPLING && (ktB K "POWERS" hv_POWERS && (ktB K "SECOND_HALF" hv_SECOND_HALF && (ktB K "SIX_NEARLY" hv_SIX_NEARLY)))))
abbrev hR : PySem.W.OpenRow := PySem.W.OpenLaw.row PySem.Challenge.rw_owncause_k48_whole_numbers_of_many_membe
abbrev hk : PySem.W.Hook := hookE 4 hfa hfn hex
def hob (s : PySem.W.SharedT) : AlE := obsE 4 hfa hfn hex (HandSHeadRun.getT s)
theorem hob_eq (s : PySem.W.SharedT) : hob s = hk.obs s.abs := obsE_eq (HandSHeadRun.getT_eq s)
def hlo0 : List Str := ["__name__", "CauseError", "NoNumbers", "MOST_MEMBERS", "POWERS", "is_integer", "is_within", "is_many", "plain", "slips_of", "unlike_in", "has_yes", "turned", "FOUR_ALIKE", "FOUR_COUPLING", "SIX_NEARLY", "FIRST_HALF", "SECOND_HALF", "check_numbers", "are_possible", "can_be_often", "coupling_often", "without", "with_couples", "doubled", "turned_all", "six_nearly", "_law_dice", "_law_draw", "_law_power"]
def hlo1 : List Str := ["_law_turned", "_law_is_count", "_law_is_coupling", "_law_order", "_law_often", "_law_flag", "_law_fours", "_law_near"]
def hlo : List Str := hlo0 ++ hlo1
theorem hrun (w : World) : HandSHeadRun.RunEq hR (PySem.W.view hR.prog [42]) hk hob 2000 hlo w := by
  intro os
  kernel_rfl
def adr (K : PySem.W.Frag) : Ad := ⟨He.ga K "NoNumbers"⟩
theorem t_ok_SIX_NEARLY {K : PySem.W.Frag} {S : Hp} : Reps K S (hv_SIX_NEARLY.map (He.Dv.v K)) t_SIX_NEARLY := ⟨_, _, rfl, rfl, ⟨_, _, rfl, rfl, ⟨_, _, rfl, rfl, ⟨_, _, rfl, rfl, ⟨_, _, rfl, rfl, ⟨_, _, rfl, rfl, rfl⟩⟩⟩⟩⟩⟩
theorem t_ok_SECOND_HALF {K : PySem.W.Frag} {S : Hp} : Reps K S (hv_SECOND_HALF.map (He.Dv.v K)) t_SECOND_HALF := ⟨_, _, rfl, rfl, ⟨_, _, rfl, rfl, ⟨_, _, rfl, rfl, ⟨_, _, rfl, rfl, ⟨_, _, rfl, rfl, rfl⟩⟩⟩⟩⟩
theorem t_ok_POWERS {K : PySem.W.Frag} {S : Hp} : Reps K S (hv_POWERS.map (He.Dv.v K)) t_POWERS := ⟨_, _, rfl, rfl, ⟨_, _, rfl, rfl, ⟨_, _, rfl, rfl, ⟨_, _, rfl, rfl, ⟨_, _, rfl, rfl, ⟨_, _, rfl, rfl, ⟨_, _, rfl, rfl, ⟨_, _, rfl, rfl, ⟨_, _, rfl, rfl, rfl⟩⟩⟩⟩⟩⟩⟩⟩⟩
theorem t_ok_FOUR_COUPLING {K : PySem.W.Frag} {S : Hp} : Reps K S (hv_FOUR_COUPLING.map (He.Dv.v K)) t_FOUR_COUPLING := ⟨_, _, rfl, rfl, ⟨_, _, rfl, rfl, ⟨_, _, rfl, rfl, ⟨_, _, rfl, rfl, ⟨_, _, rfl, rfl, ⟨_, _, rfl, rfl, ⟨_, _, rfl, rfl, ⟨_, _, rfl, rfl, ⟨_, _, rfl, rfl, ⟨_, _, rfl, rfl, ⟨_, _, rfl, rfl, ⟨_, _, rfl, rfl, ⟨_, _, rfl, rfl, ⟨_, _, rfl, rfl, ⟨_, _, rfl, rfl, ⟨_, _, rfl, rfl, rfl⟩⟩⟩⟩⟩⟩⟩⟩⟩⟩⟩⟩⟩⟩⟩⟩
theorem t_ok_FOUR_ALIKE {K : PySem.W.Frag} {S : Hp} : Reps K S (hv_FOUR_ALIKE.map (He.Dv.v K)) t_FOUR_ALIKE := ⟨_, _, rfl, rfl, ⟨_, _, rfl, rfl, ⟨_, _, rfl, rfl, ⟨_, _, rfl, rfl, rfl⟩⟩⟩⟩
theorem t_ok_FIRST_HALF {K : PySem.W.Frag} {S : Hp} : Reps K S (hv_FIRST_HALF.map (He.Dv.v K)) t_FIRST_HALF := ⟨_, _, rfl, rfl, ⟨_, _, rfl, rfl, ⟨_, _, rfl, rfl, ⟨_, _, rfl, rfl, ⟨_, _, rfl, rfl, rfl⟩⟩⟩⟩⟩
theorem facts {K : PySem.W.Frag} {h : Heap} {mg : Str → Option Value} (X : K.In h) (G : h.Ns mainGlobals mg) (c : He.SaysD hfa hfn K) (e : hex K = true) : Fc (adr K) K mg where
  b_abs := He.free_ok X G (c.fact 31 (f := .free "abs") rfl)
  b_all := He.free_ok X G (c.fact 32 (f := .free "all") rfl)
  b_bool := He.free_ok X G (c.fact 33 (f := .free "bool") rfl)
  b_enumerate := He.free_ok X G (c.fact 34 (f := .free "enumerate") rfl)
  b_int := He.free_ok X G (c.fact 35 (f := .free "int") rfl)
  b_isinstance := He.free_ok X G (c.fact 36 (f := .free "isinstance") rfl)
  b_len := He.free_ok X G (c.fact 37 (f := .free "len") rfl)
  b_list := He.free_ok X G (c.fact 38 (f := .free "list") rfl)
  b_max := He.free_ok X G (c.fact 39 (f := .free "max") rfl)
  b_min := He.free_ok X G (c.fact 40 (f := .free "min") rfl)
  b_range := He.free_ok X G (c.fact 41 (f := .free "range") rfl)
  b_reversed := He.free_ok X G (c.fact 42 (f := .free "reversed") rfl)
  b_sorted := He.free_ok X G (c.fact 43 (f := .free "sorted") rfl)
  b_sum := He.free_ok X G (c.fact 44 (f := .free "sum") rfl)
  b_tuple := He.free_ok X G (c.fact 45 (f := .free "tuple") rfl)
  i_MOST_MEMBERS := gi_of (He.int_ok X G (c.fact 46 (f := .int "MOST_MEMBERS" 8) rfl))
  t_FIRST_HALF := gt_of (He.glo_ok X G (c.fact 47 (f := .glo "FIRST_HALF") rfl)) (He.ba e).1 t_ok_FIRST_HALF
  t_FOUR_ALIKE := gt_of (He.glo_ok X G (c.fact 48 (f := .glo "FOUR_ALIKE") rfl)) (He.ba (He.ba e).2).1 t_ok_FOUR_ALIKE
  t_FOUR_COUPLING := gt_of (He.glo_ok X G (c.fact 49 (f := .glo "FOUR_COUPLING") rfl)) (He.ba (He.ba (He.ba e).2).2).1 t_ok_FOUR_COUPLING
  t_POWERS := gt_of (He.glo_ok X G (c.fact 50 (f := .glo "POWERS") rfl)) (He.ba (He.ba (He.ba (He.ba e).2).2).2).1 t_ok_POWERS
  t_SECOND_HALF := gt_of (He.glo_ok X G (c.fact 51 (f := .glo "SECOND_HALF") rfl)) (He.ba (He.ba (He.ba (He.ba (He.ba e).2).2).2).2).1 t_ok_SECOND_HALF
  t_SIX_NEARLY := gt_of (He.glo_ok X G (c.fact 52 (f := .glo "SIX_NEARLY") rfl)) (He.ba (He.ba (He.ba (He.ba (He.ba e).2).2).2).2).2 t_ok_SIX_NEARLY
  x_NoNumbers := exc_of (He.glo_ok X G (c.fact 29 (f := .glo "NoNumbers") rfl)) (He.exc_ok (c.fact 30 (f := .exc "NoNumbers") rfl))
  d_is_integer := gd_of (He.glo_ok X G (c.fact 0 (f := .glo "is_integer") rfl)) (c.def_ 0 (d := hd_is_integer) rfl)
  d_is_within := gd_of (He.glo_ok X G (c.fact 1 (f := .glo "is_within") rfl)) (c.def_ 1 (d := hd_is_within) rfl)
  d_is_many := gd_of (He.glo_ok X G (c.fact 2 (f := .glo "is_many") rfl)) (c.def_ 2 (d := hd_is_many) rfl)
  d_plain := gd_of (He.glo_ok X G (c.fact 3 (f := .glo "plain") rfl)) (c.def_ 3 (d := hd_plain) rfl)
  d_slips_of := gd_of (He.glo_ok X G (c.fact 4 (f := .glo "slips_of") rfl)) (c.def_ 4 (d := hd_slips_of) rfl)
  d_unlike_in := gd_of (He.glo_ok X G (c.fact 5 (f := .glo "unlike_in") rfl)) (c.def_ 5 (d := hd_unlike_in) rfl)
  d_has_yes := gd_of (He.glo_ok X G (c.fact 6 (f := .glo "has_yes") rfl)) (c.def_ 6 (d := hd_has_yes) rfl)
  d_turned := gd_of (He.glo_ok X G (c.fact 7 (f := .glo "turned") rfl)) (c.def_ 7 (d := hd_turned) rfl)
  d_check_numbers := gd_of (He.glo_ok X G (c.fact 8 (f := .glo "check_numbers") rfl)) (c.def_ 8 (d := hd_check_numbers) rfl)
  d_are_possible := gd_of (He.glo_ok X G (c.fact 9 (f := .glo "are_possible") rfl)) (c.def_ 9 (d := hd_are_possible) rfl)
  d_can_be_often := gd_of (He.glo_ok X G (c.fact 10 (f := .glo "can_be_often") rfl)) (c.def_ 10 (d := hd_can_be_often) rfl)
  d_without := gd_of (He.glo_ok X G (c.fact 11 (f := .glo "without") rfl)) (c.def_ 11 (d := hd_without) rfl)
  d_turned_all := gd_of (He.glo_ok X G (c.fact 12 (f := .glo "turned_all") rfl)) (c.def_ 12 (d := hd_turned_all) rfl)
  d_six_nearly := gd_of (He.glo_ok X G (c.fact 13 (f := .glo "six_nearly") rfl)) (c.def_ 13 (d := hd_six_nearly) rfl)
  d_doubled := gd_of (He.glo_ok X G (c.fact 14 (f := .glo "doubled") rfl)) (c.def_ 14 (d := hd_doubled) rfl)
  d_with_couples := gd_of (He.glo_ok X G (c.fact 15 (f := .glo "with_couples") rfl)) (c.def_ 15 (d := hd_with_couples) rfl)
  d_coupling_often := gd_of (He.glo_ok X G (c.fact 16 (f := .glo "coupling_often") rfl)) (c.def_ 16 (d := hd_coupling_often) rfl)
  d__law_dice := gd_of (He.glo_ok X G (c.fact 17 (f := .glo "_law_dice") rfl)) (c.def_ 17 (d := hd__law_dice) rfl)
  d__law_draw := gd_of (He.glo_ok X G (c.fact 18 (f := .glo "_law_draw") rfl)) (c.def_ 18 (d := hd__law_draw) rfl)
  d__law_power := gd_of (He.glo_ok X G (c.fact 19 (f := .glo "_law_power") rfl)) (c.def_ 19 (d := hd__law_power) rfl)
  d__law_turned := gd_of (He.glo_ok X G (c.fact 20 (f := .glo "_law_turned") rfl)) (c.def_ 20 (d := hd__law_turned) rfl)
  d__law_is_count := gd_of (He.glo_ok X G (c.fact 21 (f := .glo "_law_is_count") rfl)) (c.def_ 21 (d := hd__law_is_count) rfl)
  d__law_is_coupling := gd_of (He.glo_ok X G (c.fact 22 (f := .glo "_law_is_coupling") rfl)) (c.def_ 22 (d := hd__law_is_coupling) rfl)
  d__law_order := gd_of (He.glo_ok X G (c.fact 23 (f := .glo "_law_order") rfl)) (c.def_ 23 (d := hd__law_order) rfl)
  d__law_often := gd_of (He.glo_ok X G (c.fact 24 (f := .glo "_law_often") rfl)) (c.def_ 24 (d := hd__law_often) rfl)
  d__law_flag := gd_of (He.glo_ok X G (c.fact 25 (f := .glo "_law_flag") rfl)) (c.def_ 25 (d := hd__law_flag) rfl)
  d__law_fours := gd_of (He.glo_ok X G (c.fact 26 (f := .glo "_law_fours") rfl)) (c.def_ 26 (d := hd__law_fours) rfl)
  d__law_near := gd_of (He.glo_ok X G (c.fact 27 (f := .glo "_law_near") rfl)) (c.def_ 27 (d := hd__law_near) rfl)
  d_law := gd_of (He.glo_ok X G (c.fact 28 (f := .glo "law") rfl)) (c.def_ 28 (d := hd_law) rfl)
end LW
open PySem PySem.W PySem.Calls PyProof.Rows Cl
theorem PySem.Challenge.cw_owncause_k48_whole_numbers_of_many_membe_holds : PySem.Challenge.rw_owncause_k48_whole_numbers_of_many_membe.Holds := by
  w_on; o_law
  refine HandSHeadRun.head_any (r := OpenLaw.row PySem.Challenge.rw_owncause_k48_whole_numbers_of_many_membe) (q := view (OpenLaw.row PySem.Challenge.rw_owncause_k48_whole_numbers_of_many_membe).prog [42]) (H := LW.hk) (ob := LW.hob) (M := 2000) (loose := LW.hlo) (d := HandSHeadRun.topDef (OpenLaw.row PySem.Challenge.rw_owncause_k48_whole_numbers_of_many_membe).prog 42) (kwd := []) LW.hob_eq
    (by kernel_rfl) (fun s => by kernel_rfl) LW.hrun (by kernel_rfl) (by kernel_rfl) (by kernel_rfl) (by rfl) (by first | assumption | decide +kernel) (by decide +kernel) ⟨rfl, rfl, rfl, rfl, rfl, by decide +kernel⟩ ?hw ?hc
  case hw => w_witness2
  case hc =>
    refine walk_w (l := PySem.Challenge.rw_owncause_k48_whole_numbers_of_many_membe) (n := 63) (k := 41) (x := "_law_script") (CX := fun w => L2.CX PySem.Challenge.pw_owncause_k48_whole_numbers_of_many_membe w) rfl (by decide) (by kernel_rfl) ⟨rfl, by decide, by decide⟩ (fun w H s e s' z => ?cx) ?F
    case cx =>
      obtain ⟨_, _, _, _, _, _, _, _, _, _, _, _, z⟩ := z
      exact z
    case F =>
      intro w' mg fa h Y G hmg0
      obtain ⟨K, KX, c, e⟩ := Y
      have hmg : mg ("law" : PySem.Str) = some (.ref fa) := by
        have e : (HandSHeadRun.topDef (OpenLaw.row PySem.Challenge.rw_owncause_k48_whole_numbers_of_many_membe).prog 42).name = ("law" : PySem.Str) := by kernel_rfl
        rw [← e]
        exact hmg0
      have fc := LW.facts KX G c e
      obtain ⟨f0, hf, fd, F⟩ := fc.d_law
      have e2 := hmg.symm.trans hf
      cases e2
      have b := L2.FunD.bindsA (ps := ["_law_script"]) F fun _ _ _ _ _ _ us hl => match us, hl with | [_], _ => rfl
      exact ⟨K, fd, _, KX, fun s v => b s [v] rfl, fun H a ns hS => law_start hS (LW.plain (LW.adr K) ns), fun base => LW.e_all (P := (PySem.Challenge.rw_owncause_k48_whole_numbers_of_many_membe).prog) (w := w') fc F⟩
