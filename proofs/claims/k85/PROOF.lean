import PyProof.Rows.All
import Wide.All
import OpenK.AllK
import Wide.FinOn
import HandS.ForMost
import HandS.Flow
import HandS.Wide
import HandS.TupAny
import HandS.IsInst
import HandS.Exc
import HandS.CallSlots
import HandS.Deep
import HandS.Walk
import HandS.Zip
import HandS.WordsExc
import HandS.More
import PySem.Challenge.RW_willinglift_k85_whole_log_texts_there_an
import Open.SpecLaws
import HandS.EndBits
set_option Elab.async false
set_option linter.all false
set_option maxRecDepth 100000
namespace DL
open PySem PySem.Spec L2

/-- plain data of the program, by value -/
inductive D where
  | non | bl (b : Bool) | int (i : Int) | str (x : Str)
  | tup (xs : List D) | lst (xs : List D) | frz (xs : List D)
  | dK (ks : List Key) (vs : List D) | dT (ks : List (List Key)) (vs : List D)
  | ins (c : Str) (fs : List Str) (vs : List D)
  | obj (c : Str) (fs : List Str) (vs : List D)

mutual
def D.pure : D → Bool
  | .non => true
  | .bl _ => true
  | .int _ => true
  | .str _ => true
  | .tup xs => pureL xs
  | .frz _ => true
  | .lst _ => false
  | .dK _ _ => false
  | .dT _ _ => false
  | .ins _ _ _ => false
  | .obj _ _ vs => pureL vs
def pureL : List D → Bool
  | [] => true
  | d :: ds => d.pure && pureL ds
end

/-- the written part, the classes by name -/
structure Gd where
  K : PySem.W.Frag
  cm : Str → Option Addr

abbrev AP := Addr → Prop

def TupAt (U : Gd) (Z : AP) (H : Hp) (a : Addr) (vs : List V) : Prop := (Z a ∧ H a = some (.tup vs)) ∨ SqT U.K (fun _ => none) a vs
def FrzAt (U : Gd) (Z : AP) (H : Hp) (a : Addr) (vs : List V) : Prop := (Z a ∧ Rd H a (.lst vs)) ∨ SqL U.K (fun _ => none) a vs

mutual
def Own (U : Gd) (Z : AP) (H : Hp) : D → V → List Addr → Prop
  | .non, v, F => v = .non ∧ F = []
  | .bl b, v, F => v = .bl b ∧ F = []
  | .int i, v, F => v = .int i ∧ F = []
  | .str x, v, F => v = .str x ∧ F = []
  | .tup ds, v, F => ∃ a vs, v = .ref a ∧ TupAt U Z H a vs ∧ OwnL U Z H ds vs F
  | .frz ds, v, F => F = [] ∧ ∃ a vs, v = .ref a ∧ FrzAt U Z H a vs ∧ OwnL U Z H ds vs []
  | .lst ds, v, F => ∃ a vs G, v = .ref a ∧ F = a :: G ∧ H a = some (.lst vs) ∧ a ∉ G ∧ OwnL U Z H ds vs G
  | .dK ks ds, v, F => ∃ a vs G, v = .ref a ∧ F = a :: G ∧ H a = some (.dK (ks.zip vs)) ∧ a ∉ G ∧ ks.length = vs.length ∧ OwnL U Z H ds vs G
  | .dT ks ds, v, F => ∃ a vs G, v = .ref a ∧ F = a :: G ∧ H a = some (.dT (ks.zip vs)) ∧ a ∉ G ∧ ks.length = vs.length ∧ OwnL U Z H ds vs G
  | .ins c fs ds, v, F => ∃ a C dx vs G, v = .ref a ∧ F = a :: G ∧ U.cm c = some C ∧ H a = some (.ins C dx (fs.zip vs)) ∧ a ∉ G ∧ fs.length = vs.length ∧ OwnL U Z H ds vs G
  | .obj c fs ds, v, F => ∃ a C dx vs, v = .ref a ∧ U.cm c = some C ∧ Z a ∧ H a = some (.ins C dx (fs.zip vs)) ∧ fs.length = vs.length ∧ OwnL U Z H ds vs F
def OwnL (U : Gd) (Z : AP) (H : Hp) : List D → List V → List Addr → Prop
  | [], vs, F => vs = [] ∧ F = []
  | d :: ds, vs, F => ∃ v ws F1 F2, vs = v :: ws ∧ F = F1 ++ F2 ∧ Own U Z H d v F1 ∧ OwnL U Z H ds ws F2 ∧ ∀ a ∈ F1, a ∉ F2
end

section
variable {U : Gd} {Z Z' : AP} {H H' : Hp}
theorem TupAt.mono {a : Addr} {vs : List V} (h : TupAt U Z H a vs) (hz : ∀ a, Z a → Z' a) (k : ∀ a o, H a = some o → Z a → H' a = some o) : TupAt U Z' H' a vs :=
  h.elim (fun ⟨z, e⟩ => .inl ⟨hz _ z, k _ _ e z⟩) .inr
theorem FrzAt.mono {a : Addr} {vs : List V} (h : FrzAt U Z H a vs) (hz : ∀ a, Z a → Z' a) (k : ∀ a o, H a = some o → Z a → H' a = some o) : FrzAt U Z' H' a vs :=
  h.elim (fun ⟨z, e⟩ => .inl ⟨hz _ z, e.elim (fun e => .inl (k _ _ e z)) fun ⟨o, e⟩ => .inr ⟨o, k _ _ e z⟩⟩) .inr
theorem TupAt.sq {a : Addr} {vs : List V} (h : TupAt U Z H a vs) : SqT U.K H a vs := by
  rcases h with ⟨_, e⟩ | h
  · exact .inl (.inl e)
  · rcases h with (h | ⟨_, h⟩) | h
    · cases h
    · cases h
    · exact .inr h
theorem FrzAt.sq {a : Addr} {vs : List V} (h : FrzAt U Z H a vs) : SqL U.K H a vs := by
  rcases h with ⟨_, e⟩ | h
  · exact .inl e
  · rcases h with (h | ⟨_, h⟩) | h
    · cases h
    · cases h
    · exact .inr h

mutual
theorem Own.mono (hz : ∀ a, Z a → Z' a) : ∀ {d : D} {v : V} {F : List Addr}, Own U Z H d v F → (∀ a o, H a = some o → (Z a ∨ a ∈ F) → H' a = some o) → Own U Z' H' d v F
  | .non, _, _, h, _ => h
  | .bl _, _, _, h, _ => h
  | .int _, _, _, h, _ => h
  | .str _, _, _, h, _ => h
  | .tup ds, v, F, h, k => by
    unfold Own at h ⊢
    obtain ⟨a, vs, e, t, l⟩ := h
    exact ⟨a, vs, e, t.mono hz fun a o e z => k a o e (.inl z), OwnL.mono hz l k⟩
  | .frz ds, v, F, h, k => by
    unfold Own at h ⊢
    obtain ⟨e0, a, vs, e, t, l⟩ := h
    exact ⟨e0, a, vs, e, t.mono hz fun a o e z => k a o e (.inl z), OwnL.mono hz l fun a o e z => k a o e (z.elim .inl fun q => nomatch q)⟩
  | .lst ds, v, F, h, k => by
    unfold Own at h ⊢
    obtain ⟨a, vs, G, e, ef, q, n, l⟩ := h
    subst ef
    exact ⟨a, vs, G, e, rfl, k _ _ q (.inr List.mem_cons_self), n, OwnL.mono hz l fun a o e z => k a o e (z.elim .inl fun q => .inr (List.mem_cons_of_mem _ q))⟩
  | .dK ks ds, v, F, h, k => by
    unfold Own at h ⊢
    obtain ⟨a, vs, G, e, ef, q, n, el, l⟩ := h
    subst ef
    exact ⟨a, vs, G, e, rfl, k _ _ q (.inr List.mem_cons_self), n, el, OwnL.mono hz l fun a o e z => k a o e (z.elim .inl fun q => .inr (List.mem_cons_of_mem _ q))⟩
  | .dT ks ds, v, F, h, k => by
    unfold Own at h ⊢
    obtain ⟨a, vs, G, e, ef, q, n, el, l⟩ := h
    subst ef
    exact ⟨a, vs, G, e, rfl, k _ _ q (.inr List.mem_cons_self), n, el, OwnL.mono hz l fun a o e z => k a o e (z.elim .inl fun q => .inr (List.mem_cons_of_mem _ q))⟩
  | .ins c fs ds, v, F, h, k => by
    unfold Own at h ⊢
    obtain ⟨a, C, dx, vs, G, e, ef, ec, q, n, el, l⟩ := h
    subst ef
    exact ⟨a, C, dx, vs, G, e, rfl, ec, k _ _ q (.inr List.mem_cons_self), n, el, OwnL.mono hz l fun a o e z => k a o e (z.elim .inl fun q => .inr (List.mem_cons_of_mem _ q))⟩
  | .obj c fs ds, v, F, h, k => by
    unfold Own at h ⊢
    obtain ⟨a, C, dx, vs, e, ec, z, q, el, l⟩ := h
    exact ⟨a, C, dx, vs, e, ec, hz _ z, k _ _ q (.inl z), el, OwnL.mono hz l k⟩
theorem OwnL.mono (hz : ∀ a, Z a → Z' a) : ∀ {ds : List D} {vs : List V} {F : List Addr}, OwnL U Z H ds vs F → (∀ a o, H a = some o → (Z a ∨ a ∈ F) → H' a = some o) → OwnL U Z' H' ds vs F
  | [], _, _, h, _ => h
  | d :: ds, vs, F, h, k => by
    unfold OwnL at h ⊢
    obtain ⟨v, ws, F1, F2, e, ef, o1, o2, dj⟩ := h
    subst ef
    exact ⟨v, ws, F1, F2, e, rfl, Own.mono hz o1 fun a o e z => k a o e (z.elim .inl fun q => .inr (List.mem_append_left _ q)),
      OwnL.mono hz o2 fun a o e z => k a o e (z.elim .inl fun q => .inr (List.mem_append_right _ q)), dj⟩
end

mutual
theorem Own.pureF : ∀ {d : D} {v : V} {F : List Addr}, Own U Z H d v F → d.pure = true → F = []
  | .non, _, _, h, _ => h.2
  | .bl _, _, _, h, _ => h.2
  | .int _, _, _, h, _ => h.2
  | .str _, _, _, h, _ => h.2
  | .tup ds, v, F, h, k => by
    unfold Own at h
    obtain ⟨a, vs, e, t, l⟩ := h
    exact OwnL.pureF l k
  | .frz ds, v, F, h, k => by
    unfold Own at h
    exact h.1
  | .lst ds, v, F, h, k => nomatch k
  | .dK ks ds, v, F, h, k => nomatch k
  | .dT ks ds, v, F, h, k => nomatch k
  | .ins c fs ds, v, F, h, k => nomatch k
  | .obj c fs ds, v, F, h, k => by
    unfold Own at h
    obtain ⟨a, C, dx, vs, e, ec, z, q, el, l⟩ := h
    exact OwnL.pureF l k
theorem OwnL.pureF : ∀ {ds : List D} {vs : List V} {F : List Addr}, OwnL U Z H ds vs F → pureL ds = true → F = []
  | [], _, _, h, _ => h.2
  | d :: ds, vs, F, h, k => by
    unfold OwnL at h
    obtain ⟨v, ws, F1, F2, e, ef, o1, o2, dj⟩ := h
    unfold pureL at k
    rw [Bool.and_eq_true] at k
    rw [ef, Own.pureF o1 k.1, OwnL.pureF o2 k.2]
    rfl
end

mutual
theorem Own.dom : ∀ {d : D} {v : V} {F : List Addr}, Own U Z H d v F → ∀ a ∈ F, ∃ o, H a = some o
  | .non, _, _, h, a, m => by rw [h.2] at m; cases m
  | .bl _, _, _, h, a, m => by rw [h.2] at m; cases m
  | .int _, _, _, h, a, m => by rw [h.2] at m; cases m
  | .str _, _, _, h, a, m => by rw [h.2] at m; cases m
  | .tup ds, v, F, h, a, m => by
    unfold Own at h
    obtain ⟨_, vs, e, t, l⟩ := h
    exact OwnL.dom l a m
  | .frz ds, v, F, h, a, m => by
    unfold Own at h
    rw [h.1] at m; cases m
  | .lst ds, v, F, h, a, m => by
    unfold Own at h
    obtain ⟨b, vs, G, e, ef, q, n, l⟩ := h
    subst ef
    rcases List.mem_cons.mp m with rfl | m
    · exact ⟨_, q⟩
    · exact OwnL.dom l a m
  | .dK ks ds, v, F, h, a, m => by
    unfold Own at h
    obtain ⟨b, vs, G, e, ef, q, n, el, l⟩ := h
    subst ef
    rcases List.mem_cons.mp m with rfl | m
    · exact ⟨_, q⟩
    · exact OwnL.dom l a m
  | .dT ks ds, v, F, h, a, m => by
    unfold Own at h
    obtain ⟨b, vs, G, e, ef, q, n, el, l⟩ := h
    subst ef
    rcases List.mem_cons.mp m with rfl | m
    · exact ⟨_, q⟩
    · exact OwnL.dom l a m
  | .ins c fs ds, v, F, h, a, m => by
    unfold Own at h
    obtain ⟨b, C, dx, vs, G, e, ef, ec, q, n, el, l⟩ := h
    subst ef
    rcases List.mem_cons.mp m with rfl | m
    · exact ⟨_, q⟩
    · exact OwnL.dom l a m
  | .obj c fs ds, v, F, h, a, m => by
    unfold Own at h
    obtain ⟨b, C, dx, vs, e, ec, z, q, el, l⟩ := h
    exact OwnL.dom l a m
theorem OwnL.dom : ∀ {ds : List D} {vs : List V} {F : List Addr}, OwnL U Z H ds vs F → ∀ a ∈ F, ∃ o, H a = some o
  | [], _, _, h, a, m => by rw [h.2] at m; cases m
  | d :: ds, vs, F, h, a, m => by
    unfold OwnL at h
    obtain ⟨v, ws, F1, F2, e, ef, o1, o2, dj⟩ := h
    subst ef
    rcases List.mem_append.mp m with m | m
    · exact Own.dom o1 a m
    · exact OwnL.dom o2 a m
end

theorem OwnL.nil : OwnL U Z H [] [] [] := by unfold OwnL; exact ⟨rfl, rfl⟩
theorem OwnL.cons {d : D} {ds : List D} {v : V} {vs : List V} {F G : List Addr} (h : Own U Z H d v F) (t : OwnL U Z H ds vs G) (dj : ∀ a ∈ F, a ∉ G) : OwnL U Z H (d :: ds) (v :: vs) (F ++ G) := by
  unfold OwnL; exact ⟨v, vs, F, G, rfl, rfl, h, t, dj⟩
theorem OwnL.cases {d : D} {ds : List D} {vs : List V} {F : List Addr} (h : OwnL U Z H (d :: ds) vs F) : ∃ v ws F1 F2, vs = v :: ws ∧ F = F1 ++ F2 ∧ Own U Z H d v F1 ∧ OwnL U Z H ds ws F2 ∧ ∀ a ∈ F1, a ∉ F2 := by
  unfold OwnL at h; exact h
theorem OwnL.len : ∀ {ds : List D} {vs : List V} {F : List Addr}, OwnL U Z H ds vs F → vs.length = ds.length
  | [], _, _, h => by unfold OwnL at h; rw [h.1]; rfl
  | d :: ds, vs, F, h => by
    obtain ⟨v, ws, F1, F2, rfl, rfl, _, t, _⟩ := h.cases
    rw [List.length_cons, List.length_cons, t.len]
theorem OwnL.append : ∀ {ds : List D} {es : List D} {vs ws : List V} {F G : List Addr}, OwnL U Z H ds vs F → OwnL U Z H es ws G → (∀ a ∈ F, a ∉ G) → OwnL U Z H (ds ++ es) (vs ++ ws) (F ++ G)
  | [], _, _, _, _, _, h, t, _ => by
    unfold OwnL at h
    obtain ⟨rfl, rfl⟩ := h
    exact t
  | d :: ds, es, vs, ws, F, G, h, t, dj => by
    obtain ⟨v, us, F1, F2, rfl, rfl, o1, o2, d1⟩ := h.cases
    rw [List.cons_append, List.cons_append, List.append_assoc]
    refine OwnL.cons o1 (OwnL.append o2 t fun a m => dj a (List.mem_append_right _ m)) fun a m q => ?_
    rcases List.mem_append.mp q with q | q
    · exact d1 a m q
    · exact dj a (List.mem_append_left _ m) q
theorem OwnL.get : ∀ {ds : List D} {vs : List V} {F : List Addr} {i : Nat} {d : D}, OwnL U Z H ds vs F → ds[i]? = some d → ∃ v G, vs[i]? = some v ∧ Own U Z H d v G ∧ ∀ a ∈ G, a ∈ F
  | [], _, _, _, _, _, e => by cases e
  | d0 :: ds, vs, F, 0, d, h, e => by
    obtain ⟨v, us, F1, F2, rfl, rfl, o1, o2, d1⟩ := h.cases
    cases e
    exact ⟨v, F1, rfl, o1, fun a m => List.mem_append_left _ m⟩
  | d0 :: ds, vs, F, i + 1, d, h, e => by
    obtain ⟨v, us, F1, F2, rfl, rfl, o1, o2, d1⟩ := h.cases
    obtain ⟨v', G, e', o, s⟩ := OwnL.get (i := i) o2 (by simpa using e)
    exact ⟨v', G, by simpa using e', o, fun a m => List.mem_append_right _ (s a m)⟩
theorem OwnL.set : ∀ {ds : List D} {vs : List V} {F : List Addr} (i : Nat) {d : D} {v : V} {G : List Addr}, OwnL U Z H ds vs F → Own U Z H d v G → (∀ a ∈ G, a ∉ F) → ∃ F', OwnL U Z H (ds.set i d) (vs.set i v) F' ∧ ∀ a ∈ F', a ∈ F ∨ a ∈ G
  | [], _, _, _, _, _, _, h, _, _ => by
    unfold OwnL at h
    obtain ⟨rfl, rfl⟩ := h
    exact ⟨[], OwnL.nil, fun a m => nomatch m⟩
  | d0 :: ds, vs, F, 0, d, v, G, h, o, dj => by
    obtain ⟨v0, us, F1, F2, rfl, rfl, o1, o2, d1⟩ := h.cases
    exact ⟨G ++ F2, OwnL.cons o o2 fun a m q => dj a m (List.mem_append_right _ q), fun a m => (List.mem_append.mp m).elim .inr fun q => .inl (List.mem_append_right _ q)⟩
  | d0 :: ds, vs, F, i + 1, d, v, G, h, o, dj => by
    obtain ⟨v0, us, F1, F2, rfl, rfl, o1, o2, d1⟩ := h.cases
    obtain ⟨F', t, s⟩ := OwnL.set i o2 o fun a m q => dj a m (List.mem_append_right _ q)
    refine ⟨F1 ++ F', OwnL.cons o1 t fun a m q => ?_, fun a m => ?_⟩
    · rcases s a q with q | q
      · exact d1 a m q
      · exact dj a q (List.mem_append_left _ m)
    · rcases List.mem_append.mp m with m | m
      · exact .inl (List.mem_append_left _ m)
      · exact (s a m).elim (fun q => .inl (List.mem_append_right _ q)) .inr
theorem OwnL.take (n : Nat) : ∀ {ds : List D} {vs : List V} {F : List Addr}, OwnL U Z H ds vs F → ∃ G, OwnL U Z H (ds.take n) (vs.take n) G ∧ ∀ a ∈ G, a ∈ F := by
  induction n with
  | zero => intro ds vs F h; exact ⟨[], by rw [List.take_zero, List.take_zero]; exact OwnL.nil, fun a m => nomatch m⟩
  | succ n ih =>
    intro ds vs F h
    cases ds with
    | nil => unfold OwnL at h; obtain ⟨rfl, rfl⟩ := h; exact ⟨[], by rw [List.take_nil, List.take_nil]; exact OwnL.nil, fun a m => nomatch m⟩
    | cons d ds =>
      obtain ⟨v0, us, F1, F2, rfl, rfl, o1, o2, d1⟩ := h.cases
      obtain ⟨G, t, s⟩ := ih o2
      exact ⟨F1 ++ G, OwnL.cons o1 t fun a m q => d1 a m (s a q), fun a m => (List.mem_append.mp m).elim (fun m => List.mem_append_left _ m) fun m => List.mem_append_right _ (s a m)⟩
theorem OwnL.drop (n : Nat) : ∀ {ds : List D} {vs : List V} {F : List Addr}, OwnL U Z H ds vs F → ∃ G, OwnL U Z H (ds.drop n) (vs.drop n) G ∧ ∀ a ∈ G, a ∈ F := by
  induction n with
  | zero => intro ds vs F h; exact ⟨F, h, fun a m => m⟩
  | succ n ih =>
    intro ds vs F h
    cases ds with
    | nil => unfold OwnL at h; obtain ⟨rfl, rfl⟩ := h; exact ⟨[], by rw [List.drop_nil, List.drop_nil]; exact OwnL.nil, fun a m => nomatch m⟩
    | cons d ds =>
      obtain ⟨v0, us, F1, F2, rfl, rfl, o1, o2, d1⟩ := h.cases
      obtain ⟨G, t, s⟩ := ih o2
      exact ⟨G, t, fun a m => List.mem_append_right _ (s a m)⟩
theorem OwnL.snoc {ds : List D} {vs : List V} {F G : List Addr} {d : D} {v : V} (h : OwnL U Z H ds vs F) (o : Own U Z H d v G) (dj : ∀ a ∈ F, a ∉ G) : OwnL U Z H (ds ++ [d]) (vs ++ [v]) (F ++ G) := by
  have q := OwnL.append h (OwnL.cons o OwnL.nil fun a _ z => nomatch z) (by rw [List.append_nil]; exact dj)
  rw [List.append_nil] at q
  exact q
end

abbrev Env := List (Option D)

/-- the entry: the heap, what was frozen, what may be touched -/
structure En where
  H : Hp
  Z : AP
  al : AP

structure SR (U : Gd) (E : En) (Z : AP) (r : Env) (Fs : Nat → List Addr) (s : St) (H : Hp) : Prop where
  len : r.length = s.length
  own : ∀ i d, r[i]? = some (some d) → ∃ v, s[i]? = some (some v) ∧ Own U Z H d v (Fs i)
  emp : ∀ i, (∀ d, r[i]? ≠ some (some d)) → Fs i = []
  dis : ∀ i j a, a ∈ Fs i → a ∈ Fs j → i = j
  nz : ∀ i a, a ∈ Fs i → ¬ Z a
  zd : ∀ a, Z a → ∃ o, H a = some o
  al : ∀ i a, a ∈ Fs i → E.al a
  kp : ∀ a o, E.H a = some o → ¬ E.al a → H a = some o
  zi : ∀ a, E.Z a → Z a
  zo : ∀ a, Z a → E.Z a ∨ E.al a
  dm : ∀ a, H a = none → E.H a = none
  fr : ∀ a, E.H a = none → E.al a

theorem SR.dom {U : Gd} {E : En} {Z : AP} {r : Env} {Fs : Nat → List Addr} {s : St} {H : Hp} (S : SR U E Z r Fs s H) (i : Nat) (a : Addr) (m : a ∈ Fs i) : ∃ o, H a = some o := by
  by_cases h : ∃ d, r[i]? = some (some d)
  · obtain ⟨d, e⟩ := h
    obtain ⟨v, _, o⟩ := S.own i d e
    exact o.dom a m
  · rw [S.emp i fun d e => h ⟨d, e⟩] at m
    cases m

structure Step (Z : AP) (Fs : Nat → List Addr) (H : Hp) (R A : List Nat) (Z' : AP) (Fs' : Nat → List Addr) (H' : Hp) : Prop where
  keep : ∀ a o, H a = some o → (∀ j ∈ R, a ∉ Fs j) → H' a = some o
  zi : ∀ a, Z a → Z' a
  zo : ∀ a, Z' a → Z a ∨ H a = none ∨ ∃ j ∈ R, a ∈ Fs j
  dm : ∀ a, H' a = none → H a = none
  fs : ∀ i, i ∉ R → i ∉ A → Fs' i = Fs i
  fw : ∀ i a, a ∈ Fs' i → a ∈ Fs i ∨ H a = none ∨ ∃ j ∈ R, a ∈ Fs j

section
variable {U : Gd} {E : En} {Z Z1 Z2 : AP} {r r1 r2 : Env} {Fs Fs1 Fs2 : Nat → List Addr} {s : St} {H H1 H2 : Hp} {R R1 R2 A A1 A2 B : List Nat}
theorem some_none {α : Type} {x : Option α} {y : α} (h : x = some y) (n : x = none) : False := by rw [h] at n; cases n
theorem Step.refl : Step Z Fs H [] [] Z Fs H := ⟨fun _ _ h _ => h, fun _ h => h, fun _ h => .inl h, fun _ h => h, fun _ _ _ => rfl, fun _ _ h => .inl h⟩
theorem Step.trans (h1 : Step Z Fs H R1 A1 Z1 Fs1 H1) (h2 : Step Z1 Fs1 H1 R2 A2 Z2 Fs2 H2) : Step Z Fs H (R1 ++ R2) (A1 ++ A2) Z2 Fs2 H2 where
  keep := fun a o e n => h2.keep a o (h1.keep a o e fun j m => n j (List.mem_append_left _ m)) fun j m q => by
    rcases h1.fw j a q with q | q | ⟨k, mk, q⟩
    · exact n j (List.mem_append_right _ m) q
    · exact some_none e q
    · exact n k (List.mem_append_left _ mk) q
  zi := fun a z => h2.zi a (h1.zi a z)
  zo := fun a z => by
    rcases h2.zo a z with z | z | ⟨k, mk, q⟩
    · rcases h1.zo a z with z | z | ⟨k, mk, q⟩
      · exact .inl z
      · exact .inr (.inl z)
      · exact .inr (.inr ⟨k, List.mem_append_left _ mk, q⟩)
    · exact .inr (.inl (h1.dm a z))
    · rcases h1.fw k a q with q | q | ⟨k, mk, q⟩
      · exact .inr (.inr ⟨k, List.mem_append_right _ mk, q⟩)
      · exact .inr (.inl q)
      · exact .inr (.inr ⟨k, List.mem_append_left _ mk, q⟩)
  dm := fun a z => h1.dm a (h2.dm a z)
  fs := fun i m1 m2 => by
    rw [h2.fs i (fun q => m1 (List.mem_append_right _ q)) (fun q => m2 (List.mem_append_right _ q)), h1.fs i (fun q => m1 (List.mem_append_left _ q)) (fun q => m2 (List.mem_append_left _ q))]
  fw := fun i a m => by
    rcases h2.fw i a m with q | q | ⟨k, mk, q⟩
    · rcases h1.fw i a q with q | q | ⟨k, mk, q⟩
      · exact .inl q
      · exact .inr (.inl q)
      · exact .inr (.inr ⟨k, List.mem_append_left _ mk, q⟩)
    · exact .inr (.inl (h1.dm a q))
    · rcases h1.fw k a q with q | q | ⟨k, mk, q⟩
      · exact .inr (.inr ⟨k, List.mem_append_right _ mk, q⟩)
      · exact .inr (.inl q)
      · exact .inr (.inr ⟨k, List.mem_append_left _ mk, q⟩)
theorem Step.mono (h : Step Z Fs H R A Z1 Fs1 H1) (hr : ∀ j ∈ R, j ∈ R2) (ha : ∀ j ∈ A, j ∈ A2) : Step Z Fs H R2 A2 Z1 Fs1 H1 where
  keep := fun a o e n => h.keep a o e fun j m => n j (hr j m)
  zi := h.zi
  zo := fun a z => by
    rcases h.zo a z with z | z | ⟨k, mk, q⟩
    · exact .inl z
    · exact .inr (.inl z)
    · exact .inr (.inr ⟨k, hr k mk, q⟩)
  dm := h.dm
  fs := fun i m1 m2 => h.fs i (fun q => m1 (hr i q)) (fun q => m2 (ha i q))
  fw := fun i a m => by
    rcases h.fw i a m with z | z | ⟨k, mk, q⟩
    · exact .inl z
    · exact .inr (.inl z)
    · exact .inr (.inr ⟨k, hr k mk, q⟩)

/-- a value that an expression gave: borrowed from the slots B at most -/
structure Val (U : Gd) (E : En) (Z : AP) (H : Hp) (Fs : Nat → List Addr) (B : List Nat) (d : D) (v : V) (F : List Addr) : Prop where
  own : Own U Z H d v F
  nz : ∀ a ∈ F, ¬ Z a
  al : ∀ a ∈ F, E.al a
  dis : ∀ a ∈ F, ∀ k, a ∈ Fs k → k ∈ B
variable {d : D} {v : V} {F : List Addr}
theorem Own.step (o : Own U Z H d v F) (S : SR U E Z r Fs s H) (t : Step Z Fs H R A Z1 Fs1 H1) (nb : ∀ a ∈ F, ∀ j ∈ R, a ∉ Fs j) : Own U Z1 H1 d v F :=
  o.mono t.zi fun a q e z => t.keep a q e fun j m x => z.elim (fun z => S.nz j a x z) fun z => nb a z j m x
theorem Val.step (h : Val U E Z H Fs B d v F) (S : SR U E Z r Fs s H) (t : Step Z Fs H R A Z1 Fs1 H1) (nb : ∀ j ∈ R, j ∉ B) : Val U E Z1 H1 Fs1 B d v F where
  own := h.own.step S t fun a m j mj q => nb j mj (h.dis a m j q)
  nz := fun a m z => by
    obtain ⟨o, e⟩ := h.own.dom a m
    rcases t.zo a z with z | z | ⟨k, mk, q⟩
    · exact h.nz a m z
    · exact some_none e z
    · exact nb k mk (h.dis a m k q)
  al := h.al
  dis := fun a m k q => by
    obtain ⟨o, e⟩ := h.own.dom a m
    rcases t.fw k a q with z | z | ⟨k, mk, q⟩
    · exact h.dis a m k z
    · exact (some_none e z).elim
    · exact (nb k mk (h.dis a m k q)).elim
theorem Val.mono {B' : List Nat} (h : Val U E Z H Fs B d v F) (hb : ∀ j ∈ B, j ∈ B') : Val U E Z H Fs B' d v F := ⟨h.own, h.nz, h.al, fun a m k q => hb k (h.dis a m k q)⟩
theorem Val.ofPure (h : Own U Z H d v F) (p : d.pure = true) : Val U E Z H Fs B d v F := by
  have e := h.pureF p
  subst e
  exact ⟨h, fun _ m => (nomatch m), fun _ m => (nomatch m), fun _ m => (nomatch m)⟩
end

/-- what a D-step gives -/
inductive Res (α : Type) where
  | ok (a : α) (r : Env)
  | exc (c : Str) (fs : List Str) (vs : List D) (r : Env)
  | bad

def Res.bind {α β : Type} (x : Res α) (f : α → Env → Res β) : Res β := match x with
  | .ok a r => f a r
  | .exc c fs vs r => .exc c fs vs r
  | .bad => .bad
@[simp] theorem Res.bind_ok {α β : Type} (a : α) (r : Env) (f : α → Env → Res β) : (Res.ok a r).bind f = f a r := rfl
@[simp] theorem Res.bind_exc {α β : Type} (c : Str) (fs : List Str) (vs : List D) (r : Env) (f : α → Env → Res β) : (Res.exc c fs vs r : Res α).bind f = .exc c fs vs r := rfl
@[simp] theorem Res.bind_bad {α β : Type} (f : α → Env → Res β) : (Res.bad : Res α).bind f = .bad := rfl

/-- an exception's own dict: none where it has no fields -/
def XdAt (U : Gd) (Z : AP) (H : Hp) (dd : Option Addr) (fs : List Str) (vs : List D) : Prop :=
  (fs = [] ∧ dd = none) ∨ ∃ dx us, dd = some dx ∧ Z dx ∧ H dx = some (.xd (fs.zip us)) ∧ fs.length = us.length ∧ OwnL U Z H vs us []

/-- an exception leaves: W is told of it -/
def ExcT (U : Gd) (W : WX) (E : En) (Z : AP) (Fs : Nat → List Addr) (H : Hp) (R A : List Nat) (c : Str) (fs : List Str) (vs : List D) (r' : Env) (s : St) : Prop :=
  ∀ Z' Fs' s' H' C dd, Step Z Fs H R A Z' Fs' H' → (∀ i, i ∉ A → s'[i]? = s[i]?) → SR U E Z' r' Fs' s' H' → U.cm c = some C → XdAt U Z' H' dd fs vs → W (.ref C) dd s' H'

structure EvR (U : Gd) (E : En) (Z : AP) (Fs : Nat → List Addr) (H : Hp) (R B : List Nat) (Z' : AP) (Fs' : Nat → List Addr) (H' : Hp) (s : St) (r' : Env) (d : D) (v : V) (F : List Addr) : Prop where
  st : Step Z Fs H R [] Z' Fs' H'
  sr : SR U E Z' r' Fs' s H'
  val : Val U E Z' H' Fs' B d v F
  src : ∀ a ∈ F, (∃ j ∈ B, a ∈ Fs' j) ∨ H a = none ∨ ∃ j ∈ R, a ∈ Fs j

def postE (U : Gd) (W : WX) (E : En) (Z : AP) (Fs : Nat → List Addr) (H : Hp) (s : St) (R B : List Nat) (x : Res D) (Q : VK) : Prop := match x with
  | .ok d r' => ∀ Z' Fs' H' v F, EvR U E Z Fs H R B Z' Fs' H' s r' d v F → Q v H'
  | .exc c fs vs r' => ExcT U W E Z Fs H R [] c fs vs r' s
  | .bad => False
def tX (U : Gd) (W : WX) (R B : List Nat) (f : Env → Res D) : TE := fun s H Q => ∃ E Z r Fs, SR U E Z r Fs s H ∧ postE U W E Z Fs H s R B (f r) Q

/-- the expression e does f -/
structure SX (X : Cx) (cm : Str → Option Addr) (W : WX) (R B : List Nat) (e : Expr) (f : Env → Res D) : Prop where
  run : PE X e (tX ⟨X.K, cm⟩ W R B f)

def postT (U : Gd) (W : WX) (E : En) (Z : AP) (Fs : Nat → List Addr) (H : Hp) (s : St) (R : List Nat) (x : Res Bool) (Q : Bool → Hp → Prop) : Prop := match x with
  | .ok b r' => ∀ Z' Fs' H', Step Z Fs H R [] Z' Fs' H' → SR U E Z' r' Fs' s H' → Q b H'
  | .exc c fs vs r' => ExcT U W E Z Fs H R [] c fs vs r' s
  | .bad => False
def tTs (U : Gd) (W : WX) (R : List Nat) (f : Env → Res Bool) : TT := fun s H Q => ∃ E Z r Fs, SR U E Z r Fs s H ∧ postT U W E Z Fs H s R (f r) Q
structure ST (X : Cx) (cm : Str → Option Addr) (W : WX) (R : List Nat) (e : Expr) (f : Env → Res Bool) : Prop where
  run : PT X e (tTs ⟨X.K, cm⟩ W R f)
structure SW (X : Cx) (cm : Str → Option Addr) (W : WX) (R : List Nat) (e : Expr) (f : Env → Res Bool) : Prop where
  run : PW X e (tTs ⟨X.K, cm⟩ W R f)

/-- values of an argument list: two of them share only what is borrowed -/
def ValL (U : Gd) (E : En) (Z : AP) (H : Hp) (Fs : Nat → List Addr) (B : List Nat) : List D → List V → List (List Addr) → Prop
  | [], vs, Fl => vs = [] ∧ Fl = []
  | d :: ds, vs, Fl => ∃ v ws F Gl, vs = v :: ws ∧ Fl = F :: Gl ∧ Val U E Z H Fs B d v F ∧ ValL U E Z H Fs B ds ws Gl ∧ ∀ a ∈ F, ∀ G ∈ Gl, a ∈ G → ∃ k, a ∈ Fs k
structure EvL (U : Gd) (E : En) (Z : AP) (Fs : Nat → List Addr) (H : Hp) (R B : List Nat) (Z' : AP) (Fs' : Nat → List Addr) (H' : Hp) (s : St) (r' : Env) (ds : List D) (vs : List V) (Fl : List (List Addr)) : Prop where
  st : Step Z Fs H R [] Z' Fs' H'
  sr : SR U E Z' r' Fs' s H'
  val : ValL U E Z' H' Fs' B ds vs Fl
  src : ∀ G ∈ Fl, ∀ a ∈ G, (∃ j ∈ B, a ∈ Fs' j) ∨ H a = none ∨ ∃ j ∈ R, a ∈ Fs j
def postL (U : Gd) (W : WX) (E : En) (Z : AP) (Fs : Nat → List Addr) (H : Hp) (s : St) (R B : List Nat) (x : Res (List D)) (Q : List V → Hp → Prop) : Prop := match x with
  | .ok ds r' => ∀ Z' Fs' H' vs Fl, EvL U E Z Fs H R B Z' Fs' H' s r' ds vs Fl → Q vs H'
  | .exc c fs vs r' => ExcT U W E Z Fs H R [] c fs vs r' s
  | .bad => False
def tAs (U : Gd) (W : WX) (R B : List Nat) (f : Env → Res (List D)) : TA := fun s H Q => ∃ E Z r Fs, SR U E Z r Fs s H ∧ postL U W E Z Fs H s R B (f r) Q
structure SA (X : Cx) (cm : Str → Option Addr) (W : WX) (R B : List Nat) (es : List Expr) (f : Env → Res (List D)) : Prop where
  run : PA X es (tAs ⟨X.K, cm⟩ W R B f)

/-! statements -/
inductive SRes where
  | next (r : Env) | brk (r : Env) | cont (r : Env)
  | ret (d : D) (r : Env)
  | exc (c : Str) (fs : List Str) (vs : List D) (r : Env)
  | bad
structure EvS (U : Gd) (E : En) (Z : AP) (Fs : Nat → List Addr) (H : Hp) (s : St) (R A : List Nat) (Z' : AP) (Fs' : Nat → List Addr) (H' : Hp) (s' : St) (r' : Env) : Prop where
  st : Step Z Fs H R A Z' Fs' H'
  sl : ∀ i, i ∉ A → s'[i]? = s[i]?
  sr : SR U E Z' r' Fs' s' H'
/-- n: how many parameters there are: a value that is handed back owns nothing of theirs -/
def postS (U : Gd) (W : WX) (n : Nat) (E : En) (Z : AP) (Fs : Nat → List Addr) (H : Hp) (s : St) (R A : List Nat) (x : SRes) (Q : Ends) : Prop := match x with
  | .next r' => ∀ Z' Fs' H' s', EvS U E Z Fs H s R A Z' Fs' H' s' r' → Q.nx s' H'
  | .brk r' => ∀ Z' Fs' H' s', EvS U E Z Fs H s R A Z' Fs' H' s' r' → Q.bk s' H'
  | .cont r' => ∀ Z' Fs' H' s', EvS U E Z Fs H s R A Z' Fs' H' s' r' → Q.ct s' H'
  | .ret d r' => ∀ Z' Fs' H' s' v F, EvS U E Z Fs H s R A Z' Fs' H' s' r' → Own U Z' H' d v F → (∀ a ∈ F, ¬ Z' a ∧ E.al a ∧ ∀ k, k < n → a ∉ Fs' k) → Q.rt v H'
  | .exc c fs vs r' => ExcT U W E Z Fs H R A c fs vs r' s
  | .bad => False
def tSt (U : Gd) (W : WX) (n : Nat) (R A : List Nat) (f : Env → SRes) : TS := fun Q s H => ∃ E Z r Fs, SR U E Z r Fs s H ∧ postS U W n E Z Fs H s R A (f r) Q
structure SS (X : Cx) (cm : Str → Option Addr) (W : WX) (n : Nat) (R A : List Nat) (st : Stmt) (f : Env → SRes) : Prop where
  run : PS X st (tSt ⟨X.K, cm⟩ W n R A f)
structure SB (X : Cx) (cm : Str → Option Addr) (W : WX) (n : Nat) (R A : List Nat) (st : List Stmt) (f : Env → SRes) : Prop where
  run : PSs X st (tSt ⟨X.K, cm⟩ W n R A f)
end DL

set_option Elab.async false
set_option linter.all false
set_option maxRecDepth 100000
namespace DL
open PySem PySem.Spec L2
section
variable {U : Gd} {W : WX} {E : En} {Z Z1 Z2 : AP} {r r1 r2 : Env} {Fs Fs1 Fs2 : Nat → List Addr} {s s1 : St} {H H1 H2 : Hp} {R R1 R2 A A1 A2 B B1 B2 : List Nat} {d : D} {v : V} {F : List Addr} {n : Nat}

/-! ### from a later state to the earlier one -/
theorem ExcT.shift {c : Str} {fs : List Str} {vs : List D} (t : Step Z Fs H R1 A1 Z1 Fs1 H1) (sl : ∀ i, i ∉ A1 → s1[i]? = s[i]?) (h : ExcT U W E Z Fs H (R1 ++ R2) (A1 ++ A2) c fs vs r2 s) : ExcT U W E Z1 Fs1 H1 R2 A2 c fs vs r2 s1 :=
  fun Z' Fs' s' H' C dd t2 sl2 S2 hc hx => h Z' Fs' s' H' C dd (t.trans t2) (fun i m => by rw [sl2 i fun q => m (List.mem_append_right _ q), sl i fun q => m (List.mem_append_left _ q)]) S2 hc hx
theorem ExcT.mono {c : Str} {fs : List Str} {vs : List D} (hr : ∀ j ∈ R1, j ∈ R) (ha : ∀ j ∈ A1, j ∈ A) (h : ExcT U W E Z Fs H R A c fs vs r2 s) : ExcT U W E Z Fs H R1 A1 c fs vs r2 s :=
  fun Z' Fs' s' H' C dd t2 sl2 S2 hc hx => h Z' Fs' s' H' C dd (t2.mono hr ha) (fun i m => sl2 i fun q => m (ha i q)) S2 hc hx
theorem EvR.after {Z' : AP} {Fs' : Nat → List Addr} {H' : Hp} (t : Step Z Fs H R1 [] Z1 Fs1 H1) (h : EvR U E Z1 Fs1 H1 R2 B Z' Fs' H' s r' d v F) : EvR U E Z Fs H (R1 ++ R2) B Z' Fs' H' s r' d v F where
  st := t.trans h.st
  sr := h.sr
  val := h.val
  src := fun a m => by
    rcases h.src a m with q | q | ⟨j, mj, q⟩
    · exact .inl q
    · exact .inr (.inl (t.dm a q))
    · rcases t.fw j a q with q | q | ⟨k, mk, q⟩
      · exact .inr (.inr ⟨j, List.mem_append_right _ mj, q⟩)
      · exact .inr (.inl q)
      · exact .inr (.inr ⟨k, List.mem_append_left _ mk, q⟩)
theorem EvR.mono {Z' : AP} {Fs' : Nat → List Addr} {H' : Hp} {r' : Env} (h : EvR U E Z Fs H R1 B1 Z' Fs' H' s r' d v F) (hr : ∀ j ∈ R1, j ∈ R) (hb : ∀ j ∈ B1, j ∈ B) : EvR U E Z Fs H R B Z' Fs' H' s r' d v F where
  st := h.st.mono hr fun _ m => m
  sr := h.sr
  val := h.val.mono hb
  src := fun a m => by
    rcases h.src a m with ⟨j, mj, q⟩ | q | ⟨j, mj, q⟩
    · exact .inl ⟨j, hb j mj, q⟩
    · exact .inr (.inl q)
    · exact .inr (.inr ⟨j, hr j mj, q⟩)
theorem postE.shift {x : Res D} {Q : VK} (t : Step Z Fs H R1 [] Z1 Fs1 H1) (h : postE U W E Z Fs H s (R1 ++ R2) B x Q) : postE U W E Z1 Fs1 H1 s R2 B x Q := by
  cases x with
  | ok d r' => exact fun Z' Fs' H' v F e => h Z' Fs' H' v F (e.after t)
  | exc c fs vs r' => exact ExcT.shift (A1 := []) (A2 := []) t (fun _ _ => rfl) h
  | bad => exact h
theorem postE.mono {x : Res D} {Q : VK} (hr : ∀ j ∈ R1, j ∈ R) (hb : ∀ j ∈ B1, j ∈ B) (h : postE U W E Z Fs H s R B x Q) : postE U W E Z Fs H s R1 B1 x Q := by
  cases x with
  | ok d r' => exact fun Z' Fs' H' v F e => h Z' Fs' H' v F (e.mono hr hb)
  | exc c fs vs r' => exact ExcT.mono hr (fun _ m => m) h
  | bad => exact h
theorem postE.to {x : Res D} {Q Q' : VK} (h : postE U W E Z Fs H s R B x Q) (k : ∀ v H, Q v H → Q' v H) : postE U W E Z Fs H s R B x Q' := by
  cases x with
  | ok d r' => exact fun Z' Fs' H' v F e => k _ _ (h Z' Fs' H' v F e)
  | exc c fs vs r' => exact h
  | bad => exact h
theorem postT.shift {x : Res Bool} {Q : Bool → Hp → Prop} (t : Step Z Fs H R1 [] Z1 Fs1 H1) (h : postT U W E Z Fs H s (R1 ++ R2) x Q) : postT U W E Z1 Fs1 H1 s R2 x Q := by
  cases x with
  | ok d r' => exact fun Z' Fs' H' t2 S2 => h Z' Fs' H' (t.trans t2) S2
  | exc c fs vs r' => exact ExcT.shift (A1 := []) (A2 := []) t (fun _ _ => rfl) h
  | bad => exact h
theorem postT.mono {x : Res Bool} {Q : Bool → Hp → Prop} (hr : ∀ j ∈ R1, j ∈ R) (h : postT U W E Z Fs H s R x Q) : postT U W E Z Fs H s R1 x Q := by
  cases x with
  | ok d r' => exact fun Z' Fs' H' t2 S2 => h Z' Fs' H' (t2.mono hr fun _ m => m) S2
  | exc c fs vs r' => exact ExcT.mono hr (fun _ m => m) h
  | bad => exact h
theorem EvL.after {Z' : AP} {Fs' : Nat → List Addr} {H' : Hp} {ds : List D} {vs : List V} {Fl : List (List Addr)} {r' : Env} (t : Step Z Fs H R1 [] Z1 Fs1 H1) (h : EvL U E Z1 Fs1 H1 R2 B Z' Fs' H' s r' ds vs Fl) : EvL U E Z Fs H (R1 ++ R2) B Z' Fs' H' s r' ds vs Fl where
  st := t.trans h.st
  sr := h.sr
  val := h.val
  src := fun G mG a m => by
    rcases h.src G mG a m with q | q | ⟨j, mj, q⟩
    · exact .inl q
    · exact .inr (.inl (t.dm a q))
    · rcases t.fw j a q with q | q | ⟨k, mk, q⟩
      · exact .inr (.inr ⟨j, List.mem_append_right _ mj, q⟩)
      · exact .inr (.inl q)
      · exact .inr (.inr ⟨k, List.mem_append_left _ mk, q⟩)
theorem postL.shift {x : Res (List D)} {Q : List V → Hp → Prop} (t : Step Z Fs H R1 [] Z1 Fs1 H1) (h : postL U W E Z Fs H s (R1 ++ R2) B x Q) : postL U W E Z1 Fs1 H1 s R2 B x Q := by
  cases x with
  | ok d r' => exact fun Z' Fs' H' v F e => h Z' Fs' H' v F (e.after t)
  | exc c fs vs r' => exact ExcT.shift (A1 := []) (A2 := []) t (fun _ _ => rfl) h
  | bad => exact h
theorem EvS.after {Z' : AP} {Fs' : Nat → List Addr} {H' : Hp} {s' : St} {r' : Env} (t : Step Z Fs H R1 A1 Z1 Fs1 H1) (sl : ∀ i, i ∉ A1 → s1[i]? = s[i]?) (h : EvS U E Z1 Fs1 H1 s1 R2 A2 Z' Fs' H' s' r') : EvS U E Z Fs H s (R1 ++ R2) (A1 ++ A2) Z' Fs' H' s' r' where
  st := t.trans h.st
  sl := fun i m => by rw [h.sl i fun q => m (List.mem_append_right _ q), sl i fun q => m (List.mem_append_left _ q)]
  sr := h.sr
theorem postS.shift {x : SRes} {Q : Ends} (t : Step Z Fs H R1 A1 Z1 Fs1 H1) (sl : ∀ i, i ∉ A1 → s1[i]? = s[i]?) (h : postS U W n E Z Fs H s (R1 ++ R2) (A1 ++ A2) x Q) : postS U W n E Z1 Fs1 H1 s1 R2 A2 x Q := by
  cases x with
  | next r' => exact fun Z' Fs' H' s' e => h Z' Fs' H' s' (e.after t sl)
  | brk r' => exact fun Z' Fs' H' s' e => h Z' Fs' H' s' (e.after t sl)
  | cont r' => exact fun Z' Fs' H' s' e => h Z' Fs' H' s' (e.after t sl)
  | ret d r' => exact fun Z' Fs' H' s' v F e => h Z' Fs' H' s' v F (e.after t sl)
  | exc c fs vs r' => exact ExcT.shift t sl h
  | bad => exact h
theorem EvS.mono {Z' : AP} {Fs' : Nat → List Addr} {H' : Hp} {s' : St} {r' : Env} (hr : ∀ j ∈ R1, j ∈ R) (ha : ∀ j ∈ A1, j ∈ A) (h : EvS U E Z Fs H s R1 A1 Z' Fs' H' s' r') : EvS U E Z Fs H s R A Z' Fs' H' s' r' where
  st := h.st.mono hr ha
  sl := fun i m => h.sl i fun q => m (ha i q)
  sr := h.sr
theorem postS.mono {x : SRes} {Q : Ends} (hr : ∀ j ∈ R1, j ∈ R) (ha : ∀ j ∈ A1, j ∈ A) (h : postS U W n E Z Fs H s R A x Q) : postS U W n E Z Fs H s R1 A1 x Q := by
  cases x with
  | next r' => exact fun Z' Fs' H' s' e => h Z' Fs' H' s' (e.mono hr ha)
  | brk r' => exact fun Z' Fs' H' s' e => h Z' Fs' H' s' (e.mono hr ha)
  | cont r' => exact fun Z' Fs' H' s' e => h Z' Fs' H' s' (e.mono hr ha)
  | ret d r' => exact fun Z' Fs' H' s' v F e => h Z' Fs' H' s' v F (e.mono hr ha)
  | exc c fs vs r' => exact ExcT.mono hr ha h
  | bad => exact h

/-! ### an expression, then the rest -/
section
variable {X : Cx} {cm : Str → Option Addr}
/-- the rest's post holds of the whole: what the first part must reach -/
theorem bindE {x : Res D} {k : D → Env → Res D} {Q : VK} {K : VK} (h : postE U W E Z Fs H s (R1 ++ R2) B (x.bind k) Q)
    (hk : ∀ d r1 Z1 Fs1 H1 v F, x = .ok d r1 → EvR U E Z Fs H R1 B1 Z1 Fs1 H1 s r1 d v F → postE U W E Z1 Fs1 H1 s R2 B (k d r1) Q → K v H1) : postE U W E Z Fs H s R1 B1 x K := by
  cases x with
  | ok d r1 => exact fun Z' Fs' H' v F e => hk d r1 Z' Fs' H' v F rfl e (postE.shift e.st h)
  | exc c fs vs r' => exact ExcT.mono (fun j m => List.mem_append_left _ m) (fun _ m => m) h
  | bad => exact h
theorem bindET {x : Res D} {k : D → Env → Res Bool} {Q : Bool → Hp → Prop} {K : VK} (h : postT U W E Z Fs H s (R1 ++ R2) (x.bind k) Q)
    (hk : ∀ d r1 Z1 Fs1 H1 v F, x = .ok d r1 → EvR U E Z Fs H R1 B1 Z1 Fs1 H1 s r1 d v F → postT U W E Z1 Fs1 H1 s R2 (k d r1) Q → K v H1) : postE U W E Z Fs H s R1 B1 x K := by
  cases x with
  | ok d r1 => exact fun Z' Fs' H' v F e => hk d r1 Z' Fs' H' v F rfl e (postT.shift e.st h)
  | exc c fs vs r' => exact ExcT.mono (fun j m => List.mem_append_left _ m) (fun _ m => m) h
  | bad => exact h
theorem bindEL {x : Res D} {k : D → Env → Res (List D)} {Q : List V → Hp → Prop} {K : VK} (h : postL U W E Z Fs H s (R1 ++ R2) B (x.bind k) Q)
    (hk : ∀ d r1 Z1 Fs1 H1 v F, x = .ok d r1 → EvR U E Z Fs H R1 B1 Z1 Fs1 H1 s r1 d v F → postL U W E Z1 Fs1 H1 s R2 B (k d r1) Q → K v H1) : postE U W E Z Fs H s R1 B1 x K := by
  cases x with
  | ok d r1 => exact fun Z' Fs' H' v F e => hk d r1 Z' Fs' H' v F rfl e (postL.shift e.st h)
  | exc c fs vs r' => exact ExcT.mono (fun j m => List.mem_append_left _ m) (fun _ m => m) h
  | bad => exact h
theorem bindT {x : Res Bool} {k : Bool → Env → Res D} {Q : VK} {K : Bool → Hp → Prop} (h : postE U W E Z Fs H s (R1 ++ R2) B (x.bind k) Q)
    (hk : ∀ b r1 Z1 Fs1 H1, x = .ok b r1 → Step Z Fs H R1 [] Z1 Fs1 H1 → SR U E Z1 r1 Fs1 s H1 → postE U W E Z1 Fs1 H1 s R2 B (k b r1) Q → K b H1) : postT U W E Z Fs H s R1 x K := by
  cases x with
  | ok d r1 => exact fun Z' Fs' H' t S => hk d r1 Z' Fs' H' rfl t S (postE.shift t h)
  | exc c fs vs r' => exact ExcT.mono (fun j m => List.mem_append_left _ m) (fun _ m => m) h
  | bad => exact h
theorem bindTT {x : Res Bool} {k : Bool → Env → Res Bool} {Q : Bool → Hp → Prop} {K : Bool → Hp → Prop} (h : postT U W E Z Fs H s (R1 ++ R2) (x.bind k) Q)
    (hk : ∀ b r1 Z1 Fs1 H1, x = .ok b r1 → Step Z Fs H R1 [] Z1 Fs1 H1 → SR U E Z1 r1 Fs1 s H1 → postT U W E Z1 Fs1 H1 s R2 (k b r1) Q → K b H1) : postT U W E Z Fs H s R1 x K := by
  cases x with
  | ok d r1 => exact fun Z' Fs' H' t S => hk d r1 Z' Fs' H' rfl t S (postT.shift t h)
  | exc c fs vs r' => exact ExcT.mono (fun j m => List.mem_append_left _ m) (fun _ m => m) h
  | bad => exact h
theorem bindL {x : Res (List D)} {k : List D → Env → Res D} {Q : VK} {K : List V → Hp → Prop} (h : postE U W E Z Fs H s (R1 ++ R2) B (x.bind k) Q)
    (hk : ∀ ds r1 Z1 Fs1 H1 vs Fl, x = .ok ds r1 → EvL U E Z Fs H R1 B1 Z1 Fs1 H1 s r1 ds vs Fl → postE U W E Z1 Fs1 H1 s R2 B (k ds r1) Q → K vs H1) : postL U W E Z Fs H s R1 B1 x K := by
  cases x with
  | ok d r1 => exact fun Z' Fs' H' v F e => hk d r1 Z' Fs' H' v F rfl e (postE.shift e.st h)
  | exc c fs vs r' => exact ExcT.mono (fun j m => List.mem_append_left _ m) (fun _ m => m) h
  | bad => exact h

theorem SX.of {e : Expr} {f : Env → Res D} {t : TE} (h : PE X e t) (imp : ∀ E Z r Fs s H Q, SR ⟨X.K, cm⟩ E Z r Fs s H → postE ⟨X.K, cm⟩ W E Z Fs H s R B (f r) Q → t s H Q) : SX X cm W R B e f :=
  ⟨⟨fun pins sh s H Q I ⟨E, Z, r, Fs, S, p⟩ => h.run pins sh s H Q I (imp E Z r Fs s H Q S p)⟩⟩
theorem ST.of {e : Expr} {f : Env → Res Bool} {t : TT} (h : PT X e t) (imp : ∀ E Z r Fs s H Q, SR ⟨X.K, cm⟩ E Z r Fs s H → postT ⟨X.K, cm⟩ W E Z Fs H s R (f r) Q → t s H Q) : ST X cm W R e f :=
  ⟨⟨fun pins sh s H Q I ⟨E, Z, r, Fs, S, p⟩ => h.run pins sh s H Q I (imp E Z r Fs s H Q S p)⟩⟩
theorem SW.of {e : Expr} {f : Env → Res Bool} {t : TT} (h : PW X e t) (imp : ∀ E Z r Fs s H Q, SR ⟨X.K, cm⟩ E Z r Fs s H → postT ⟨X.K, cm⟩ W E Z Fs H s R (f r) Q → t s H Q) : SW X cm W R e f :=
  ⟨⟨fun whole pins sh s H Q I ⟨E, Z, r, Fs, S, p⟩ => h.run whole pins sh s H Q I (imp E Z r Fs s H Q S p)⟩⟩
theorem SA.of {e : List Expr} {f : Env → Res (List D)} {t : TA} (h : PA X e t) (imp : ∀ E Z r Fs s H Q, SR ⟨X.K, cm⟩ E Z r Fs s H → postL ⟨X.K, cm⟩ W E Z Fs H s R B (f r) Q → t s H Q) : SA X cm W R B e f :=
  ⟨⟨fun pos pins sh s H Q I ⟨E, Z, r, Fs, S, p⟩ => h.run pos pins sh s H Q I (imp E Z r Fs s H Q S p)⟩⟩
theorem SS.of {e : Stmt} {f : Env → SRes} {t : TS} (h : PS X e t) (imp : ∀ E Z r Fs s H Q, SR ⟨X.K, cm⟩ E Z r Fs s H → postS ⟨X.K, cm⟩ W n E Z Fs H s R A (f r) Q → t Q s H) : SS X cm W n R A e f :=
  ⟨⟨fun pins sh s H Q I ⟨E, Z, r, Fs, S, p⟩ => h.run pins sh s H Q I (imp E Z r Fs s H Q S p)⟩⟩
theorem SB.of {e : List Stmt} {f : Env → SRes} {t : TS} (h : PSs X e t) (imp : ∀ E Z r Fs s H Q, SR ⟨X.K, cm⟩ E Z r Fs s H → postS ⟨X.K, cm⟩ W n E Z Fs H s R A (f r) Q → t Q s H) : SB X cm W n R A e f :=
  ⟨⟨fun pins sh s H Q I ⟨E, Z, r, Fs, S, p⟩ => h.run pins sh s H Q I (imp E Z r Fs s H Q S p)⟩⟩
end

/-! ### nothing, something new -/
theorem EvR.here (S : SR U E Z r Fs s H) (h : Val U E Z H Fs B d v F) (src : ∀ a ∈ F, ∃ j ∈ B, a ∈ Fs j) : EvR U E Z Fs H [] B Z Fs H s r d v F :=
  ⟨Step.refl, S, h, fun a m => .inl (src a m)⟩
theorem EvR.ofPure (S : SR U E Z r Fs s H) (h : Own U Z H d v F) (p : d.pure = true) : EvR U E Z Fs H [] B Z Fs H s r d v F :=
  .here S (.ofPure h p) (by rw [h.pureF p]; exact fun _ m => nomatch m)
/-- p becomes o; y: it is frozen -/
def Zp (Z : AP) (p : Addr) (y : Prop) : AP := fun a => Z a ∨ (a = p ∧ y)
theorem SR.alloc (S : SR U E Z r Fs s H) {p : Addr} (hp : H p = none) (o : HO) (y : Prop) : SR U E (Zp Z p y) r Fs s (upd H p o) where
  len := S.len
  own := fun i d e => by
    obtain ⟨v, e1, w⟩ := S.own i d e
    exact ⟨v, e1, w.mono (fun _ z => .inl z) fun a o e _ => by rw [upd_ne (ne_of_none e hp)]; exact e⟩
  emp := S.emp
  dis := S.dis
  nz := fun i a m z => by
    rcases z with z | ⟨z, _⟩
    · exact S.nz i a m z
    · obtain ⟨o, e⟩ := S.dom i a m
      exact ne_of_none e hp z
  zd := fun a z => by
    rcases z with z | ⟨z, _⟩
    · obtain ⟨o, e⟩ := S.zd a z
      exact ⟨o, by rw [upd_ne (ne_of_none e hp)]; exact e⟩
    · rw [z]
      exact ⟨_, upd_same⟩
  al := S.al
  kp := fun a o e n => by
    have q := S.kp a o e n
    rw [upd_ne (ne_of_none q hp)]
    exact q
  zi := fun a z => .inl (S.zi a z)
  zo := fun a z => by
    rcases z with z | ⟨z, _⟩
    · exact S.zo a z
    · rw [z]
      exact .inr (S.fr p (S.dm p hp))
  dm := fun a e => by
    by_cases h : a = p
    · subst h; exact S.dm _ hp
    · rw [upd_ne h] at e; exact S.dm a e
  fr := S.fr
theorem Step.alloc {p : Addr} (hp : H p = none) (o : HO) (y : Prop) : Step Z Fs H [] [] (Zp Z p y) Fs (upd H p o) where
  keep := fun a o e _ => by rw [upd_ne (ne_of_none e hp)]; exact e
  zi := fun _ z => .inl z
  zo := fun a z => by
    rcases z with z | ⟨z, _⟩
    · exact .inl z
    · rw [z]; exact .inr (.inl hp)
  dm := fun a e => by
    by_cases h : a = p
    · subst h; exact hp
    · rw [upd_ne h] at e; exact e
  fs := fun _ _ _ => rfl
  fw := fun _ _ h => .inl h
theorem Own.alloc {p : Addr} (h : Own U Z H d v F) (hp : H p = none) (o : HO) (y : Prop) : Own U (Zp Z p y) (upd H p o) d v F :=
  h.mono (fun _ z => .inl z) fun a o e _ => by rw [upd_ne (ne_of_none e hp)]; exact e
theorem OwnL.alloc {ds : List D} {vs : List V} {p : Addr} (h : OwnL U Z H ds vs F) (hp : H p = none) (o : HO) (y : Prop) : OwnL U (Zp Z p y) (upd H p o) ds vs F :=
  h.mono (fun _ z => .inl z) fun a o e _ => by rw [upd_ne (ne_of_none e hp)]; exact e
/-- a new tuple; its items fresh -/
theorem EvR.tup {ds : List D} {vs : List V} {p : Addr} (S : SR U E Z r Fs s H) (hp : H p = none) (h : OwnL U Z H ds vs F) (hf : ∀ a ∈ F, ¬ Z a ∧ E.al a ∧ (∀ k, a ∉ Fs k) ∧ ((∃ j ∈ B, a ∈ Fs j) ∨ H a = none)) :
    EvR U E Z Fs H [] B (Zp Z p True) Fs (upd H p (.tup vs)) s r (.tup ds) (.ref p) F where
  st := Step.alloc hp _ _
  sr := S.alloc hp _ _
  val := {
    own := by
      unfold Own
      exact ⟨p, vs, rfl, .inl ⟨.inr ⟨rfl, True.intro⟩, upd_same⟩, h.alloc hp _ _⟩
    nz := fun a m z => by
      rcases z with z | ⟨z, _⟩
      · exact (hf a m).1 z
      · obtain ⟨o, e⟩ := h.dom a m
        exact ne_of_none e hp z
    al := fun a m => (hf a m).2.1
    dis := fun a m k q => ((hf a m).2.2.1 k q).elim }
  src := fun a m => (hf a m).2.2.2.elim .inl fun q => .inr (.inl q)
theorem EvR.tup0 {ds : List D} {vs : List V} {p : Addr} (S : SR U E Z r Fs s H) (hp : H p = none) (h : OwnL U Z H ds vs F) (hf : pureL ds = true) :
    EvR U E Z Fs H [] B (Zp Z p True) Fs (upd H p (.tup vs)) s r (.tup ds) (.ref p) F := by
  have e := h.pureF hf
  subst e
  exact .tup S hp h fun _ m => nomatch m
/-- a new list of pure items -/
theorem EvR.lst0 {ds : List D} {vs : List V} {p : Addr} (S : SR U E Z r Fs s H) (hp : H p = none) (h : OwnL U Z H ds vs F) (hf : pureL ds = true) :
    EvR U E Z Fs H [] B (Zp Z p False) Fs (upd H p (.lst vs)) s r (.lst ds) (.ref p) [p] := by
  have e := h.pureF hf
  subst e
  have hn : ∀ k, p ∉ Fs k := fun k m => by
    obtain ⟨o, e⟩ := S.dom k p m
    exact some_none e hp
  refine ⟨Step.alloc hp _ _, S.alloc hp _ _, ⟨?_, fun a m z => ?_, fun a m => ?_, fun a m k q => ?_⟩, fun a m => ?_⟩
  · unfold Own
    exact ⟨p, vs, [], rfl, rfl, upd_same, (fun m => nomatch m), h.alloc hp _ _⟩
  · rw [List.mem_singleton.mp m] at z
    rcases z with z | ⟨_, z⟩
    · obtain ⟨o, e⟩ := S.zd p z
      exact some_none e hp
    · exact z
  · rw [List.mem_singleton.mp m]
    exact S.fr p (S.dm p hp)
  · rw [List.mem_singleton.mp m] at q
    exact (hn k q).elim
  · rw [List.mem_singleton.mp m]
    exact .inr (.inl hp)
end

/-! ### operators -/
/-- where the footprint of a result comes from -/
def FromOp (H : Hp) (B B1 B2 : List Nat) (F F1 F2 : List Addr) : Prop := ∀ a ∈ F, H a = none ∨ (a ∈ F1 ∧ ∀ j ∈ B1, j ∈ B) ∨ (a ∈ F2 ∧ ∀ j ∈ B2, j ∈ B)
/-- the value operation r does g on data; what comes out is borrowed from B at most -/
def OpD (U : Gd) (rr : L2.R2) (g : D → D → Option D) (Bf : List Nat → List Nat → List Nat) : Prop :=
  ∀ (E : En) (Z : AP) (r : Env) (Fs : Nat → List Addr) (s : St) (H : Hp) (B1 B2 : List Nat) (x y : D) (vx vy : V) (F1 F2 : List Addr) (z : D) (Q : VK), SR U E Z r Fs s H → Val U E Z H Fs B1 x vx F1 → Val U E Z H Fs B2 y vy F2 → g x y = some z →
    (∀ a ∈ F1, a ∈ F2 → ∃ k, a ∈ Fs k) →
    (∀ Z' H' v F, Step Z Fs H [] [] Z' Fs H' → SR U E Z' r Fs s H' → Val U E Z' H' Fs (Bf B1 B2) z v F → FromOp H (Bf B1 B2) B1 B2 F F1 F2 → Q v H') → rr vx vy H Q
def optR (x : Option D) (r : Env) : Res D := match x with
  | some d => .ok d r
  | none => .bad
@[simp] theorem optR_some (d : D) (r : Env) : optR (some d) r = .ok d r := rfl
@[simp] theorem optR_none (r : Env) : optR none r = .bad := rfl
def fBin (g : D → D → Option D) (fa fb : Env → Res D) : Env → Res D := fun r => (fa r).bind fun x r1 => (fb r1).bind fun y r2 => optR (g x y) r2
def bNil : List Nat → List Nat → List Nat := fun _ _ => []
def bFst : List Nat → List Nat → List Nat := fun a _ => a

section
variable {X : Cx} {cm : Str → Option Addr} {W : WX} {R1 R2 B1 B2 : List Nat} {a b c : Expr} {fa fb fc : Env → Res D} {pos : Pos} {rr rr' : L2.R2} {g g' : D → D → Option D} {Bf : List Nat → List Nat → List Nat}
/-- two operands, then an operation on their values -/
theorem tOp_of (hd : OpD ⟨X.K, cm⟩ rr g Bf) (nb : ∀ j ∈ R2, j ∉ B1)
    {E : En} {Z : AP} {r : Env} {Fs : Nat → List Addr} {s : St} {H : Hp} {Q : VK} (S : SR ⟨X.K, cm⟩ E Z r Fs s H) (p : postE ⟨X.K, cm⟩ W E Z Fs H s (R1 ++ R2) (Bf B1 B2) (fBin g fa fb r) Q) :
    tOp rr (tX ⟨X.K, cm⟩ W R1 B1 fa) (tX ⟨X.K, cm⟩ W R2 B2 fb) s H Q := by
  refine ⟨E, Z, r, Fs, S, bindE p fun x r1 Z1 Fs1 H1 vx F1 q1 e1 p1 => ?_⟩
  refine ⟨E, Z1, r1, Fs1, e1.sr, bindE (R2 := []) (by rw [List.append_nil]; exact p1) fun y r2 Z2 Fs2 H2 vy F2 q2 e2 p2 => ?_⟩
  unfold fBin at p
  rw [q1, Res.bind_ok, q2, Res.bind_ok] at p
  cases hg : g x y with
  | none => rw [hg] at p; exact p.elim
  | some z =>
    rw [hg] at p
    have v1 := e1.val.step e1.sr e2.st nb
    refine hd E Z2 r2 Fs2 s H2 B1 B2 x y vx vy F1 F2 z Q e2.sr v1 e2.val hg (fun a m1 m2 => ?_) fun Z' H' v F t S' hv src => ?_
    · rcases e2.src a m2 with ⟨j, _, q⟩ | q | ⟨j, mj, q⟩
      · exact ⟨j, q⟩
      · obtain ⟨o, e⟩ := e1.val.own.dom a m1
        exact (some_none e q).elim
      · exact (nb j mj (e1.val.dis a m1 j q)).elim
    · have t12 := e1.st.trans e2.st
      refine p Z' Fs2 H' v F ⟨?_, S', hv, fun a m => ?_⟩
      · have := t12.trans t
        rw [List.append_nil] at this
        exact this
      · rcases src a m with q | ⟨m1, sb⟩ | ⟨m2, sb⟩
        · exact .inr (.inl (t12.dm a q))
        · rcases e1.src a m1 with ⟨j, mj, q⟩ | q | ⟨j, mj, q⟩
          · refine .inl ⟨j, sb j mj, ?_⟩
            rw [e2.st.fs j (fun z => nb j z mj) (fun z => nomatch z)]
            exact q
          · exact .inr (.inl q)
          · exact .inr (.inr ⟨j, List.mem_append_left _ mj, q⟩)
        · rcases e2.src a m2 with ⟨j, mj, q⟩ | q | ⟨j, mj, q⟩
          · exact .inl ⟨j, sb j mj, q⟩
          · exact .inr (.inl (e1.st.dm a q))
          · rcases e1.st.fw j a q with q | q | ⟨k, mk, q⟩
            · exact .inr (.inr ⟨j, List.mem_append_right _ mj, q⟩)
            · exact .inr (.inl q)
            · exact .inr (.inr ⟨k, List.mem_append_left _ mk, q⟩)
theorem SX.binop {op : Operator} (ho : OpR X (binaryOp op) rr) (hd : OpD ⟨X.K, cm⟩ rr g bNil) (ha : SX X cm W R1 B1 a fa) (hb : SX X cm W R2 B2 b fb) (nb : ∀ j ∈ R2, j ∉ B1) :
    SX X cm W (R1 ++ R2) [] (.BinOp a op b pos) (fBin g fa fb) := .of (pe_op ho ha.run hb.run) fun _ _ _ _ _ _ _ S p => tOp_of (Bf := bNil) hd nb S p
theorem SX.cmp {op : CmpOp} (ho : OpR X (compareOp op) rr) (hd : OpD ⟨X.K, cm⟩ rr g bNil) (ha : SX X cm W R1 B1 a fa) (hb : SX X cm W R2 B2 b fb) (hm : behindInMarks op b = false) (nb : ∀ j ∈ R2, j ∉ B1) :
    SX X cm W (R1 ++ R2) [] (.Compare a [op] [b] pos) (fBin g fa fb) := .of (pe_cmpR ho ha.run hb.run hm) fun _ _ _ _ _ _ _ S p => tOp_of (Bf := bNil) hd nb S p
theorem SX.ix (ho : IxR X rr) (hd : OpD ⟨X.K, cm⟩ rr g bFst) (ha : SX X cm W R1 B1 a fa) (hb : SX X cm W R2 B2 b fb) (hs : PlainIx b) (nb : ∀ j ∈ R2, j ∉ B1) :
    SX X cm W (R1 ++ R2) B1 (.Subscript a b pos) (fBin g fa fb) := .of (pe_ix ho ha.run hb.run hs) fun _ _ _ _ _ _ _ S p => tOp_of (Bf := bFst) hd nb S p

theorem OpR.or {f : Value → Value → Sem Value} (h1 : OpR X f rr) (h2 : OpR X f rr') : OpR X f fun x y H Q => rr x y H Q ∨ rr' x y H Q :=
  fun pins s σ H x y v u Q I rx ry h => h.elim (h1 pins s σ H x y v u Q I rx ry) (h2 pins s σ H x y v u Q I rx ry)
end
end DL

set_option Elab.async false
set_option linter.all false
set_option maxRecDepth 100000
namespace DL
open PySem PySem.Spec L2

theorem OpD.ofPure {U : Gd} {rr : L2.R2} {g : D → D → Option D} {Bf : List Nat → List Nat → List Nat}
    (h : ∀ (Z : AP) (H : Hp) (x y : D) (vx vy : V) (F1 F2 : List Addr) (z : D), Own U Z H x vx F1 → Own U Z H y vy F2 → g x y = some z → ∃ v, z.pure = true ∧ Own U Z H z v [] ∧ ∀ Q : VK, Q v H → rr vx vy H Q) : OpD U rr g Bf := by
  intro E Z r Fs s H B1 B2 x y vx vy F1 F2 z Q S h1 h2 e dj k
  obtain ⟨v, p, o, q⟩ := h Z H x y vx vy F1 F2 z h1.own h2.own e
  exact q Q (k Z H v [] Step.refl S (.ofPure o p) fun _ m => nomatch m)

section
variable {U : Gd} {Z : AP} {H : Hp} {v : V} {F : List Addr}
theorem Own.non_iff : Own U Z H .non v F ↔ v = .non ∧ F = [] := by unfold Own; exact Iff.rfl
theorem Own.bl_iff {b : Bool} : Own U Z H (.bl b) v F ↔ v = .bl b ∧ F = [] := by unfold Own; exact Iff.rfl
theorem Own.int_iff {i : Int} : Own U Z H (.int i) v F ↔ v = .int i ∧ F = [] := by unfold Own; exact Iff.rfl
theorem Own.str_iff {x : Str} : Own U Z H (.str x) v F ↔ v = .str x ∧ F = [] := by unfold Own; exact Iff.rfl
theorem Own.non : Own U Z H .non .non [] := Own.non_iff.mpr ⟨rfl, rfl⟩
theorem Own.bl {b : Bool} : Own U Z H (.bl b) (.bl b) [] := Own.bl_iff.mpr ⟨rfl, rfl⟩
theorem Own.int {i : Int} : Own U Z H (.int i) (.int i) [] := Own.int_iff.mpr ⟨rfl, rfl⟩
theorem Own.str {x : Str} : Own U Z H (.str x) (.str x) [] := Own.str_iff.mpr ⟨rfl, rfl⟩
theorem Own.tup_iff {ds : List D} : Own U Z H (.tup ds) v F ↔ ∃ a vs, v = .ref a ∧ TupAt U Z H a vs ∧ OwnL U Z H ds vs F := by conv => lhs; unfold Own
theorem Own.frz_iff {ds : List D} : Own U Z H (.frz ds) v F ↔ F = [] ∧ ∃ a vs, v = .ref a ∧ FrzAt U Z H a vs ∧ OwnL U Z H ds vs [] := by conv => lhs; unfold Own
theorem Own.lst_iff {ds : List D} : Own U Z H (.lst ds) v F ↔ ∃ a vs G, v = .ref a ∧ F = a :: G ∧ H a = some (.lst vs) ∧ a ∉ G ∧ OwnL U Z H ds vs G := by conv => lhs; unfold Own
end

/-! ### ints -/
def iBin (g : Int → Int → Option D) : D → D → Option D
  | .int i, .int j => g i j
  | _, _ => none
@[simp] theorem iBin_int (g : Int → Int → Option D) (i j : Int) : iBin g (.int i) (.int j) = g i j := rfl
theorem iBin_some {g : Int → Int → Option D} {x y z : D} (h : iBin g x y = some z) : ∃ i j, x = .int i ∧ y = .int j ∧ g i j = some z := by
  cases x <;> first
    | (cases y <;> first
        | exact ⟨_, _, rfl, rfl, h⟩
        | cases h)
    | cases h
theorem opd_I {U : Gd} {C : Int → Int → Prop} {f : Int → Int → Int} {g : Int → Int → Option D} {Bf : List Nat → List Nat → List Nat} (hg : ∀ i j z, g i j = some z → C i j ∧ z = .int (f i j)) : OpD U (rI C fun i j => .int (f i j)) (iBin g) Bf :=
  .ofPure fun Z H x y vx vy F1 F2 z o1 o2 e => by
    obtain ⟨i, j, rfl, rfl, e⟩ := iBin_some e
    obtain ⟨rfl, _⟩ := Own.int_iff.mp o1
    obtain ⟨rfl, _⟩ := Own.int_iff.mp o2
    obtain ⟨c, rfl⟩ := hg i j z e
    exact ⟨_, rfl, Own.int, fun Q q => ⟨i, j, rfl, rfl, c, q⟩⟩
theorem opd_I0 {U : Gd} {f : Int → Int → Int} {Bf : List Nat → List Nat → List Nat} : OpD U (rI0 fun i j => .int (f i j)) (iBin fun i j => some (.int (f i j))) Bf :=
  .ofPure fun Z H x y vx vy F1 F2 z o1 o2 e => by
    obtain ⟨i, j, rfl, rfl, e⟩ := iBin_some e
    obtain ⟨rfl, _⟩ := Own.int_iff.mp o1
    obtain ⟨rfl, _⟩ := Own.int_iff.mp o2
    cases e
    exact ⟨_, rfl, Own.int, fun Q q => ⟨i, j, rfl, rfl, q⟩⟩
theorem opd_B0 {U : Gd} {f : Int → Int → Bool} {Bf : List Nat → List Nat → List Nat} : OpD U (rI0 fun i j => .bl (f i j)) (iBin fun i j => some (.bl (f i j))) Bf :=
  .ofPure fun Z H x y vx vy F1 F2 z o1 o2 e => by
    obtain ⟨i, j, rfl, rfl, e⟩ := iBin_some e
    obtain ⟨rfl, _⟩ := Own.int_iff.mp o1
    obtain ⟨rfl, _⟩ := Own.int_iff.mp o2
    cases e
    exact ⟨_, rfl, Own.bl, fun Q q => ⟨i, j, rfl, rfl, q⟩⟩
def dSub := iBin fun i j => some (.int (i - j))
def sm64 (i : Int) : Bool := decide (-18446744073709551616 < i) && decide (i < 18446744073709551616)
def sm4k (i : Int) : Bool := decide (i.natAbs < 2 ^ 4000)
def mulOk (i j : Int) : Bool := sm64 i || (sm64 j || (sm4k i && sm4k j))
def CMulD (i j : Int) : Prop := CMul i j ∨ CMulW i j
theorem CMulD.ok {i j : Int} (h : CMulD i j) : IntMulOk i j := h.elim CMul.ok CMulW.ok
theorem op_mulD {X : Cx} : OpR X (binaryOp .Mult) (rI CMulD fun i j => .int (i * j)) := opI fun _ _ _ _ _ _ _ hc q => PyProof.Rows.mul_int q hc.ok
theorem sm64_b {i : Int} (h : sm64 i = true) : -(2 ^ 64) < i ∧ i < 2 ^ 64 := by
  unfold sm64 at h
  rw [Bool.and_eq_true, decide_eq_true_eq, decide_eq_true_eq] at h
  exact ⟨h.1, h.2⟩
theorem sm4k_b {i : Int} (h : sm4k i = true) : i.natAbs.log2 < 4000 := by
  unfold sm4k at h
  have h' : i.natAbs < 2 ^ 4000 := of_decide_eq_true h
  exact PySem.Flt.log2_lt_of (by decide) h'
theorem mulOk_b {i j : Int} (h : mulOk i j = true) : CMulD i j := by
  unfold mulOk at h
  rw [Bool.or_eq_true, Bool.or_eq_true, Bool.and_eq_true] at h
  rcases h with h | h | ⟨h1, h2⟩
  · exact .inl (.inl (sm64_b h))
  · exact .inl (.inr (sm64_b h))
  · have a := sm4k_b h1
    have b := sm4k_b h2
    exact .inr (show _ + _ < _ by omega)
def dMul := iBin fun i j => if mulOk i j then some (.int (i * j)) else none
def dDiv := iBin fun i j => if decide (0 < j) && decide (j < 18446744073709551616) then some (.int (i / j)) else none
def dMod := iBin fun i j => if decide (0 < j) then some (.int (i % j)) else none
def dPow := iBin fun i j => if decide (0 ≤ j) && decide (j ≤ 1000000) && decide (i.natAbs < 2 ^ 64) then some (.int (i ^ j.toNat)) else none
theorem opd_sub {U : Gd} : OpD U (rI0 fun i j => .int (i - j)) dSub bNil := opd_I0
theorem opd_mul {U : Gd} : OpD U (rI CMulD fun i j => .int (i * j)) dMul bNil := opd_I fun i j z h => by
  by_cases c : mulOk i j = true
  · rw [if_pos c] at h; exact ⟨mulOk_b c, (Option.some.inj h).symm⟩
  · rw [if_neg c] at h; cases h
theorem opd_div {U : Gd} : OpD U (rI CDivW fun i j => .int (i / j)) dDiv bNil := opd_I fun i j z h => by
  by_cases c : (decide (0 < j) && decide (j < 18446744073709551616)) = true
  · rw [if_pos c] at h
    rw [Bool.and_eq_true] at c
    have h1 : 0 < j := of_decide_eq_true c.1
    have h2 : j < 18446744073709551616 := of_decide_eq_true c.2
    have h3 : j.natAbs < 2 ^ 64 := by omega
    have h4 := PySem.Flt.log2_lt_of (by decide) h3
    exact ⟨⟨h1, by omega⟩, (Option.some.inj h).symm⟩
  · rw [if_neg c] at h; cases h
theorem opd_mod {U : Gd} : OpD U (rI (fun _ j => 0 < j) fun i j => .int (i % j)) dMod bNil := opd_I fun i j z h => by
  by_cases c : decide (0 < j) = true
  · rw [if_pos c] at h; exact ⟨of_decide_eq_true c, (Option.some.inj h).symm⟩
  · rw [if_neg c] at h; cases h
theorem opd_pow {U : Gd} : OpD U (rI CPow fun i j => .int (i ^ j.toNat)) dPow bNil := opd_I fun i j z h => by
  by_cases c : (decide (0 ≤ j) && decide (j ≤ 1000000) && decide (i.natAbs < 2 ^ 64)) = true
  · rw [if_pos c] at h
    rw [Bool.and_eq_true, Bool.and_eq_true] at c
    exact ⟨⟨of_decide_eq_true c.1.1, of_decide_eq_true c.1.2, of_decide_eq_true c.2⟩, (Option.some.inj h).symm⟩
  · rw [if_neg c] at h; cases h

/-! ### + -/
def dAdd : D → D → Option D
  | .int i, .int j => some (.int (i + j))
  | .str x, .str y => if x.length + y.length ≤ sizeLine then some (.str (x ++ y)) else none
  | .tup xs, .tup ys => if pureL xs && pureL ys && decide (xs.length + ys.length ≤ sizeLine) then some (.tup (xs ++ ys)) else none
  | .lst xs, .lst ys => if pureL xs && pureL ys && decide (xs.length + ys.length ≤ sizeLine) then some (.lst (xs ++ ys)) else none
  | _, _ => none
theorem pureL_append {xs ys : List D} : pureL (xs ++ ys) = (pureL xs && pureL ys) := by
  induction xs with
  | nil => rfl
  | cons x xs ih =>
    show (x.pure && pureL (xs ++ ys)) = ((x.pure && pureL xs) && pureL ys)
    rw [ih, Bool.and_assoc]
theorem OwnL.appendP {U : Gd} {Z : AP} {H : Hp} {xs ys : List D} {vs ws : List V} {F G : List Addr} (h : OwnL U Z H xs vs F) (t : OwnL U Z H ys ws G) (p : pureL xs = true) (q : pureL ys = true) : OwnL U Z H (xs ++ ys) (vs ++ ws) [] := by
  have e1 := h.pureF p
  have e2 := t.pureF q
  subst e1 e2
  exact OwnL.append h t fun _ m => nomatch m
def rStrAdd : L2.R2 := fun x y H Q => ∃ i j, x = .str i ∧ y = .str j ∧ i.length + j.length ≤ sizeLine ∧ Q (.str (i ++ j)) H
def rAddD (K : PySem.W.Frag) : L2.R2 := fun x y H Q => ((rI0 fun i j => .int (i + j)) x y H Q ∨ rStrAdd x y H Q) ∨ (rCatA K x y H Q ∨ rCat x y H Q)
theorem op_addD {X : Cx} : OpR X (binaryOp .Add) (rAddD X.K) := OpR.or (OpR.or op_add op_add_str) (OpR.or op_catA op_cat)
theorem opd_add {U : Gd} : OpD U (rAddD U.K) dAdd bNil := by
  intro E Z r Fs s H B1 B2 x y vx vy F1 F2 z Q S h1 h2 e dj k
  have o1 := h1.own
  have o2 := h2.own
  cases x with
  | int i =>
    cases y with
    | int j =>
      cases e
      obtain ⟨rfl, _⟩ := Own.int_iff.mp o1
      obtain ⟨rfl, _⟩ := Own.int_iff.mp o2
      exact .inl (.inl ⟨i, j, rfl, rfl, k Z H _ [] Step.refl S (.ofPure Own.int rfl) fun _ m => nomatch m⟩)
    | _ => cases e
  | str i =>
    cases y with
    | str j =>
      obtain ⟨rfl, _⟩ := Own.str_iff.mp o1
      obtain ⟨rfl, _⟩ := Own.str_iff.mp o2
      dsimp only [dAdd] at e
      by_cases c : i.length + j.length ≤ sizeLine
      · rw [if_pos c] at e
        cases e
        exact .inl (.inr ⟨i, j, rfl, rfl, c, k Z H _ [] Step.refl S (.ofPure Own.str rfl) fun _ m => nomatch m⟩)
      · rw [if_neg c] at e; cases e
    | _ => cases e
  | tup xs =>
    cases y with
    | tup ys =>
      dsimp only [dAdd] at e
      by_cases c : (pureL xs && pureL ys && decide (xs.length + ys.length ≤ sizeLine)) = true
      · rw [if_pos c] at e
        cases e
        rw [Bool.and_eq_true, Bool.and_eq_true] at c
        obtain ⟨a, vs, rfl, t1, l1⟩ := Own.tup_iff.mp o1
        obtain ⟨b, ws, rfl, t2, l2⟩ := Own.tup_iff.mp o2
        have el := l1.len
        have em := l2.len
        have app := OwnL.appendP l1 l2 c.1.1 c.1.2
        have pp : pureL (xs ++ ys) = true := by rw [pureL_append, c.1.1, c.1.2]; rfl
        refine .inr (.inl ⟨a, b, vs, ws, rfl, rfl, t1.sq, t2.sq, by rw [el, em]; exact of_decide_eq_true c.2, fun e0 => ?_, fun _ e0 => ?_, fun _ _ p hp => ?_⟩)
        · subst e0
          exact k Z H _ [] Step.refl S (.ofPure (Own.tup_iff.mpr ⟨b, ws, rfl, t2, app⟩) pp) fun _ m => nomatch m
        · subst e0
          rw [List.append_nil] at app
          exact k Z H _ [] Step.refl S (.ofPure (Own.tup_iff.mpr ⟨a, vs, rfl, t1, app⟩) pp) fun _ m => nomatch m
        · have ev := EvR.tup0 (E := E) (B := bNil B1 B2) S hp app pp
          exact k _ _ _ _ ev.st ev.sr ev.val fun _ m => nomatch m
      · rw [if_neg c] at e; cases e
    | _ => cases e
  | lst xs =>
    cases y with
    | lst ys =>
      dsimp only [dAdd] at e
      by_cases c : (pureL xs && pureL ys && decide (xs.length + ys.length ≤ sizeLine)) = true
      · rw [if_pos c] at e
        cases e
        rw [Bool.and_eq_true, Bool.and_eq_true] at c
        obtain ⟨a, vs, G1, rfl, _, t1, _, l1⟩ := Own.lst_iff.mp o1
        obtain ⟨b, ws, G2, rfl, _, t2, _, l2⟩ := Own.lst_iff.mp o2
        have el := l1.len
        have em := l2.len
        have app := OwnL.appendP l1 l2 c.1.1 c.1.2
        have pp : pureL (xs ++ ys) = true := by rw [pureL_append, c.1.1, c.1.2]; rfl
        refine .inr (.inr ⟨a, b, vs, ws, rfl, rfl, t1, t2, by rw [el, em]; exact of_decide_eq_true c.2, fun p hp => ?_⟩)
        have ev := EvR.lst0 (E := E) (B := bNil B1 B2) S hp app pp
        exact k _ _ _ _ ev.st ev.sr ev.val fun a m => .inl (by rw [List.mem_singleton.mp m]; exact hp)
      · rw [if_neg c] at e; cases e
    | _ => cases e
  | _ => cases e

/-! ### ==, != -/
mutual
def D.toP : D → Option PyData
  | .non => some .none
  | .bl b => some (.bool b)
  | .int i => some (.int i)
  | .str x => some (.str x)
  | .tup xs => (toPL xs).map .tuple
  | .lst xs => (toPL xs).map .list
  | .frz xs => (toPL xs).map .list
  | _ => none
def toPL : List D → Option (List PyData)
  | [] => some []
  | d :: ds => match d.toP, toPL ds with
    | some p, some ps => some (p :: ps)
    | _, _ => none
end
mutual
theorem Own.dp {U : Gd} {Z : AP} {H : Hp} : ∀ {d : D} {v : V} {F : List Addr} {p : PyData}, Own U Z H d v F → d.toP = some p → Dp U.K H v p
  | .non, v, F, p, h, e => by
    obtain ⟨rfl, _⟩ := Own.non_iff.mp h
    cases e
    exact .non
  | .bl b, v, F, p, h, e => by
    obtain ⟨rfl, _⟩ := Own.bl_iff.mp h
    cases e
    exact .bl b
  | .int b, v, F, p, h, e => by
    obtain ⟨rfl, _⟩ := Own.int_iff.mp h
    cases e
    exact .int b
  | .str b, v, F, p, h, e => by
    obtain ⟨rfl, _⟩ := Own.str_iff.mp h
    cases e
    exact .str b
  | .tup xs, v, F, p, h, e => by
    obtain ⟨a, vs, rfl, t, l⟩ := Own.tup_iff.mp h
    unfold D.toP at e
    cases q : toPL xs with
    | none => rw [q] at e; cases e
    | some ps => rw [q] at e; cases e; exact .tup t.sq (OwnL.dp l q)
  | .lst xs, v, F, p, h, e => by
    obtain ⟨a, vs, G, rfl, _, t, _, l⟩ := Own.lst_iff.mp h
    unfold D.toP at e
    cases q : toPL xs with
    | none => rw [q] at e; cases e
    | some ps => rw [q] at e; cases e; exact .lst (.of t) (OwnL.dp l q)
  | .frz xs, v, F, p, h, e => by
    obtain ⟨_, a, vs, rfl, t, l⟩ := Own.frz_iff.mp h
    unfold D.toP at e
    cases q : toPL xs with
    | none => rw [q] at e; cases e
    | some ps => rw [q] at e; cases e; exact .lst t.sq (OwnL.dp l q)
  | .dK _ _, _, _, _, _, e => by unfold D.toP at e; cases e
  | .dT _ _, _, _, _, _, e => by unfold D.toP at e; cases e
  | .ins _ _ _, _, _, _, _, e => by unfold D.toP at e; cases e
  | .obj _ _ _, _, _, _, _, e => by unfold D.toP at e; cases e
theorem OwnL.dp {U : Gd} {Z : AP} {H : Hp} : ∀ {ds : List D} {vs : List V} {F : List Addr} {ps : List PyData}, OwnL U Z H ds vs F → toPL ds = some ps → DpAll U.K H vs ps
  | [], vs, F, ps, h, e => by
    unfold OwnL at h
    obtain ⟨rfl, _⟩ := h
    unfold toPL at e
    cases e
    exact .nil
  | d :: ds, vs, F, ps, h, e => by
    obtain ⟨v, ws, F1, F2, rfl, rfl, o1, o2, _⟩ := h.cases
    unfold toPL at e
    cases q1 : d.toP with
    | none => rw [q1] at e; cases e
    | some p1 =>
      cases q2 : toPL ds with
      | none => rw [q1, q2] at e; cases e
      | some ps => rw [q1, q2] at e; cases e; exact .cons (Own.dp o1 q1) (OwnL.dp o2 q2)
end
def sEq : D → D → Option Bool
  | .non, .non => some true
  | .int i, .int j => some (decide (i = j))
  | .bl i, .bl j => some (decide (i = j))
  | .str i, .str j => some (decide (i = j))
  | .non, .int _ => some false
  | .int _, .non => some false
  | .non, .bl _ => some false
  | .bl _, .non => some false
  | .non, .str _ => some false
  | .str _, .non => some false
  | .int _, .str _ => some false
  | .str _, .int _ => some false
  | .bl _, .str _ => some false
  | .str _, .bl _ => some false
  | _, _ => none
def pEq (x y : D) : Option Bool := match x.toP, y.toP with
  | some p, some q => if p.canLay0 && q.canLay0 && decide (min p.depth q.depth ≤ 64) then some (PyData.eqv p q) else none
  | _, _ => none
def rEqM (K : PySem.W.Frag) : L2.R2 := fun x y H Q => ∃ d e, Dp K H x d ∧ Dp K H y e ∧ d.canLay0 = true ∧ e.canLay0 = true ∧ min d.depth e.depth ≤ 64 ∧ Q (.bl (PyData.eqv d e)) H
def rNeM (K : PySem.W.Frag) : L2.R2 := fun x y H Q => ∃ d e, Dp K H x d ∧ Dp K H y e ∧ d.canLay0 = true ∧ e.canLay0 = true ∧ min d.depth e.depth ≤ 64 ∧ Q (.bl (!PyData.eqv d e)) H
theorem op_eqM {X : Cx} (hu : X.A.units + 64 < cLine) : OpR X (compareOp .Eq) (rEqM X.K) := by
  intro pins s σ H x y v u Q I rx ry h
  obtain ⟨d, e, hd, he, sd, se, sm, q⟩ := h
  obtain ⟨as, r1⟩ := Dp.reads I d x v hd rx
  obtain ⟨bs, r2⟩ := Dp.reads I e y u he ry
  exact SeqAt.compareEq_reads r1 r2 sd se (by omega) ⟨.bl _, H, I, rfl, q⟩
theorem op_neM {X : Cx} (hu : X.A.units + 64 < cLine) : OpR X (compareOp .NotEq) (rNeM X.K) := by
  intro pins s σ H x y v u Q I rx ry h
  obtain ⟨d, e, hd, he, sd, se, sm, q⟩ := h
  obtain ⟨as, r1⟩ := Dp.reads I d x v hd rx
  obtain ⟨bs, r2⟩ := Dp.reads I e y u he ry
  exact SeqAt.compareNe_reads r1 r2 sd se (by omega) ⟨.bl _, H, I, rfl, q⟩
def eqB (x y : D) : Option Bool := match sEq x y with
  | some b => some b
  | none => pEq x y
def dEq (x y : D) : Option D := (eqB x y).map .bl
def dNe (x y : D) : Option D := (eqB x y).map fun b => .bl (!b)
def vOf : D → V
  | .non => .non
  | .bl b => .bl b
  | .int i => .int i
  | .str x => .str x
  | _ => .non
theorem sEq_scal {U : Gd} {Z : AP} {H : Hp} {x y : D} {vx vy : V} {F1 F2 : List Addr} {b : Bool} (o1 : Own U Z H x vx F1) (o2 : Own U Z H y vy F2) (h : sEq x y = some b) : scal vx vy = true ∧ decide (vx = vy) = b := by
  cases x <;> cases y <;> first
    | (cases h; done)
    | skip
  all_goals (unfold Own at o1 o2; obtain ⟨rfl, _⟩ := o1; obtain ⟨rfl, _⟩ := o2; unfold sEq at h; cases h; refine ⟨rfl, ?_⟩; simp)
def rEqA (K : PySem.W.Frag) : L2.R2 := fun x y H Q => rEq x y H Q ∨ rEqM K x y H Q
def rNeA (K : PySem.W.Frag) : L2.R2 := fun x y H Q => rNe x y H Q ∨ rNeM K x y H Q
theorem op_eqA {X : Cx} (hu : X.A.units + 64 < cLine) : OpR X (compareOp .Eq) (rEqA X.K) := OpR.or op_eq (op_eqM hu)
theorem op_neA {X : Cx} (hu : X.A.units + 64 < cLine) : OpR X (compareOp .NotEq) (rNeA X.K) := OpR.or op_ne (op_neM hu)
theorem pEq_some {x y : D} {b : Bool} (h : pEq x y = some b) : ∃ p q, x.toP = some p ∧ y.toP = some q ∧ p.canLay0 = true ∧ q.canLay0 = true ∧ min p.depth q.depth ≤ 64 ∧ PyData.eqv p q = b := by
  unfold pEq at h
  cases e1 : x.toP with
  | none => rw [e1] at h; cases h
  | some p =>
    cases e2 : y.toP with
    | none => rw [e1, e2] at h; cases h
    | some q =>
      rw [e1, e2] at h
      have h' : (if (p.canLay0 && q.canLay0 && decide (min p.depth q.depth ≤ 64)) = true then some (PyData.eqv p q) else none) = some b := h
      by_cases c : (p.canLay0 && q.canLay0 && decide (min p.depth q.depth ≤ 64)) = true
      · rw [if_pos c] at h'
        rw [Bool.and_eq_true, Bool.and_eq_true] at c
        exact ⟨p, q, rfl, rfl, c.1.1, c.1.2, of_decide_eq_true c.2, Option.some.inj h'⟩
      · rw [if_neg c] at h'
        cases h'
theorem opd_eq {U : Gd} : OpD U (rEqA U.K) dEq bNil := .ofPure fun Z H x y vx vy F1 F2 z o1 o2 e => by
  unfold dEq eqB at e
  cases h : sEq x y with
  | some b =>
    rw [h] at e
    cases e
    obtain ⟨h1, h2⟩ := sEq_scal o1 o2 h
    exact ⟨_, rfl, Own.bl, fun Q q => .inl ⟨h1, by rw [h2]; exact q⟩⟩
  | none =>
    rw [h] at e
    cases h' : pEq x y with
    | none =>
      have e' : (pEq x y).map D.bl = some z := e
      rw [h'] at e'; cases e'
    | some b =>
      have e' : (pEq x y).map D.bl = some z := e
      rw [h'] at e'; cases e'
      obtain ⟨p, q, e1, e2, s1, s2, s3, e3⟩ := pEq_some h'
      exact ⟨_, rfl, Own.bl, fun Q k => .inr ⟨p, q, o1.dp e1, o2.dp e2, s1, s2, s3, by rw [e3]; exact k⟩⟩
theorem opd_ne {U : Gd} : OpD U (rNeA U.K) dNe bNil := .ofPure fun Z H x y vx vy F1 F2 z o1 o2 e => by
  unfold dNe eqB at e
  cases h : sEq x y with
  | some b =>
    rw [h] at e
    cases e
    obtain ⟨h1, h2⟩ := sEq_scal o1 o2 h
    exact ⟨_, rfl, Own.bl, fun Q q => .inl ⟨h1, by rw [h2]; exact q⟩⟩
  | none =>
    rw [h] at e
    cases h' : pEq x y with
    | none =>
      have e' : (pEq x y).map (fun b => D.bl (!b)) = some z := e
      rw [h'] at e'; cases e'
    | some b =>
      have e' : (pEq x y).map (fun b => D.bl (!b)) = some z := e
      rw [h'] at e'; cases e'
      obtain ⟨p, q, e1, e2, s1, s2, s3, e3⟩ := pEq_some h'
      exact ⟨_, rfl, Own.bl, fun Q k => .inr ⟨p, q, o1.dp e1, o2.dp e2, s1, s2, s3, by rw [e3]; exact k⟩⟩

/-! ### order: ints, tuples of ints -/
def intsOf : List D → Option (List Int)
  | [] => some []
  | .int i :: r => (intsOf r).map (i :: ·)
  | _ :: _ => none
theorem intsOf_own {U : Gd} {Z : AP} {H : Hp} : ∀ {ds : List D} {vs : List V} {F : List Addr} {ns : List Int}, OwnL U Z H ds vs F → intsOf ds = some ns → vs = ns.map V.int ∧ F = []
  | [], vs, F, ns, h, e => by
    unfold OwnL at h
    cases e
    exact h
  | d :: ds, vs, F, ns, h, e => by
    obtain ⟨v, ws, F1, F2, rfl, rfl, o1, o2, _⟩ := h.cases
    cases d with
    | int i =>
      have e' : (intsOf ds).map (i :: ·) = some ns := e
      cases q : intsOf ds with
      | none => rw [q] at e'; cases e'
      | some ms =>
        rw [q] at e'; cases e'
        obtain ⟨rfl, rfl⟩ := Own.int_iff.mp o1
        obtain ⟨rfl, rfl⟩ := intsOf_own o2 q
        exact ⟨rfl, rfl⟩
    | _ => cases e
def dLt : D → D → Option D
  | .int i, .int j => some (.bl (decide (i < j)))
  | .tup xs, .tup ys => match intsOf xs, intsOf ys with
    | some ns, some ms => some (.bl (HT.lexLt ns ms))
    | _, _ => none
  | _, _ => none
def rLtA (K : PySem.W.Frag) : L2.R2 := fun x y H Q => (rI0 fun i j => .bl (decide (i < j))) x y H Q ∨ rLtT K x y H Q
theorem op_ltA {X : Cx} (hu : X.A.units < cLine) : OpR X (compareOp .Lt) (rLtA X.K) := OpR.or op_lt (op_ltT hu)
theorem opd_lt {U : Gd} : OpD U (rLtA U.K) dLt bNil := .ofPure fun Z H x y vx vy F1 F2 z o1 o2 e => by
  cases x with
  | int i =>
    cases y with
    | int j =>
      cases e
      obtain ⟨rfl, _⟩ := Own.int_iff.mp o1
      obtain ⟨rfl, _⟩ := Own.int_iff.mp o2
      exact ⟨_, rfl, Own.bl, fun Q q => .inl ⟨i, j, rfl, rfl, q⟩⟩
    | _ => cases e
  | tup xs =>
    cases y with
    | tup ys =>
      obtain ⟨a, vs, rfl, t1, l1⟩ := Own.tup_iff.mp o1
      obtain ⟨b, ws, rfl, t2, l2⟩ := Own.tup_iff.mp o2
      dsimp only [dLt] at e
      cases e1 : intsOf xs with
      | none => rw [e1] at e; cases e
      | some ns =>
        cases e2 : intsOf ys with
        | none => rw [e1, e2] at e; cases e
        | some ms =>
          rw [e1, e2] at e
          cases e
          obtain ⟨rfl, _⟩ := intsOf_own l1 e1
          obtain ⟨rfl, _⟩ := intsOf_own l2 e2
          exact ⟨_, rfl, Own.bl, fun Q q => .inr ⟨a, b, ns, ms, rfl, rfl, t1.sq, t2.sq, q⟩⟩
    | _ => cases e
  | _ => cases e
def dLe := iBin fun i j => some (.bl (decide (i ≤ j)))
def dGt := iBin fun i j => some (.bl (decide (j < i)))
def dGe := iBin fun i j => some (.bl (decide (j ≤ i)))
theorem opd_le {U : Gd} : OpD U (rI0 fun i j => .bl (decide (i ≤ j))) dLe bNil := opd_B0
theorem opd_gt {U : Gd} : OpD U (rI0 fun i j => .bl (decide (j < i))) dGt bNil := opd_B0
theorem opd_ge {U : Gd} : OpD U (rI0 fun i j => .bl (decide (j ≤ i))) dGe bNil := opd_B0

/-! ### is None -/
def dIsN : D → D → Option D
  | .non, .non => some (.bl true)
  | _, .non => some (.bl false)
  | _, _ => none
def dNotN : D → D → Option D
  | .non, .non => some (.bl false)
  | _, .non => some (.bl true)
  | _, _ => none
theorem isN_own {U : Gd} {Z : AP} {H : Hp} {x : D} {v : V} {F : List Addr} (o : Own U Z H x v F) : decide (v = .non) = (match x with | .non => true | _ => false) := by
  cases x <;> unfold Own at o
  case non => obtain ⟨rfl, _⟩ := o; rfl
  case bl => obtain ⟨rfl, _⟩ := o; rfl
  case int => obtain ⟨rfl, _⟩ := o; rfl
  case str => obtain ⟨rfl, _⟩ := o; rfl
  case tup => obtain ⟨_, _, rfl, _⟩ := o; rfl
  case lst => obtain ⟨_, _, _, rfl, _⟩ := o; rfl
  case frz => obtain ⟨_, _, _, rfl, _⟩ := o; rfl
  case dK => obtain ⟨_, _, _, rfl, _⟩ := o; rfl
  case dT => obtain ⟨_, _, _, rfl, _⟩ := o; rfl
  case ins => obtain ⟨_, _, _, _, _, rfl, _⟩ := o; rfl
  case obj => obtain ⟨_, _, _, _, rfl, _⟩ := o; rfl
def rIsN : L2.R2 := fun x y H Q => y = .non ∧ Q (.bl (decide (x = .non))) H
def rNotN : L2.R2 := fun x y H Q => y = .non ∧ Q (.bl (!decide (x = .non))) H
theorem opd_isN {U : Gd} : OpD U rIsN dIsN bNil := .ofPure fun Z H x y vx vy F1 F2 z o1 o2 e => by
  have ey : y = .non := by cases y <;> first | rfl | (cases x <;> cases e)
  subst ey
  obtain ⟨rfl, _⟩ := Own.non_iff.mp o2
  have h := isN_own o1
  cases x <;> cases e <;> exact ⟨_, rfl, Own.bl, fun Q q => ⟨rfl, by rw [h]; exact q⟩⟩
theorem opd_notN {U : Gd} : OpD U rNotN dNotN bNil := .ofPure fun Z H x y vx vy F1 F2 z o1 o2 e => by
  have ey : y = .non := by cases y <;> first | rfl | (cases x <;> cases e)
  subst ey
  obtain ⟨rfl, _⟩ := Own.non_iff.mp o2
  have h := isN_own o1
  cases x <;> cases e <;> exact ⟨_, rfl, Own.bl, fun Q q => ⟨rfl, by rw [h]; exact q⟩⟩

/-! ### in, not in -/
def flatD : D → Bool
  | .non => true
  | .bl _ => true
  | .int _ => true
  | .str _ => true
  | _ => false
def inD (x : D) (xs : List D) : Bool := xs.any fun y => eqV (vOf y) (vOf x)
/-- sub within s -/
def strIn (i j : Str) : Bool := !(Builtin.Str.occurrences j i 0 j.length 1).isEmpty
def pIn (x : D) (xs : List D) : Option Bool := match x.toP, toPL xs with
  | some p, some ps => if SeqAt.shaped p && SeqAt.shaped (.list ps) then some (ps.any fun z => PyData.eqv z p) else none
  | _, _ => none
def inB : D → D → Option Bool
  | .str i, .str j => some (strIn i j)
  | x, .tup xs => if flatD x && xs.all flatD then some (inD x xs) else none
  | x, .lst xs => if flatD x && xs.all flatD then some (inD x xs) else pIn x xs
  | x, .frz xs => if flatD x && xs.all flatD then some (inD x xs) else none
  | _, _ => none
def dIn (x y : D) : Option D := (inB x y).map .bl
def dNotIn (x y : D) : Option D := (inB x y).map fun b => .bl (!b)
theorem flat_v {U : Gd} {Z : AP} {H : Hp} {x : D} {v : V} {F : List Addr} (o : Own U Z H x v F) (f : flatD x = true) : v = vOf x ∧ flatV v = true := by
  cases x <;> first
    | (unfold Own at o; obtain ⟨rfl, _⟩ := o; exact ⟨rfl, rfl⟩)
    | cases f
theorem flat_vs {U : Gd} {Z : AP} {H : Hp} : ∀ {ds : List D} {vs : List V} {F : List Addr}, OwnL U Z H ds vs F → ds.all flatD = true → vs = ds.map vOf ∧ vs.all flatV = true
  | [], vs, F, h, f => by
    unfold OwnL at h
    obtain ⟨rfl, _⟩ := h
    exact ⟨rfl, rfl⟩
  | d :: ds, vs, F, h, f => by
    obtain ⟨v, ws, F1, F2, rfl, rfl, o1, o2, _⟩ := h.cases
    rw [List.all_cons, Bool.and_eq_true] at f
    obtain ⟨e1, f1⟩ := flat_v o1 f.1
    obtain ⟨e2, f2⟩ := flat_vs o2 f.2
    refine ⟨by rw [List.map_cons, ← e1, ← e2], ?_⟩
    rw [List.all_cons, f1, f2]; rfl
theorem inV_map (x : D) (ds : List D) : inV (vOf x) (ds.map vOf) = inD x ds := by
  unfold inV inD
  rw [List.any_map]
  rfl
def rInStr : L2.R2 := fun x y H Q => ∃ i j, x = .str i ∧ y = .str j ∧ Q (.bl (strIn i j)) H
def rNotInStr : L2.R2 := fun x y H Q => ∃ i j, x = .str i ∧ y = .str j ∧ Q (.bl (!strIn i j)) H
def rInA (K : PySem.W.Frag) : L2.R2 := fun x y H Q => (rInStr x y H Q ∨ rIn K false x y H Q) ∨ rInD K x y H Q
def rNotInA (K : PySem.W.Frag) : L2.R2 := fun x y H Q => (rNotInStr x y H Q ∨ rIn K true x y H Q) ∨ rNotInD K x y H Q
theorem op_inA {X : Cx} (hu : X.A.units + 65 < cLine) : OpR X (compareOp .In) (rInA X.K) := OpR.or (OpR.or op_in_str op_in_seq) (op_inD hu)
theorem op_notInA {X : Cx} (hu : X.A.units + 65 < cLine) : OpR X (compareOp .NotIn) (rNotInA X.K) := OpR.or (OpR.or op_notin_str op_notIn_seq) (op_notInD hu)
/-- how `in' is answered -/
theorem inB_cases {U : Gd} {Z : AP} {H : Hp} {x y : D} {vx vy : V} {F1 F2 : List Addr} {b : Bool} (o1 : Own U Z H x vx F1) (o2 : Own U Z H y vy F2) (e : inB x y = some b) :
    (∃ i j, vx = .str i ∧ vy = .str j ∧ b = strIn i j) ∨ (∃ p xs, vy = .ref p ∧ (SqL U.K H p xs ∨ SqT U.K H p xs) ∧ flatV vx = true ∧ xs.all flatV = true ∧ b = inV vx xs) ∨
    (∃ d ds, Dp U.K H vx d ∧ Dp U.K H vy (.list ds) ∧ SeqAt.shaped d = true ∧ SeqAt.shaped (.list ds) = true ∧ b = ds.any fun z => PyData.eqv z d) := by
  have flat : ∀ {xs : List D} {vs : List V} {F : List Addr}, OwnL U Z H xs vs F → (flatD x && xs.all flatD) = true → flatV vx = true ∧ vs.all flatV = true ∧ inD x xs = inV vx vs := fun {xs vs F} l c => by
    rw [Bool.and_eq_true] at c
    obtain ⟨e1, f1⟩ := flat_v o1 c.1
    obtain ⟨e2, f2⟩ := flat_vs l c.2
    refine ⟨f1, f2, ?_⟩
    rw [← inV_map x, ← e1, ← e2]
  cases y with
  | str j =>
    cases x with
    | str i =>
      cases e
      obtain ⟨rfl, _⟩ := Own.str_iff.mp o1
      obtain ⟨rfl, _⟩ := Own.str_iff.mp o2
      exact .inl ⟨i, j, rfl, rfl, rfl⟩
    | _ => cases e
  | tup xs =>
    have e' : (if (flatD x && xs.all flatD) = true then some (inD x xs) else none) = some b := by cases x <;> exact e
    by_cases c : (flatD x && xs.all flatD) = true
    · rw [if_pos c] at e'; cases e'
      obtain ⟨a, vs, rfl, t, l⟩ := Own.tup_iff.mp o2
      obtain ⟨f1, f2, f3⟩ := flat l c
      exact .inr (.inl ⟨a, vs, rfl, .inr t.sq, f1, f2, f3⟩)
    · rw [if_neg c] at e'; cases e'
  | frz xs =>
    have e' : (if (flatD x && xs.all flatD) = true then some (inD x xs) else none) = some b := by cases x <;> exact e
    by_cases c : (flatD x && xs.all flatD) = true
    · rw [if_pos c] at e'; cases e'
      obtain ⟨_, a, vs, rfl, t, l⟩ := Own.frz_iff.mp o2
      obtain ⟨f1, f2, f3⟩ := flat l c
      exact .inr (.inl ⟨a, vs, rfl, .inl t.sq, f1, f2, f3⟩)
    · rw [if_neg c] at e'; cases e'
  | lst xs =>
    have e' : (if (flatD x && xs.all flatD) = true then some (inD x xs) else pIn x xs) = some b := by cases x <;> exact e
    by_cases c : (flatD x && xs.all flatD) = true
    · rw [if_pos c] at e'; cases e'
      obtain ⟨a, vs, G, rfl, _, t, _, l⟩ := Own.lst_iff.mp o2
      obtain ⟨f1, f2, f3⟩ := flat l c
      exact .inr (.inl ⟨a, vs, rfl, .inl (.of t), f1, f2, f3⟩)
    · rw [if_neg c] at e'
      unfold pIn at e'
      cases q1 : x.toP with
      | none => rw [q1] at e'; cases e'
      | some p =>
        cases q2 : toPL xs with
        | none => rw [q1, q2] at e'; cases e'
        | some ps =>
          rw [q1, q2] at e'
          have e2 : (if (SeqAt.shaped p && SeqAt.shaped (.list ps)) = true then some (ps.any fun z => PyData.eqv z p) else none) = some b := e'
          by_cases c2 : (SeqAt.shaped p && SeqAt.shaped (.list ps)) = true
          · rw [if_pos c2] at e2; cases e2
            rw [Bool.and_eq_true] at c2
            refine .inr (.inr ⟨p, ps, o1.dp q1, o2.dp (by unfold D.toP; rw [q2]; rfl), c2.1, c2.2, rfl⟩)
          · rw [if_neg c2] at e2; cases e2
  | _ => cases x <;> cases e
theorem opd_in {U : Gd} : OpD U (rInA U.K) dIn bNil := .ofPure fun Z H x y vx vy F1 F2 z o1 o2 e => by
  unfold dIn at e
  cases h : inB x y with
  | none => rw [h] at e; cases e
  | some b =>
    rw [h] at e; cases e
    refine ⟨_, rfl, Own.bl, fun Q q => ?_⟩
    rcases inB_cases o1 o2 h with ⟨i, j, e1, e2, rfl⟩ | ⟨p, xs, e1, hs, f1, f2, rfl⟩ | ⟨d, ds, h1, h2, s1, s2, rfl⟩
    · exact .inl (.inl ⟨i, j, e1, e2, q⟩)
    · exact .inl (.inr ⟨p, xs, e1, hs, f1, f2, q⟩)
    · exact .inr ⟨d, ds, h1, h2, s1, s2, q⟩
theorem opd_notIn {U : Gd} : OpD U (rNotInA U.K) dNotIn bNil := .ofPure fun Z H x y vx vy F1 F2 z o1 o2 e => by
  unfold dNotIn at e
  cases h : inB x y with
  | none => rw [h] at e; cases e
  | some b =>
    rw [h] at e; cases e
    refine ⟨_, rfl, Own.bl, fun Q q => ?_⟩
    rcases inB_cases o1 o2 h with ⟨i, j, e1, e2, rfl⟩ | ⟨p, xs, e1, hs, f1, f2, rfl⟩ | ⟨d, ds, h1, h2, s1, s2, rfl⟩
    · exact .inl (.inl ⟨i, j, e1, e2, q⟩)
    · exact .inl (.inr ⟨p, xs, e1, hs, f1, f2, q⟩)
    · exact .inr ⟨d, ds, h1, h2, s1, s2, q⟩

/-! ### an index -/
def dIx : D → D → Option D
  | .lst xs, .int i => atI xs i
  | .tup xs, .int i => atI xs i
  | .frz xs, .int i => atI xs i
  | .str x, .int i => if x.length ≤ sizeLine then (atI x.cps.toList i).map fun c => .str ⟨#[c]⟩ else none
  | _, _ => none
theorem atI_own {U : Gd} {Z : AP} {H : Hp} {ds : List D} {vs : List V} {F : List Addr} {i : Int} {d : D} (l : OwnL U Z H ds vs F) (e : atI ds i = some d) : ∃ v G, atI vs i = some v ∧ Own U Z H d v G ∧ ∀ a ∈ G, a ∈ F := by
  unfold atI at e ⊢
  rw [l.len]
  cases h : ixN ds.length i with
  | none => rw [h] at e; cases e
  | some j =>
    rw [h] at e
    exact l.get (i := j) e
theorem opd_ix {U : Gd} : OpD U (rIx U.K) dIx bFst := by
  intro E Z r Fs s H B1 B2 x y vx vy F1 F2 z Q S h1 h2 e dj k
  have o1 := h1.own
  have o2 := h2.own
  have ey : ∃ i, y = .int i := by
    cases x <;> cases y <;> first | exact ⟨_, rfl⟩ | cases e
  obtain ⟨i, rfl⟩ := ey
  obtain ⟨rfl, _⟩ := Own.int_iff.mp o2
  have item : ∀ {v : V} {G : List Addr}, Own U Z H z v G → (∀ a ∈ G, a ∈ F1) → Q v H := fun {v G} o sub =>
    k Z H v G Step.refl S ⟨o, fun a m => h1.nz a (sub a m), fun a m => h1.al a (sub a m), fun a m => h1.dis a (sub a m)⟩ fun a m => .inr (.inl ⟨sub a m, fun _ q => q⟩)
  cases x with
  | lst xs =>
    obtain ⟨a, vs, G, rfl, rfl, t, _, l⟩ := Own.lst_iff.mp o1
    obtain ⟨v, G', e', o, sub⟩ := atI_own (i := i) l e
    exact .inl ⟨a, vs, i, v, rfl, rfl, .of t, e', item o fun a m => List.mem_cons_of_mem _ (sub a m)⟩
  | tup xs =>
    obtain ⟨a, vs, rfl, t, l⟩ := Own.tup_iff.mp o1
    obtain ⟨v, G', e', o, sub⟩ := atI_own (i := i) l e
    exact .inr (.inl ⟨a, vs, i, v, rfl, rfl, t.sq, e', item o sub⟩)
  | frz xs =>
    obtain ⟨rfl, a, vs, rfl, t, l⟩ := Own.frz_iff.mp o1
    obtain ⟨v, G', e', o, sub⟩ := atI_own (i := i) l e
    exact .inl ⟨a, vs, i, v, rfl, rfl, t.sq, e', item o sub⟩
  | str x =>
    obtain ⟨rfl, rfl⟩ := Own.str_iff.mp o1
    have e' : (if x.length ≤ sizeLine then (atI x.cps.toList i).map fun c => D.str ⟨#[c]⟩ else none) = some z := e
    by_cases c : x.length ≤ sizeLine
    · rw [if_pos c] at e'
      cases h : atI x.cps.toList i with
      | none => rw [h] at e'; cases e'
      | some w =>
        rw [h] at e'; cases e'
        exact .inr (.inr ⟨x, i, w, rfl, rfl, c, h, item Own.str fun _ m => nomatch m⟩)
    · rw [if_neg c] at e'; cases e'
  | _ => cases e
end DL

set_option Elab.async false
set_option linter.all false
set_option maxRecDepth 100000
namespace DL
open PySem PySem.Spec L2
section
variable {X : Cx} {cm : Str → Option Addr} {W : WX} {R R1 R2 R3 B B1 B2 B3 : List Nat} {a b c e : Expr} {es : List Expr} {fa fb fc f : Env → Res D} {fs : Env → Res (List D)} {pos : Pos} {n : Nat}

/-! ### names, constants -/
def fVar (i : Nat) : Env → Res D := fun r => match r[i]? with
  | some (some d) => .ok d r
  | _ => .bad
theorem fVar_ok {i : Nat} {r : Env} {d : D} (h : r[i]? = some (some d)) : fVar i r = .ok d r := by unfold fVar; rw [h]
theorem fVar_post {U : Gd} {E : En} {Z : AP} {Fs : Nat → List Addr} {H : Hp} {s : St} {r : Env} {i : Nat} {Q : VK} (S : SR U E Z r Fs s H) (p : postE U W E Z Fs H s [] [i] (fVar i r) Q) : ∃ v, s[i]? = some (some v) ∧ Q v H := by
  unfold fVar at p
  cases h : r[i]? with
  | none => rw [h] at p; exact p.elim
  | some o =>
    cases o with
    | none => rw [h] at p; exact p.elim
    | some d =>
      rw [h] at p
      obtain ⟨v, e, o⟩ := S.own i d h
      exact ⟨v, e, p Z Fs H v (Fs i) (.here S ⟨o, fun a m => S.nz i a m, fun a m => S.al i a m, fun a m k q => List.mem_singleton.mpr (S.dis k i a q m)⟩ fun a m => ⟨i, List.mem_singleton.mpr rfl, m⟩)⟩
theorem SX.var (i : Nat) {x : Str} (hN : X.N[i]? = some x := by rfl) (hv : Vis X.env.scope x := by first | exact Or.inl rfl | exact Or.inr (Or.inl rfl) | exact Or.inr (Or.inr rfl)) (hd : (x == ("__debug__" : Str)) = false := by decide)
    (hcd : (x == ("__classdict__" : Str)) = false := by decide) : SX X cm W [] [i] (.Name x pos) (fVar i) :=
  .of (pe_var hN hv hd hcd) fun _ _ _ _ _ _ _ S p => fVar_post S p
def fC (d : D) : Env → Res D := fun r => .ok d r
theorem post_C {U : Gd} {E : En} {Z : AP} {Fs : Nat → List Addr} {H : Hp} {s : St} {r : Env} {Q : VK} {d : D} {v : V} (S : SR U E Z r Fs s H) (o : Own U Z H d v []) (hp : d.pure = true) (p : postE U W E Z Fs H s [] B (fC d r) Q) : Q v H :=
  p Z Fs H v [] (.ofPure S o hp)
theorem SX.int {i : Int} {j : Nat} : SX X cm W [] [] (.Constant (.int i) j pos) (fC (.int i)) := .of pe_int fun _ _ _ _ _ _ _ S p => post_C S Own.int rfl p
theorem SX.bl {i : Bool} {j : Nat} : SX X cm W [] [] (.Constant (.bool i) j pos) (fC (.bl i)) := .of pe_bl fun _ _ _ _ _ _ _ S p => post_C S Own.bl rfl p
theorem SX.non {j : Nat} : SX X cm W [] [] (.Constant .none j pos) (fC .non) := .of pe_non fun _ _ _ _ _ _ _ S p => post_C S Own.non rfl p
theorem SX.str {x : Str} {j : Nat} : SX X cm W [] [] (.Constant (.str x) j pos) (fC (.str x)) := .of pe_str fun _ _ _ _ _ _ _ S p => post_C S Own.str rfl p
/-- a module's constant, an int or a text -/
theorem SX.gint {x : Str} {i : Int} {t : Tok} (hm : X.mg x = some (.int i t)) (hg : Gl X x := by rfl) (hd : (x == ("__debug__" : Str)) = false := by decide) : SX X cm W [] [] (.Name x pos) (fC (.int i)) :=
  .of (pe_glob (v := .int i) hg hm ⟨_, rfl⟩ hd) fun _ _ _ _ _ _ _ S p => post_C S Own.int rfl p
theorem SX.gstr {x y : Str} {t : Tok} (hm : X.mg x = some (.str y t)) (hg : Gl X x := by rfl) (hd : (x == ("__debug__" : Str)) = false := by decide) : SX X cm W [] [] (.Name x pos) (fC (.str y)) :=
  .of (pe_glob (v := .str y) hg hm ⟨_, rfl⟩ hd) fun _ _ _ _ _ _ _ S p => post_C S Own.str rfl p

/-- what comes out holds nothing that may change: it may be kept -/
def fPure (f : Env → Res D) : Env → Res D := fun r => (f r).bind fun d r1 => if d.pure then .ok d r1 else .bad
theorem SX.pure (h : SX X cm W R B e f) : SX X cm W R [] e (fPure f) := ⟨⟨fun pins sh s H Q I ⟨E, Z, r, Fs, S, p⟩ => h.run.run pins sh s H Q I ⟨E, Z, r, Fs, S, by
  unfold fPure at p
  cases q : f r with
  | ok d r1 =>
    rw [q, Res.bind_ok] at p
    intro Z' Fs' H' v F ev
    by_cases hp : d.pure = true
    · rw [if_pos hp] at p
      have e0 := ev.val.own.pureF hp
      subst e0
      exact p Z' Fs' H' v [] ⟨ev.st, ev.sr, .ofPure ev.val.own hp, fun _ m => nomatch m⟩
    · rw [if_neg hp] at p
      exact p.elim
  | exc c fs vs r1 => rw [q] at p; exact p
  | bad => rw [q] at p; exact p⟩⟩⟩
theorem SX.mono (h : SX X cm W R1 B1 e f) (hr : ∀ j ∈ R1, j ∈ R) (hb : ∀ j ∈ B1, j ∈ B) : SX X cm W R B e f :=
  ⟨⟨fun pins sh s H Q I ⟨E, Z, r, Fs, S, p⟩ => h.run.run pins sh s H Q I ⟨E, Z, r, Fs, S, postE.mono hr hb p⟩⟩⟩
theorem SX.eq {f' : Env → Res D} (h : SX X cm W R B e f) (q : ∀ r, f r = f' r) : SX X cm W R B e f' := by
  have : f = f' := funext q
  rw [← this]; exact h

/-! ### argument lists -/
def fNil : Env → Res (List D) := fun r => .ok [] r
def fCons (f : Env → Res D) (fs : Env → Res (List D)) : Env → Res (List D) := fun r => (f r).bind fun d r1 => (fs r1).bind fun ds r2 => .ok (d :: ds) r2
theorem SA.nil : SA X cm W [] [] [] fNil := .of pa_nil fun E Z r Fs s H Q S p => p Z Fs H [] [] ⟨Step.refl, S, by unfold ValL; exact ⟨rfl, rfl⟩, fun _ m => nomatch m⟩
theorem ValL.step {U : Gd} {E : En} {Z Z1 : AP} {r : Env} {Fs Fs1 : Nat → List Addr} {s : St} {H H1 : Hp} {A : List Nat} (S : SR U E Z r Fs s H) (t : Step Z Fs H R A Z1 Fs1 H1) (nb : ∀ j ∈ R, j ∉ B) :
    ∀ {ds : List D} {vs : List V} {Fl : List (List Addr)}, ValL U E Z H Fs B ds vs Fl → (∀ G ∈ Fl, ∀ a ∈ G, ∀ k, a ∈ Fs k → ∃ k, a ∈ Fs1 k) → ValL U E Z1 H1 Fs1 B ds vs Fl
  | [], _, _, h, _ => h
  | d :: ds, vs, Fl, h, hk => by
    unfold ValL at h ⊢
    obtain ⟨v, ws, F, Gl, rfl, rfl, hv, ht, hc⟩ := h
    exact ⟨v, ws, F, Gl, rfl, rfl, hv.step S t nb, ValL.step S t nb ht fun G m => hk G (List.mem_cons_of_mem _ m), fun a m G mG q => by
      obtain ⟨k, z⟩ := hc a m G mG q
      exact hk F List.mem_cons_self a m k z⟩
theorem ValL.mono {U : Gd} {E : En} {Z : AP} {Fs : Nat → List Addr} {H : Hp} (hb : ∀ j ∈ B1, j ∈ B) : ∀ {ds : List D} {vs : List V} {Fl : List (List Addr)}, ValL U E Z H Fs B1 ds vs Fl → ValL U E Z H Fs B ds vs Fl
  | [], _, _, h => h
  | d :: ds, vs, Fl, h => by
    unfold ValL at h ⊢
    obtain ⟨v, ws, F, Gl, rfl, rfl, hv, ht, hc⟩ := h
    exact ⟨v, ws, F, Gl, rfl, rfl, hv.mono hb, ValL.mono hb ht, hc⟩
theorem ValL.len {U : Gd} {E : En} {Z : AP} {Fs : Nat → List Addr} {H : Hp} : ∀ {ds : List D} {vs : List V} {Fl : List (List Addr)}, ValL U E Z H Fs B ds vs Fl → vs.length = ds.length
  | [], _, _, h => by unfold ValL at h; rw [h.1]; rfl
  | d :: ds, vs, Fl, h => by
    unfold ValL at h
    obtain ⟨v, ws, F, Gl, rfl, rfl, hv, ht, hc⟩ := h
    rw [List.length_cons, List.length_cons, ht.len]
theorem SA.cons (ha : SX X cm W R1 B1 e fa) (hr : SA X cm W R2 B2 es fs) (nb : ∀ j ∈ R2, j ∉ B1) (hs : starEach (e :: es) X.env = (false, eval e X.env) :: starEach es X.env := by rfl) : SA X cm W (R1 ++ R2) (B1 ++ B2) (e :: es) (fCons fa fs) :=
  .of (pa_cons ha.run hr.run hs) fun E Z r Fs s H Q S p => by
    refine ⟨E, Z, r, Fs, S, bindEL p fun d r1 Z1 Fs1 H1 v F q1 e1 p1 => ?_⟩
    refine ⟨E, Z1, r1, Fs1, e1.sr, ?_⟩
    unfold fCons at p
    rw [q1, Res.bind_ok] at p
    cases q2 : fs r1 with
    | exc c fs vs r2 => rw [q2] at p1; exact p1
    | bad => rw [q2] at p1; exact p1
    | ok ds r2 =>
      rw [q2, Res.bind_ok] at p
      intro Z2 Fs2 H2 vs Fl e2
      have v1 := e1.val.step e1.sr e2.st nb
      refine p Z2 Fs2 H2 (v :: vs) (F :: Fl) ⟨e1.st.trans e2.st, e2.sr, ?_, fun G mG a m => ?_⟩
      · unfold ValL
        refine ⟨v, vs, F, Fl, rfl, rfl, v1.mono fun j m => List.mem_append_left _ m, e2.val.mono fun j m => List.mem_append_right _ m, fun a m G mG q => ?_⟩
        rcases e2.src G mG a q with ⟨j, _, z⟩ | z | ⟨j, mj, z⟩
        · exact ⟨j, z⟩
        · obtain ⟨o, w⟩ := e1.val.own.dom a m
          exact (some_none w z).elim
        · exact (nb j mj (e1.val.dis a m j z)).elim
      · rcases List.mem_cons.mp mG with rfl | mG
        · rcases e1.src a m with ⟨j, mj, z⟩ | z | ⟨j, mj, z⟩
          · refine .inl ⟨j, List.mem_append_left _ mj, ?_⟩
            rw [e2.st.fs j (fun z => nb j z mj) (fun z => nomatch z)]
            exact z
          · exact .inr (.inl z)
          · exact .inr (.inr ⟨j, List.mem_append_left _ mj, z⟩)
        · rcases e2.src G mG a m with ⟨j, mj, z⟩ | z | ⟨j, mj, z⟩
          · exact .inl ⟨j, List.mem_append_right _ mj, z⟩
          · exact .inr (.inl (e1.st.dm a z))
          · rcases e1.st.fw j a z with z | z | ⟨k, mk, z⟩
            · exact .inr (.inr ⟨j, List.mem_append_right _ mj, z⟩)
            · exact .inr (.inl z)
            · exact .inr (.inr ⟨k, List.mem_append_left _ mk, z⟩)

/-! ### displays -/
/-- values of fresh things side by side -/
theorem ValL.ownL {U : Gd} {E : En} {Z : AP} {Fs : Nat → List Addr} {H : Hp} : ∀ {ds : List D} {vs : List V} {Fl : List (List Addr)}, ValL U E Z H Fs [] ds vs Fl → OwnL U Z H ds vs Fl.flatten ∧ ∀ a ∈ Fl.flatten, ¬ Z a ∧ E.al a ∧ ∀ k, a ∉ Fs k
  | [], _, _, h => by
    unfold ValL at h
    obtain ⟨rfl, rfl⟩ := h
    exact ⟨OwnL.nil, fun _ m => nomatch m⟩
  | d :: ds, vs, Fl, h => by
    unfold ValL at h
    obtain ⟨v, ws, F, Gl, rfl, rfl, hv, ht, hc⟩ := h
    obtain ⟨o, w⟩ := ht.ownL
    refine ⟨?_, fun a m => ?_⟩
    · rw [List.flatten_cons]
      refine OwnL.cons hv.own o fun a m q => ?_
      obtain ⟨G, mG, q⟩ := List.mem_flatten.mp q
      obtain ⟨k, z⟩ := hc a m G mG q
      exact nomatch hv.dis a m k z
    · rw [List.flatten_cons] at m
      rcases List.mem_append.mp m with m | m
      · exact ⟨hv.nz a m, hv.al a m, fun k z => nomatch hv.dis a m k z⟩
      · exact w a m
theorem ValL.ownP {U : Gd} {E : En} {Z : AP} {Fs : Nat → List Addr} {H : Hp} : ∀ {ds : List D} {vs : List V} {Fl : List (List Addr)}, ValL U E Z H Fs B ds vs Fl → pureL ds = true → OwnL U Z H ds vs []
  | [], _, _, h, _ => by
    unfold ValL at h
    obtain ⟨rfl, rfl⟩ := h
    exact OwnL.nil
  | d :: ds, vs, Fl, h, hp => by
    unfold ValL at h
    obtain ⟨v, ws, F, Gl, rfl, rfl, hv, ht, hc⟩ := h
    have hp' : (d.pure && pureL ds) = true := hp
    rw [Bool.and_eq_true] at hp'
    have e := hv.own.pureF hp'.1
    subst e
    exact OwnL.cons hv.own (ht.ownP hp'.2) fun _ m => nomatch m
def szOk (n : Nat) : Bool := decide (n ≤ 16777216)
theorem szOk_le {n : Nat} (h : szOk n = true) : n ≤ sizeLine := by rw [sizeLine_eq]; exact of_decide_eq_true h
def fTup (fs : Env → Res (List D)) : Env → Res D := fun r => (fs r).bind fun ds r1 => if szOk ds.length then .ok (.tup ds) r1 else .bad
def fLst (fs : Env → Res (List D)) : Env → Res D := fun r => (fs r).bind fun ds r1 => if szOk ds.length then .ok (.lst ds) r1 else .bad
theorem SX.tup {x1} (h : SA X cm W R [] es fs) : SX X cm W R [] (.Tuple es x1 pos) (fTup fs) := .of (pe_tup h.run) fun E Z r Fs s H Q S p => by
  refine ⟨E, Z, r, Fs, S, ?_⟩
  unfold fTup at p
  cases q : fs r with
  | exc c fs vs r1 => rw [q] at p; exact p
  | bad => rw [q] at p; exact p
  | ok ds r1 =>
    rw [q, Res.bind_ok] at p
    intro Z1 Fs1 H1 vs Fl e1
    by_cases hz : szOk ds.length = true
    · rw [if_pos hz] at p
      refine ⟨by rw [e1.val.len]; exact szOk_le hz, fun p0 hp => ?_⟩
      obtain ⟨o, w⟩ := e1.val.ownL
      have ev := EvR.tup (B := []) e1.sr hp o (F := Fl.flatten) (E := E)
      refine p (Zp Z1 p0 True) Fs1 _ (.ref p0) Fl.flatten ⟨?_, e1.sr.alloc hp _ _, ⟨?_, fun a m z => ?_, fun a m => (w a m).2.1, fun a m k z => ((w a m).2.2 k z).elim⟩, fun a m => ?_⟩
      · have t := e1.st.trans (Step.alloc (Z := Z1) (Fs := Fs1) hp (.tup vs) True)
        rw [List.append_nil] at t
        exact t
      · exact Own.tup_iff.mpr ⟨p0, vs, rfl, .inl ⟨.inr ⟨rfl, True.intro⟩, upd_same⟩, o.alloc hp _ _⟩
      · rcases z with z | ⟨z, _⟩
        · exact (w a m).1 z
        · obtain ⟨o', e'⟩ := o.dom a m
          exact ne_of_none e' hp z
      · obtain ⟨G, mG, q⟩ := List.mem_flatten.mp m
        rcases e1.src G mG a q with ⟨j, mj, _⟩ | z | z
        · cases mj
        · exact .inr (.inl z)
        · exact .inr (.inr z)
    · rw [if_neg hz] at p
      exact p.elim
theorem SX.lst (h : SA X cm W R [] es fs) : SX X cm W R [] (.List es pos) (fLst fs) := .of (pe_lst h.run) fun E Z r Fs s H Q S p => by
  refine ⟨E, Z, r, Fs, S, ?_⟩
  unfold fLst at p
  cases q : fs r with
  | exc c fs vs r1 => rw [q] at p; exact p
  | bad => rw [q] at p; exact p
  | ok ds r1 =>
    rw [q, Res.bind_ok] at p
    intro Z1 Fs1 H1 vs Fl e1
    by_cases hz : szOk ds.length = true
    · rw [if_pos hz] at p
      refine ⟨by rw [e1.val.len]; exact szOk_le hz, fun p0 hp => ?_⟩
      obtain ⟨o, w⟩ := e1.val.ownL
      have np : p0 ∉ Fl.flatten := fun m => by
        obtain ⟨o', e'⟩ := o.dom p0 m
        exact some_none e' hp
      refine p (Zp Z1 p0 False) Fs1 _ (.ref p0) (p0 :: Fl.flatten) ⟨?_, e1.sr.alloc hp (.lst vs) False, ⟨?_, fun a m z => ?_, fun a m => ?_, fun a m k z => ?_⟩, fun a m => ?_⟩
      · have t := e1.st.trans (Step.alloc (Z := Z1) (Fs := Fs1) hp (.lst vs) False)
        rw [List.append_nil] at t
        exact t
      · exact Own.lst_iff.mpr ⟨p0, vs, Fl.flatten, rfl, rfl, upd_same, np, o.alloc hp _ _⟩
      · rcases z with z | ⟨_, z⟩
        · rcases List.mem_cons.mp m with rfl | m
          · obtain ⟨o', e'⟩ := e1.sr.zd _ z
            exact some_none e' hp
          · exact (w a m).1 z
        · exact z
      · rcases List.mem_cons.mp m with rfl | m
        · exact e1.sr.fr _ (e1.sr.dm _ hp)
        · exact (w a m).2.1
      · rcases List.mem_cons.mp m with rfl | m
        · obtain ⟨o', e'⟩ := e1.sr.dom k _ z
          exact (some_none e' hp).elim
        · exact ((w a m).2.2 k z).elim
      · rcases List.mem_cons.mp m with rfl | m
        · exact .inr (.inl (e1.st.dm _ hp))
        · obtain ⟨G, mG, q⟩ := List.mem_flatten.mp m
          rcases e1.src G mG a q with ⟨j, mj, _⟩ | z | z
          · cases mj
          · exact .inr (.inl z)
          · exact .inr (.inr z)
    · rw [if_neg hz] at p
      exact p.elim

/-! ### truth, tests -/
def truD : D → Option Bool
  | .non => some false
  | .bl b => some b
  | .int i => some (i != 0)
  | .str y => if szOk y.length then some ((y.length : Int) != 0) else none
  | .tup xs => some (!xs.isEmpty)
  | .lst xs => some (!xs.isEmpty)
  | .frz xs => some (!xs.isEmpty)
  | _ => none
theorem isEmpty_len {α β : Type} {xs : List α} {ys : List β} (h : ys.length = xs.length) : ys.isEmpty = xs.isEmpty := by
  cases xs <;> cases ys <;> first | rfl | cases h
theorem truD_v {U : Gd} {Z : AP} {H : Hp} {d : D} {v : V} {F : List Addr} {k : Bool} (o : Own U Z H d v F) (h : truD d = some k) : TruV U.K v H k := by
  cases d with
  | non => obtain ⟨rfl, _⟩ := Own.non_iff.mp o; cases h; exact rfl
  | bl b => obtain ⟨rfl, _⟩ := Own.bl_iff.mp o; cases h; exact rfl
  | int b => obtain ⟨rfl, _⟩ := Own.int_iff.mp o; cases h; exact rfl
  | str y =>
    obtain ⟨rfl, _⟩ := Own.str_iff.mp o
    have h' : (if szOk y.length then some ((y.length : Int) != 0) else none) = some k := h
    by_cases hz : szOk y.length = true
    · rw [if_pos hz] at h'; cases h'; exact ⟨szOk_le hz, rfl⟩
    · rw [if_neg hz] at h'; cases h'
  | tup xs =>
    obtain ⟨a, vs, rfl, t, l⟩ := Own.tup_iff.mp o
    cases h
    exact .inr (.inl ⟨vs, t.sq, by rw [isEmpty_len l.len]⟩)
  | lst xs =>
    obtain ⟨a, vs, G, rfl, _, t, _, l⟩ := Own.lst_iff.mp o
    cases h
    exact .inl ⟨vs, .of t, by rw [isEmpty_len l.len]⟩
  | frz xs =>
    obtain ⟨_, a, vs, rfl, t, l⟩ := Own.frz_iff.mp o
    cases h
    exact .inl ⟨vs, t.sq, by rw [isEmpty_len l.len]⟩
  | _ => cases h
def truR (d : D) (r : Env) : Res Bool := match truD d with
  | some k => .ok k r
  | none => .bad
def fTru (f : Env → Res D) : Env → Res Bool := fun r => (f r).bind truR
def fBl (f : Env → Res D) : Env → Res Bool := fun r => (f r).bind fun d r1 => match d with
  | .bl k => .ok k r1
  | _ => .bad
theorem ST.truth (h : SX X cm W R B e f) (he : ∀ whole, isTrue e X.env whole = (do let v ← whole; standAt e.pos; holding [v] (truthy v)) := by intro _; rfl) : ST X cm W R e (fTru f) := .of (pt_truth h.run he) fun E Z r Fs s H Q S p => by
  refine ⟨E, Z, r, Fs, S, bindET (R2 := []) (by rw [List.append_nil]; exact p) fun d r1 Z1 Fs1 H1 v F q1 e1 p1 => ?_⟩
  unfold truR at p1
  cases h : truD d with
  | none => rw [h] at p1; exact p1.elim
  | some k => rw [h] at p1; exact ⟨k, truD_v e1.val.own h, p1 Z1 Fs1 H1 Step.refl e1.sr⟩
theorem fBl_post {U : Gd} {E : En} {Z : AP} {Fs : Nat → List Addr} {H : Hp} {s : St} {Q : Bool → Hp → Prop} {x : Res D} (p : postT U W E Z Fs H s R (x.bind fun d r1 => match d with | .bl k => .ok k r1 | _ => .bad) Q) : postE U W E Z Fs H s R B x fun v H' => ∃ k, v = .bl k ∧ Q k H' :=
  bindET (R2 := []) (by rw [List.append_nil]; exact p) fun d r1 Z1 Fs1 H1 v F q1 e1 p1 => by
    cases d with
    | bl k =>
      obtain ⟨rfl, _⟩ := Own.bl_iff.mp e1.val.own
      exact ⟨k, rfl, p1 Z1 Fs1 H1 Step.refl e1.sr⟩
    | _ => exact p1.elim
theorem ST.cmp {op : CmpOp} {rr : L2.R2} {g : D → D → Option D} (ho : OpR X (compareOp op) rr) (hd : OpD ⟨X.K, cm⟩ rr g bNil) (ha : SX X cm W R1 B1 a fa) (hb : SX X cm W R2 B2 b fb) (hm : behindInMarks op b = false) (nb : ∀ j ∈ R2, j ∉ B1) :
    ST X cm W (R1 ++ R2) (.Compare a [op] [b] pos) (fBl (fBin g fa fb)) := .of (pt_cmpR ho ha.run hb.run hm) fun E Z r Fs s H Q S p => tOp_of (Bf := bNil) hd nb S (fBl_post p)
/-- a < b < c -/
def fChain (g g' : D → D → Option D) (fa fb fc : Env → Res D) : Env → Res D := fun r => (fa r).bind fun x r1 => (fb r1).bind fun y r2 => match g x y with
  | some (.bl true) => (fc r2).bind fun z r3 => optR (g' y z) r3
  | some (.bl false) => .ok (.bl false) r2
  | _ => .bad
theorem tChain_of {rr rr' : L2.R2} {g g' : D → D → Option D} (hd : OpD ⟨X.K, cm⟩ rr g bNil) (hd' : OpD ⟨X.K, cm⟩ rr' g' bNil) (hp : ∀ x y z, g x y = some z → z.pure = true) (hp' : ∀ x y z, g' x y = some z → z.pure = true)
    {E : En} {Z : AP} {r : Env} {Fs : Nat → List Addr} {s : St} {H : Hp} {Q : VK} (S : SR ⟨X.K, cm⟩ E Z r Fs s H) (p : postE ⟨X.K, cm⟩ W E Z Fs H s [] [] (fChain g g' fa fb fc r) Q) :
    tChain rr rr' (tX ⟨X.K, cm⟩ W [] B1 fa) (tX ⟨X.K, cm⟩ W [] B2 fb) (tX ⟨X.K, cm⟩ W [] B3 fc) s H Q := by
  refine ⟨E, Z, r, Fs, S, bindE (R1 := []) (R2 := []) p fun x r1 Z1 Fs1 H1 vx F1 q1 e1 p1 => ?_⟩
  refine ⟨E, Z1, r1, Fs1, e1.sr, bindE (R1 := []) (R2 := []) p1 fun y r2 Z2 Fs2 H2 vy F2 q2 e2 p2 => ?_⟩
  have v1 := e1.val.step e1.sr e2.st fun _ m => nomatch m
  cases hg : g x y with
  | none => rw [hg] at p2; exact p2.elim
  | some z =>
    have zp := hp x y z hg
    refine hd E Z2 r2 Fs2 s H2 B1 B2 x y vx vy F1 F2 z _ e2.sr v1 e2.val hg (fun a m1 m2 => ?_) fun Z3 H3 v F t3 S3 hv src => ?_
    · rcases e2.src a m2 with ⟨j, _, q⟩ | q | ⟨j, mj, q⟩
      · exact ⟨j, q⟩
      · obtain ⟨o, e⟩ := e1.val.own.dom a m1
        exact (some_none e q).elim
      · cases mj
    · cases z with
      | bl k =>
        obtain ⟨rfl, rfl⟩ := Own.bl_iff.mp hv.own
        refine ⟨k, rfl, ?_⟩
        rw [hg] at p2
        cases k with
        | false =>
          rw [if_neg Bool.false_ne_true]
          have p2' : postE ⟨X.K, cm⟩ W E Z2 Fs2 H2 s [] [] (.ok (.bl false) r2) Q := p2
          exact p2' Z3 Fs2 H3 _ [] ⟨t3, S3, .ofPure Own.bl rfl, fun _ m => nomatch m⟩
        | true =>
          rw [if_pos rfl]
          have p3 : postE ⟨X.K, cm⟩ W E Z3 Fs2 H3 s [] [] ((fc r2).bind fun z r3 => optR (g' y z) r3) Q := postE.shift (R1 := []) (R2 := []) t3 p2
          refine ⟨E, Z3, r2, Fs2, S3, bindE (R1 := []) (R2 := []) p3 fun w r4 Z4 Fs4 H4 vw F4 q4 e4 p4 => ?_⟩
          have v2 := (e2.val.step e2.sr t3 fun _ m => nomatch m).step S3 e4.st fun _ m => nomatch m
          cases hg' : g' y w with
          | none => rw [hg'] at p4; exact p4.elim
          | some u =>
            rw [hg'] at p4
            have up := hp' y w u hg'
            refine hd' E Z4 r4 Fs4 s H4 B2 B3 y w vy vw F2 F4 u Q e4.sr v2 e4.val hg' (fun a m1 m2 => ?_) fun Z5 H5 v5 F5 t5 S5 hv5 src5 => ?_
            · rcases e4.src a m2 with ⟨j, _, q⟩ | q | ⟨j, mj, q⟩
              · exact ⟨j, q⟩
              · obtain ⟨o, e⟩ := (e2.val.step e2.sr t3 fun _ m => nomatch m).own.dom a m1
                exact (some_none e q).elim
              · cases mj
            · have e0 := hv5.own.pureF up
              subst e0
              exact p4 Z5 Fs4 H5 v5 [] ⟨t5, S5, .ofPure hv5.own up, fun _ m => nomatch m⟩
      | _ => rw [hg] at p2; exact p2.elim
theorem SX.chain {op op' : CmpOp} {rr rr' : L2.R2} {g g' : D → D → Option D} (ho : OpR X (compareOp op) rr) (ho' : OpR X (compareOp op') rr') (hd : OpD ⟨X.K, cm⟩ rr g bNil) (hd' : OpD ⟨X.K, cm⟩ rr' g' bNil) (hp : ∀ x y z, g x y = some z → z.pure = true) (hp' : ∀ x y z, g' x y = some z → z.pure = true)
    (ha : SX X cm W [] B1 a fa) (hb : SX X cm W [] B2 b fb) (hc : SX X cm W [] B3 c fc) (hm : lastMarks [op, op'] [b, c] = false := by with_unfolding_all rfl) :
    SX X cm W [] [] (.Compare a [op, op'] [b, c] pos) (fChain g g' fa fb fc) := .of (pe_chain ho ho' ha.run hb.run hc.run hm) fun E Z r Fs s H Q S p => tChain_of hd hd' hp hp' S p
theorem ST.chain {op op' : CmpOp} {rr rr' : L2.R2} {g g' : D → D → Option D} (ho : OpR X (compareOp op) rr) (ho' : OpR X (compareOp op') rr') (hd : OpD ⟨X.K, cm⟩ rr g bNil) (hd' : OpD ⟨X.K, cm⟩ rr' g' bNil) (hp : ∀ x y z, g x y = some z → z.pure = true) (hp' : ∀ x y z, g' x y = some z → z.pure = true)
    (ha : SX X cm W [] B1 a fa) (hb : SX X cm W [] B2 b fb) (hc : SX X cm W [] B3 c fc) (hm : lastMarks [op, op'] [b, c] = false := by with_unfolding_all rfl) :
    ST X cm W [] (.Compare a [op, op'] [b, c] pos) (fBl (fChain g g' fa fb fc)) := .of (pt_chain ho ho' ha.run hb.run hc.run hm) fun E Z r Fs s H Q S p => tChain_of hd hd' hp hp' S (fBl_post p)
theorem iBin_pure {f : Int → Int → Bool} : ∀ x y z, iBin (fun i j => some (.bl (f i j))) x y = some z → z.pure = true := fun x y z h => by
  obtain ⟨i, j, _, _, e⟩ := iBin_some h
  cases e; rfl

/-! ### and, or, not; x if t else y -/
def fAnd (ta tb : Env → Res Bool) : Env → Res Bool := fun r => (ta r).bind fun k r1 => if k then tb r1 else .ok false r1
def fOr (ta tb : Env → Res Bool) : Env → Res Bool := fun r => (ta r).bind fun k r1 => if k then .ok true r1 else tb r1
def fNot (ta : Env → Res Bool) : Env → Res Bool := fun r => (ta r).bind fun k r1 => .ok (!k) r1
variable {ta tb : Env → Res Bool} {rest : List Expr}
theorem SW.and1 (ha : ST X cm W R a ta) : SW X cm W R (.BoolOp .And [a] pos) ta := .of (pw_and1 ha.run) fun E Z r Fs s H Q S p => ⟨E, Z, r, Fs, S, p⟩
theorem SW.or1 (ha : ST X cm W R a ta) : SW X cm W R (.BoolOp .Or [a] pos) ta := .of (pw_or1 ha.run) fun E Z r Fs s H Q S p => ⟨E, Z, r, Fs, S, p⟩
theorem SW.and (ha : ST X cm W R1 a ta) (hb : SW X cm W R2 (.BoolOp .And (b :: rest) pos) tb) : SW X cm W (R1 ++ R2) (.BoolOp .And (a :: b :: rest) pos) (fAnd ta tb) := .of (pw_and ha.run hb.run) fun E Z r Fs s H Q S p => by
  refine ⟨E, Z, r, Fs, S, bindTT p fun k r1 Z1 Fs1 H1 q1 t1 S1 p1 => ?_⟩
  cases k with
  | true => rw [if_pos rfl]; exact ⟨E, Z1, r1, Fs1, S1, p1⟩
  | false =>
    rw [if_neg Bool.false_ne_true]
    have p2 : postT ⟨X.K, cm⟩ W E Z1 Fs1 H1 s R2 (.ok false r1) Q := p1
    exact p2 Z1 Fs1 H1 (Step.refl.mono (fun _ m => nomatch m) fun _ m => m) S1
theorem SW.or (ha : ST X cm W R1 a ta) (hb : SW X cm W R2 (.BoolOp .Or (b :: rest) pos) tb) : SW X cm W (R1 ++ R2) (.BoolOp .Or (a :: b :: rest) pos) (fOr ta tb) := .of (pw_or ha.run hb.run) fun E Z r Fs s H Q S p => by
  refine ⟨E, Z, r, Fs, S, bindTT p fun k r1 Z1 Fs1 H1 q1 t1 S1 p1 => ?_⟩
  cases k with
  | false => rw [if_neg Bool.false_ne_true]; exact ⟨E, Z1, r1, Fs1, S1, p1⟩
  | true =>
    rw [if_pos rfl]
    have p2 : postT ⟨X.K, cm⟩ W E Z1 Fs1 H1 s R2 (.ok true r1) Q := p1
    exact p2 Z1 Fs1 H1 (Step.refl.mono (fun _ m => nomatch m) fun _ m => m) S1
theorem SW.st (h : SW X cm W R e ta) : ST X cm W R e ta := ⟨h.run.pt⟩
theorem ST.not (ha : ST X cm W R a ta) : ST X cm W R (.UnaryOp .Not a pos) (fNot ta) := .of (pt_not ha.run) fun E Z r Fs s H Q S p => by
  refine ⟨E, Z, r, Fs, S, bindTT (R2 := []) (k := fun k r1 => .ok (!k) r1) (by rw [List.append_nil]; exact p) fun k r1 Z1 Fs1 H1 q1 t1 S1 p1 => ?_⟩
  exact p1 Z1 Fs1 H1 Step.refl S1
def fIf (t : Env → Res Bool) (fa fb : Env → Res D) : Env → Res D := fun r => (t r).bind fun k r1 => if k then fa r1 else fb r1
theorem SX.ifExp (hc : ST X cm W R1 c ta) (ha : SX X cm W R2 B1 a fa) (hb : SX X cm W R3 B2 b fb) : SX X cm W (R1 ++ (R2 ++ R3)) (B1 ++ B2) (.IfExp c a b pos) (fIf ta fa fb) := .of (pe_ifExp hc.run ha.run hb.run) fun E Z r Fs s H Q S p => by
  refine ⟨E, Z, r, Fs, S, bindT p fun k r1 Z1 Fs1 H1 q1 t1 S1 p1 => ?_⟩
  cases k with
  | true => rw [if_pos rfl]; exact ⟨E, Z1, r1, Fs1, S1, postE.mono (fun j m => List.mem_append_left _ m) (fun j m => List.mem_append_left _ m) p1⟩
  | false => rw [if_neg Bool.false_ne_true]; exact ⟨E, Z1, r1, Fs1, S1, postE.mono (fun j m => List.mem_append_right _ m) (fun j m => List.mem_append_right _ m) p1⟩
/-- values: and, or -/
def fAndV (fa fb : Env → Res D) : Env → Res D := fun r => (fa r).bind fun x r1 => match truD x with
  | some true => fb r1
  | some false => .ok x r1
  | none => .bad
def fOrV (fa fb : Env → Res D) : Env → Res D := fun r => (fa r).bind fun x r1 => match truD x with
  | some true => .ok x r1
  | some false => fb r1
  | none => .bad
theorem EvR.lift {U : Gd} {E : En} {Z Z1 : AP} {Fs Fs1 : Nat → List Addr} {H H1 : Hp} {s : St} {r1 : Env} {d : D} {v : V} {F : List Addr} (ev : EvR U E Z Fs H R1 B1 Z1 Fs1 H1 s r1 d v F) : EvR U E Z Fs H (R1 ++ R2) (B1 ++ B2) Z1 Fs1 H1 s r1 d v F :=
  ev.mono (fun j m => List.mem_append_left _ m) fun j m => List.mem_append_left _ m
theorem SX.one {op} (h : SX X cm W R B a fa) : SX X cm W R B (.BoolOp op [a] pos) fa := ⟨pe_one h.run⟩
theorem SX.and (ha : SX X cm W R1 B1 a fa) (hb : SX X cm W R2 B2 (.BoolOp .And (b :: rest) pos) fb) : SX X cm W (R1 ++ R2) (B1 ++ B2) (.BoolOp .And (a :: b :: rest) pos) (fAndV fa fb) := .of (pe_andT ha.run hb.run) fun E Z r Fs s H Q S p => by
  refine ⟨E, Z, r, Fs, S, bindE p fun x r1 Z1 Fs1 H1 vx F1 q1 e1 p1 => ?_⟩
  unfold fAndV at p
  rw [q1, Res.bind_ok] at p
  cases ht : truD x with
  | none => rw [ht] at p; exact p.elim
  | some k =>
    rw [ht] at p p1
    refine ⟨k, truD_v e1.val.own ht, ?_⟩
    cases k with
    | true => rw [if_pos rfl]; exact ⟨E, Z1, r1, Fs1, e1.sr, postE.mono (fun _ m => m) (fun j m => List.mem_append_right _ m) p1⟩
    | false => rw [if_neg Bool.false_ne_true]; exact p Z1 Fs1 H1 vx F1 e1.lift
theorem SX.or (ha : SX X cm W R1 B1 a fa) (hb : SX X cm W R2 B2 (.BoolOp .Or (b :: rest) pos) fb) : SX X cm W (R1 ++ R2) (B1 ++ B2) (.BoolOp .Or (a :: b :: rest) pos) (fOrV fa fb) := .of (pe_orT ha.run hb.run) fun E Z r Fs s H Q S p => by
  refine ⟨E, Z, r, Fs, S, bindE p fun x r1 Z1 Fs1 H1 vx F1 q1 e1 p1 => ?_⟩
  unfold fOrV at p
  rw [q1, Res.bind_ok] at p
  cases ht : truD x with
  | none => rw [ht] at p; exact p.elim
  | some k =>
    rw [ht] at p p1
    refine ⟨k, truD_v e1.val.own ht, ?_⟩
    cases k with
    | false => rw [if_neg Bool.false_ne_true]; exact ⟨E, Z1, r1, Fs1, e1.sr, postE.mono (fun _ m => m) (fun j m => List.mem_append_right _ m) p1⟩
    | true => rw [if_pos rfl]; exact p Z1 Fs1 H1 vx F1 e1.lift
def fNotV (fa : Env → Res D) : Env → Res D := fun r => (fa r).bind fun x r1 => match truD x with
  | some k => .ok (.bl (!k)) r1
  | none => .bad
theorem EvR.afterP {U : Gd} {E : En} {Z Z1 : AP} {Fs Fs1 : Nat → List Addr} {H H1 : Hp} {s : St} {r1 : Env} {d d' : D} {v v' : V} {F : List Addr} (ev : EvR U E Z Fs H R B1 Z1 Fs1 H1 s r1 d v F) (o : Own U Z1 H1 d' v' []) (hp : d'.pure = true) : EvR U E Z Fs H R B Z1 Fs1 H1 s r1 d' v' [] :=
  ⟨ev.st, ev.sr, .ofPure o hp, fun _ m => nomatch m⟩
theorem SX.not (ha : SX X cm W R B a fa) : SX X cm W R [] (.UnaryOp .Not a pos) (fNotV fa) := .of (pe_notT ha.run) fun E Z r Fs s H Q S p => by
  refine ⟨E, Z, r, Fs, S, bindE (R2 := []) (by rw [List.append_nil]; exact p) fun x r1 Z1 Fs1 H1 vx F1 q1 e1 p1 => ?_⟩
  unfold fNotV at p
  rw [q1, Res.bind_ok] at p
  cases ht : truD x with
  | none => rw [ht] at p; exact p.elim
  | some k =>
    rw [ht] at p
    exact ⟨k, truD_v e1.val.own ht, p Z1 Fs1 H1 _ [] (e1.afterP Own.bl rfl)⟩
def fNeg (fa : Env → Res D) : Env → Res D := fun r => (fa r).bind fun x r1 => match x with
  | .int i => .ok (.int (-i)) r1
  | _ => .bad
theorem SX.neg (ha : SX X cm W R B a fa) : SX X cm W R [] (.UnaryOp .USub a pos) (fNeg fa) := .of (pe_un un_neg ha.run) fun E Z r Fs s H Q S p => by
  refine ⟨E, Z, r, Fs, S, bindE (R2 := []) (by rw [List.append_nil]; exact p) fun x r1 Z1 Fs1 H1 vx F1 q1 e1 p1 => ?_⟩
  unfold fNeg at p
  rw [q1, Res.bind_ok] at p
  cases x with
  | int i =>
    obtain ⟨rfl, rfl⟩ := Own.int_iff.mp e1.val.own
    exact ⟨i, rfl, p Z1 Fs1 H1 _ [] (e1.afterP Own.int rfl)⟩
  | _ => exact p.elim
end
end DL

set_option Elab.async false
set_option linter.all false
set_option maxRecDepth 100000
namespace DL
open PySem PySem.Spec L2

/-! ### calls of what is built in -/
def OwnE (U : Gd) (Z : AP) (H : Hp) : List D → List V → Prop
  | [], vs => vs = []
  | d :: ds, vs => ∃ v ws F, vs = v :: ws ∧ Own U Z H d v F ∧ OwnE U Z H ds ws
theorem ValL.ownE {U : Gd} {E : En} {Z : AP} {Fs : Nat → List Addr} {H : Hp} {B : List Nat} : ∀ {ds : List D} {vs : List V} {Fl : List (List Addr)}, ValL U E Z H Fs B ds vs Fl → OwnE U Z H ds vs
  | [], _, _, h => by unfold ValL at h; exact h.1
  | d :: ds, vs, Fl, h => by
    unfold ValL at h
    obtain ⟨v, ws, F, Gl, rfl, rfl, hv, ht, hc⟩ := h
    exact ⟨v, ws, F, rfl, hv.own, ht.ownE⟩
def CallD (U : Gd) (rr : List V → Hp → VK → Prop) (g : List D → Option D) : Prop :=
  ∀ (E : En) (Z : AP) (r : Env) (Fs : Nat → List Addr) (s : St) (H : Hp) (ds : List D) (vs : List V) (z : D) (Q : VK), SR U E Z r Fs s H → OwnE U Z H ds vs → g ds = some z →
    (∀ Z' H' v F, Step Z Fs H [] [] Z' Fs H' → SR U E Z' r Fs s H' → Val U E Z' H' Fs [] z v F → (∀ a ∈ F, H a = none) → Q v H') → rr vs H Q
theorem CallD.ofPure {U : Gd} {rr : List V → Hp → VK → Prop} {g : List D → Option D} (h : ∀ (Z : AP) (H : Hp) (ds : List D) (vs : List V) (z : D), OwnE U Z H ds vs → g ds = some z → ∃ v, z.pure = true ∧ Own U Z H z v [] ∧ ∀ Q : VK, Q v H → rr vs H Q) : CallD U rr g := by
  intro E Z r Fs s H ds vs z Q S o e k
  obtain ⟨v, p, w, q⟩ := h Z H ds vs z o e
  exact q Q (k Z H v [] Step.refl S (.ofPure w p) fun _ m => nomatch m)
theorem OwnE.one {U : Gd} {Z : AP} {H : Hp} {d : D} {vs : List V} (h : OwnE U Z H [d] vs) : ∃ v F, vs = [v] ∧ Own U Z H d v F := by
  unfold OwnE at h
  obtain ⟨v, ws, F, rfl, o, t⟩ := h
  unfold OwnE at t
  exact ⟨v, F, by rw [t], o⟩
theorem OwnE.two {U : Gd} {Z : AP} {H : Hp} {d e : D} {vs : List V} (h : OwnE U Z H [d, e] vs) : ∃ v w F G, vs = [v, w] ∧ Own U Z H d v F ∧ Own U Z H e w G := by
  unfold OwnE at h
  obtain ⟨v, ws, F, rfl, o, t⟩ := h
  obtain ⟨w, G, rfl, o2⟩ := t.one
  exact ⟨v, w, F, G, rfl, o, o2⟩
def fCall (g : List D → Option D) (fs : Env → Res (List D)) : Env → Res D := fun r => (fs r).bind fun ds r1 => optR (g ds) r1
section
variable {X : Cx} {cm : Str → Option Addr} {W : WX} {R R1 R2 R3 B B1 B2 B3 : List Nat} {a b c e : Expr} {es : List Expr} {fa fb fc f : Env → Res D} {fs : Env → Res (List D)} {pos : Pos} {n : Nat} {x : Str} {p apos : Pos}
theorem call_of {rr : List V → Hp → VK → Prop} {g : List D → Option D} (hd : CallD ⟨X.K, cm⟩ rr g) {E : En} {Z : AP} {r : Env} {Fs : Nat → List Addr} {s : St} {H : Hp} {Q : VK} (S : SR ⟨X.K, cm⟩ E Z r Fs s H) (p : postE ⟨X.K, cm⟩ W E Z Fs H s R [] (fCall g fs r) Q) :
    tCB rr (tAs ⟨X.K, cm⟩ W R B fs) s H Q := by
  refine ⟨E, Z, r, Fs, S, bindL (R2 := []) (B := []) (by rw [List.append_nil]; exact p) fun ds r1 Z1 Fs1 H1 vs Fl q1 e1 p1 => ?_⟩
  unfold fCall at p
  rw [q1, Res.bind_ok] at p
  cases hg : g ds with
  | none => rw [hg] at p; exact p.elim
  | some z =>
    rw [hg] at p
    refine hd E Z1 r1 Fs1 s H1 ds vs z Q e1.sr e1.val.ownE hg fun Z' H' v F t S' hv src => ?_
    refine p Z' Fs1 H' v F ⟨?_, S', hv, fun a m => .inr (.inl (e1.st.dm a (src a m)))⟩
    have := e1.st.trans t
    rw [List.append_nil] at this
    exact this
theorem SX.callB {id : String} {rr : List V → Hp → VK → Prop} {g : List D → Option D} (hc : CallR X (.builtin id) rr) (hd : CallD ⟨X.K, cm⟩ rr g) (hm : X.mg x = none) (ha : SA X cm W R B (e :: es) fs) (hv : bootBuiltins x = some (.builtin id)) (hg : Gl X x := by rfl) (hn : x ≠ "__name__" := by decide) (hdb : (x == ("__debug__" : Str)) = false := by decide)
    (he : starEach (e :: es) X.env = (false, eval e X.env) :: starEach es X.env := by rfl) (hpl : (backTo pos (starEach es X.env)).any (·.1) = false := by rfl) : SX X cm W R [] (.Call (.Name x p) (e :: es) [] pos) (fCall g fs) :=
  .of (pe_callB hc hg hm hv ha.run hn hdb he hpl) fun E Z r Fs s H Q S p => call_of hd S p
theorem SX.callTy {T : String} {rr : List V → Hp → VK → Prop} {g : List D → Option D} (hc : CallR X (.type T) rr) (hd : CallD ⟨X.K, cm⟩ rr g) (hm : X.mg x = none) (ha : SA X cm W R B (e :: es) fs) (hv : bootBuiltins x = some (.type T)) (hg : Gl X x := by rfl) (hn : x ≠ "__name__" := by decide) (hdb : (x == ("__debug__" : Str)) = false := by decide)
    (he : starEach (e :: es) X.env = (false, eval e X.env) :: starEach es X.env := by rfl) (hpl : (backTo pos (starEach es X.env)).any (·.1) = false := by rfl) : SX X cm W R [] (.Call (.Name x p) (e :: es) [] pos) (fCall g fs) :=
  .of (pe_callTy hc hg hm hv ha.run hn hdb he hpl) fun E Z r Fs s H Q S p => call_of hd S p
theorem CallR.or {f : Value} {r r' : List V → Hp → VK → Prop} (h : CallR X f r) (h' : CallR X f r') : CallR X f fun xs H Q => r xs H Q ∨ r' xs H Q :=
  fun pins s σ H xs us Q I rx q => q.elim (h pins s σ H xs us Q I rx) (h' pins s σ H xs us Q I rx)
end

/-! len -/
def dLen : List D → Option D
  | [.str y] => if szOk y.length then some (.int y.length) else none
  | [.tup xs] => some (.int xs.length)
  | [.lst xs] => some (.int xs.length)
  | [.frz xs] => some (.int xs.length)
  | _ => none
def rLen (K : PySem.W.Frag) : List V → Hp → VK → Prop := fun xs H Q => (∃ x n, xs = [x] ∧ LenV K x H n ∧ Q (.int n) H)
theorem calld_len {U : Gd} : CallD U (rLen U.K) dLen := .ofPure fun Z H ds vs z hO e => by
  match ds, e with
  | [.str y], e =>
    obtain ⟨v, F, rfl, o⟩ := hO.one
    obtain ⟨rfl, _⟩ := Own.str_iff.mp o
    have e' : (if szOk y.length then some (D.int y.length) else none) = some z := e
    by_cases hz : szOk y.length = true
    · rw [if_pos hz] at e'; cases e'
      exact ⟨_, rfl, Own.int, fun Q q => ⟨_, _, rfl, ⟨szOk_le hz, rfl⟩, q⟩⟩
    · rw [if_neg hz] at e'; cases e'
  | [.tup xs], e =>
    obtain ⟨v, F, rfl, o⟩ := hO.one
    obtain ⟨a, ws, rfl, t, l⟩ := Own.tup_iff.mp o
    cases e
    exact ⟨_, rfl, Own.int, fun Q q => ⟨_, _, rfl, .inr ⟨ws, t.sq, l.len.symm⟩, q⟩⟩
  | [.lst xs], e =>
    obtain ⟨v, F, rfl, o⟩ := hO.one
    obtain ⟨a, ws, G, rfl, _, t, _, l⟩ := Own.lst_iff.mp o
    cases e
    exact ⟨_, rfl, Own.int, fun Q q => ⟨_, _, rfl, .inl ⟨ws, .of t, l.len.symm⟩, q⟩⟩
  | [.frz xs], e =>
    obtain ⟨v, F, rfl, o⟩ := hO.one
    obtain ⟨_, a, ws, rfl, t, l⟩ := Own.frz_iff.mp o
    cases e
    exact ⟨_, rfl, Own.int, fun Q q => ⟨_, _, rfl, .inl ⟨ws, t.sq, l.len.symm⟩, q⟩⟩

/-! int, str, abs, min, max of two -/
def dInt : List D → Option D
  | [.int i] => some (.int i)
  | [.bl k] => some (.int (if k then 1 else 0))
  | [.str a] => match PySem.intText? a with
    | some n => if decide (a.length ≤ 640) then some (.int n) else none
    | none => none
  | _ => none
def rInt1 : List V → Hp → VK → Prop := fun xs H Q => (∃ i, xs = [.int i] ∧ Q (.int i) H) ∨ ∃ k, xs = [.bl k] ∧ Q (.int (if k then 1 else 0)) H
def rIntS : List V → Hp → VK → Prop := fun xs H Q => ∃ a n, xs = [.str a] ∧ PySem.intText? a = some n ∧ a.length ≤ 640 ∧ Q (.int n) H
def rInt : List V → Hp → VK → Prop := fun xs H Q => rInt1 xs H Q ∨ rIntS xs H Q
theorem callr_int {X : Cx} : CallR X (.type "int") rInt := CallR.or call_int1 call_int_str
theorem calld_int {U : Gd} : CallD U rInt dInt := .ofPure fun Z H ds vs z hO e => by
  match ds, e with
  | [.int i], e =>
    obtain ⟨v, F, rfl, o⟩ := hO.one
    obtain ⟨rfl, _⟩ := Own.int_iff.mp o
    cases e
    exact ⟨_, rfl, Own.int, fun Q q => .inl (.inl ⟨_, rfl, q⟩)⟩
  | [.bl k], e =>
    obtain ⟨v, F, rfl, o⟩ := hO.one
    obtain ⟨rfl, _⟩ := Own.bl_iff.mp o
    cases e
    exact ⟨_, rfl, Own.int, fun Q q => .inl (.inr ⟨_, rfl, q⟩)⟩
  | [.str a], e =>
    obtain ⟨v, F, rfl, o⟩ := hO.one
    obtain ⟨rfl, _⟩ := Own.str_iff.mp o
    dsimp only [dInt] at e
    cases hn : PySem.intText? a with
    | none => rw [hn] at e; cases e
    | some n =>
      rw [hn] at e
      have e' : (if decide (a.length ≤ 640) = true then some (D.int n) else none) = some z := e
      by_cases c : decide (a.length ≤ 640) = true
      · rw [if_pos c] at e'; cases e'
        exact ⟨_, rfl, Own.int, fun Q q => .inr ⟨_, _, rfl, hn, of_decide_eq_true c, q⟩⟩
      · rw [if_neg c] at e'; cases e'
def strOkI (i : Int) : Bool := decide (i.natAbs < 10 ^ 400)
theorem strOkI_b {i : Int} (h : strOkI i = true) : i.natAbs.log2 < 1920 := by
  have h' : i.natAbs < 10 ^ 400 := of_decide_eq_true h
  exact PySem.Flt.log2_lt_of (by decide) (Nat.lt_of_lt_of_le h' (by decide +kernel))
def dStr : List D → Option D
  | [.int i] => if strOkI i then some (.str (toString i)) else none
  | _ => none
def rStrI : List V → Hp → VK → Prop := fun xs H Q => ∃ i : Int, xs = [.int i] ∧ i.natAbs.log2 < 1920 ∧ Q (.str (toString i)) H
theorem callr_str {X : Cx} : CallR X (.type "str") rStrI := call_str_int
theorem calld_str {U : Gd} : CallD U rStrI dStr := .ofPure fun Z H ds vs z hO e => by
  match ds, e with
  | [.int i], e =>
    obtain ⟨v, F, rfl, o⟩ := hO.one
    obtain ⟨rfl, _⟩ := Own.int_iff.mp o
    have e' : (if strOkI i = true then some (D.str (toString i)) else none) = some z := e
    by_cases c : strOkI i = true
    · rw [if_pos c] at e'; cases e'
      exact ⟨_, rfl, Own.str, fun Q q => ⟨_, rfl, strOkI_b c, q⟩⟩
    · rw [if_neg c] at e'; cases e'
def dAbs : List D → Option D
  | [.int i] => some (.int (if i < 0 then -i else i))
  | _ => none

/-! all, any, sum, tuple, list -/
def blsOf : List D → Option (List Bool)
  | [] => some []
  | .bl i :: r => (blsOf r).map (i :: ·)
  | _ :: _ => none
theorem blsOf_own {U : Gd} {Z : AP} {H : Hp} : ∀ {ds : List D} {vs : List V} {F : List Addr} {ns : List Bool}, OwnL U Z H ds vs F → blsOf ds = some ns → vs = ns.map V.bl
  | [], vs, F, ns, h, e => by
    unfold OwnL at h
    cases e
    exact h.1
  | d :: ds, vs, F, ns, h, e => by
    obtain ⟨v, ws, F1, F2, rfl, rfl, o1, o2, _⟩ := h.cases
    cases d with
    | bl i =>
      have e' : (blsOf ds).map (i :: ·) = some ns := e
      cases q : blsOf ds with
      | none => rw [q] at e'; cases e'
      | some ms =>
        rw [q] at e'; cases e'
        obtain ⟨rfl, rfl⟩ := Own.bl_iff.mp o1
        rw [blsOf_own o2 q]
        rfl
    | _ => cases e
def dAll : List D → Option D
  | [.lst xs] => (blsOf xs).map fun bs => .bl (bs.all id)
  | _ => none
def dAny : List D → Option D
  | [.lst xs] => (blsOf xs).map fun bs => .bl (bs.any id)
  | _ => none
def dSum : List D → Option D
  | [.lst xs] => (intsOf xs).map fun ns => .int ns.sum
  | _ => none
theorem calld_all {U : Gd} : CallD U (rAll U.K) dAll := .ofPure fun Z H ds vs z hO e => by
  match ds, e with
  | [.lst xs], e =>
    obtain ⟨v, F, rfl, o⟩ := hO.one
    obtain ⟨a, ws, G, rfl, _, t, _, l⟩ := Own.lst_iff.mp o
    dsimp only [dAll] at e
    cases hb : blsOf xs with
    | none => rw [hb] at e; cases e
    | some bs =>
      rw [hb] at e; cases e
      have ew := blsOf_own l hb
      subst ew
      exact ⟨_, rfl, Own.bl, fun Q q => ⟨a, bs, rfl, .of t, q⟩⟩
theorem calld_any {U : Gd} : CallD U (rAny U.K) dAny := .ofPure fun Z H ds vs z hO e => by
  match ds, e with
  | [.lst xs], e =>
    obtain ⟨v, F, rfl, o⟩ := hO.one
    obtain ⟨a, ws, G, rfl, _, t, _, l⟩ := Own.lst_iff.mp o
    dsimp only [dAny] at e
    cases hb : blsOf xs with
    | none => rw [hb] at e; cases e
    | some bs =>
      rw [hb] at e; cases e
      have ew := blsOf_own l hb
      subst ew
      exact ⟨_, rfl, Own.bl, fun Q q => ⟨a, bs, rfl, .of t, q⟩⟩
theorem calld_sum {U : Gd} : CallD U (rSum U.K) dSum := .ofPure fun Z H ds vs z hO e => by
  match ds, e with
  | [.lst xs], e =>
    obtain ⟨v, F, rfl, o⟩ := hO.one
    obtain ⟨a, ws, G, rfl, _, t, _, l⟩ := Own.lst_iff.mp o
    dsimp only [dSum] at e
    cases hb : intsOf xs with
    | none => rw [hb] at e; cases e
    | some bs =>
      rw [hb] at e; cases e
      have ew := (intsOf_own l hb).1
      subst ew
      exact ⟨_, rfl, Own.int, fun Q q => ⟨a, bs, rfl, .of t, q⟩⟩
def dTuple : List D → Option D
  | [.lst xs] => if pureL xs then some (.tup xs) else none
  | [.tup xs] => if pureL xs then some (.tup xs) else none
  | _ => none
def rTupleOf (K : PySem.W.Frag) : List V → Hp → VK → Prop := fun xs H Q => ∃ p ys, xs = [.ref p] ∧ ((SqL K H p ys ∧ ∀ l, H l = none → Q (.ref l) (upd H l (.tup ys))) ∨ (SqT K H p ys ∧ Q (.ref p) H))
theorem callr_tuple {X : Cx} : CallR X (.type "tuple") (rTupleOf X.K) := call_tuple_of
theorem calld_tuple {U : Gd} : CallD U (rTupleOf U.K) dTuple := by
  intro E Z r Fs s H ds vs z Q S hO e k
  match ds, e with
  | [.lst xs], e =>
    obtain ⟨v, F, rfl, o⟩ := hO.one
    obtain ⟨a, ws, G, rfl, _, t, _, l⟩ := Own.lst_iff.mp o
    have e' : (if pureL xs = true then some (D.tup xs) else none) = some z := e
    by_cases c : pureL xs = true
    · rw [if_pos c] at e'; cases e'
      refine ⟨a, ws, rfl, .inl ⟨.of t, fun p hp => ?_⟩⟩
      have e0 := l.pureF c
      subst e0
      have ev := EvR.tup0 (E := E) (B := []) S hp l c
      exact k _ _ _ _ ev.st ev.sr ev.val fun _ m => nomatch m
    · rw [if_neg c] at e'; cases e'
  | [.tup xs], e =>
    obtain ⟨v, F, rfl, o⟩ := hO.one
    have e' : (if pureL xs = true then some (D.tup xs) else none) = some z := e
    by_cases c : pureL xs = true
    · rw [if_pos c] at e'; cases e'
      obtain ⟨a, ws, rfl, t, l⟩ := Own.tup_iff.mp o
      have e0 := o.pureF c
      subst e0
      exact ⟨a, ws, rfl, .inr ⟨t.sq, k Z H _ [] Step.refl S (.ofPure o c) fun _ m => nomatch m⟩⟩
    · rw [if_neg c] at e'; cases e'
def dList : List D → Option D
  | [.lst xs] => if pureL xs then some (.lst xs) else none
  | [.tup xs] => if pureL xs then some (.lst xs) else none
  | _ => none
def rListOf (K : PySem.W.Frag) : List V → Hp → VK → Prop := fun xs H Q => ∃ p ys, xs = [.ref p] ∧ (SqL K H p ys ∨ SqT K H p ys) ∧ ∀ l, H l = none → Q (.ref l) (upd H l (.lst ys))
theorem callr_list {X : Cx} : CallR X (.type "list") (rListOf X.K) := call_list_of
theorem calld_list {U : Gd} : CallD U (rListOf U.K) dList := by
  intro E Z r Fs s H ds vs z Q S hO e k
  have go : ∀ {xs : List D} {ws : List V} {F : List Addr}, OwnL U Z H xs ws F → pureL xs = true → z = .lst xs → ∀ p, H p = none → Q (.ref p) (upd H p (.lst ws)) := fun {xs ws F} l c ez p hp => by
    subst ez
    have e0 := l.pureF c
    subst e0
    have ev := EvR.lst0 (E := E) (B := []) S hp l c
    exact k _ _ _ _ ev.st ev.sr ev.val fun a m => by rw [List.mem_singleton.mp m]; exact hp
  match ds, e with
  | [.lst xs], e =>
    obtain ⟨v, F, rfl, o⟩ := hO.one
    obtain ⟨a, ws, G, rfl, _, t, _, l⟩ := Own.lst_iff.mp o
    have e' : (if pureL xs = true then some (D.lst xs) else none) = some z := e
    by_cases c : pureL xs = true
    · rw [if_pos c] at e'; cases e'
      exact ⟨a, ws, rfl, .inl (.of t), go l c rfl⟩
    · rw [if_neg c] at e'; cases e'
  | [.tup xs], e =>
    obtain ⟨v, F, rfl, o⟩ := hO.one
    obtain ⟨a, ws, rfl, t, l⟩ := Own.tup_iff.mp o
    have e' : (if pureL xs = true then some (D.lst xs) else none) = some z := e
    by_cases c : pureL xs = true
    · rw [if_pos c] at e'; cases e'
      exact ⟨a, ws, rfl, .inr t.sq, go l c rfl⟩
    · rw [if_neg c] at e'; cases e'
/-! sorted: fewer than 64 ints -/
def insI (x : Int) : List Int → List Int
  | [] => [x]
  | y :: r => if x ≤ y then x :: y :: r else y :: insI x r
def sortI : List Int → List Int
  | [] => []
  | x :: r => insI x (sortI r)
theorem insI_perm (x : Int) : ∀ l, (insI x l).Perm (x :: l)
  | [] => .refl _
  | y :: r => by
    unfold insI
    by_cases h : x ≤ y
    · rw [if_pos h]
    · rw [if_neg h]
      exact ((insI_perm x r).cons y).trans (.swap x y r)
theorem sortI_perm : ∀ l, (sortI l).Perm l
  | [] => .refl _
  | x :: r => by
    unfold sortI
    exact (insI_perm x _).trans ((sortI_perm r).cons x)
theorem insI_sorted (x : Int) : ∀ l, l.Pairwise (· ≤ ·) → (insI x l).Pairwise (· ≤ ·)
  | [], _ => by unfold insI; exact List.pairwise_singleton _ _
  | y :: r, h => by
    unfold insI
    have h' := List.pairwise_cons.mp h
    by_cases c : x ≤ y
    · rw [if_pos c]
      refine List.pairwise_cons.mpr ⟨fun z m => ?_, h⟩
      rcases List.mem_cons.mp m with rfl | m
      · exact c
      · exact Int.le_trans c (h'.1 z m)
    · rw [if_neg c]
      refine List.pairwise_cons.mpr ⟨fun z m => ?_, insI_sorted x r h'.2⟩
      rcases List.mem_cons.mp ((insI_perm x r).mem_iff.mp m) with rfl | m
      · omega
      · exact h'.1 z m
theorem sortI_sorted : ∀ l, (sortI l).Pairwise (· ≤ ·)
  | [] => .nil
  | x :: r => by
    unfold sortI
    exact insI_sorted x _ (sortI_sorted r)
theorem sorted_same {l m : List Int} (p : l.Perm m) (h1 : l.Pairwise (· ≤ ·)) (h2 : m.Pairwise (· ≤ ·)) : l = m :=
  p.eq_of_pairwise (fun a b _ _ h h' => Int.le_antisymm h h') h1 h2
def dSorted : List D → Option D
  | [.lst xs] => match intsOf xs with
    | some ns => if decide (ns.length < 64) then some (.lst ((sortI ns).map .int)) else none
    | none => none
  | _ => none
theorem ints_own {U : Gd} {Z : AP} {H : Hp} : ∀ ns : List Int, OwnL U Z H (ns.map D.int) (ns.map V.int) [] ∧ pureL (ns.map D.int) = true
  | [] => ⟨OwnL.nil, rfl⟩
  | n :: ns => by
    obtain ⟨o, p⟩ := ints_own (U := U) (Z := Z) (H := H) ns
    exact ⟨OwnL.cons Own.int o (fun _ m => nomatch m), by show (true && _) = true; rw [Bool.true_and]; exact p⟩
theorem calld_sorted {U : Gd} : CallD U (rSorted U.K) dSorted := by
  intro E Z r Fs s H ds vs z Q S hO e k
  match ds, e with
  | [.lst xs], e =>
    obtain ⟨v, F, rfl, o⟩ := hO.one
    obtain ⟨a, ws, G, rfl, _, t, _, l⟩ := Own.lst_iff.mp o
    dsimp only [dSorted] at e
    cases hb : intsOf xs with
    | none => rw [hb] at e; cases e
    | some ns =>
      rw [hb] at e
      have e' : (if decide (ns.length < 64) = true then some (D.lst ((sortI ns).map .int)) else none) = some z := e
      by_cases c : decide (ns.length < 64) = true
      · rw [if_pos c] at e'; cases e'
        have ew := (intsOf_own l hb).1
        subst ew
        refine ⟨a, ns, rfl, .of t, of_decide_eq_true c, fun ns' p h1 h2 hp => ?_⟩
        have eq : ns' = sortI ns := sorted_same (h1.trans (sortI_perm ns).symm) h2 (sortI_sorted ns)
        subst eq
        obtain ⟨o1, p1⟩ := ints_own (U := U) (Z := Z) (H := H) (sortI ns)
        have ev := EvR.lst0 (E := E) (B := []) S hp o1 p1
        exact k _ _ _ _ ev.st ev.sr ev.val fun a m => by rw [List.mem_singleton.mp m]; exact hp
      · rw [if_neg c] at e'; cases e'

/-! ### isinstance -/
def tyName : D → Option String
  | .non => some "NoneType"
  | .bl _ => some "bool"
  | .int _ => some "int"
  | .str _ => some "str"
  | .tup _ => some "tuple"
  | .lst _ => some "list"
  | .frz _ => some "list"
  | .dK _ _ => some "dict"
  | .dT _ _ => some "dict"
  | .ins _ _ _ => none
  | .obj _ _ _ => none
def tyTab (T n : String) : Bool := n == T || (n == "bool" && T == "int")
def isTy (T : String) (d : D) : Option Bool := (tyName d).map (tyTab T)
@[simp] theorem isTy_non (T : String) : isTy T .non = some (tyTab T "NoneType") := rfl
@[simp] theorem isTy_bl (T : String) (b : Bool) : isTy T (.bl b) = some (tyTab T "bool") := rfl
@[simp] theorem isTy_int (T : String) (b : Int) : isTy T (.int b) = some (tyTab T "int") := rfl
@[simp] theorem isTy_str (T : String) (b : Str) : isTy T (.str b) = some (tyTab T "str") := rfl
@[simp] theorem isTy_tup (T : String) (b : List D) : isTy T (.tup b) = some (tyTab T "tuple") := rfl
@[simp] theorem isTy_lst (T : String) (b : List D) : isTy T (.lst b) = some (tyTab T "list") := rfl
theorem kit_tab : ∀ T ∈ ["int", "bool", "str", "tuple", "list", "dict"], ∀ n ∈ ["NoneType", "bool", "int", "str", "tuple", "list", "dict"], kitB n T = some (tyTab T n) := by decide +kernel
theorem tyName_mem {d : D} {n : String} (h : tyName d = some n) : n ∈ ["NoneType", "bool", "int", "str", "tuple", "list", "dict"] := by
  cases d <;> cases h <;> decide
theorem SqT.none_k {K : PySem.W.Frag} {a : Addr} {vs : List V} (h : SqT K (fun _ => none) a vs) : ∃ o, K.lookup a = some o ∧ o.cls = .type "tuple" := by
  rcases h with (h | ⟨_, h⟩) | ⟨o, its, n, h, hc, _⟩
  · cases h
  · cases h
  · exact ⟨o, h, hc⟩
theorem SqL.none_k {K : PySem.W.Frag} {a : Addr} {vs : List V} (h : SqL K (fun _ => none) a vs) : ∃ o, K.lookup a = some o ∧ o.cls = .type "list" := by
  rcases h with (h | ⟨_, h⟩) | ⟨o, its, n, h, hc, _⟩
  · cases h
  · cases h
  · exact ⟨o, h, hc⟩
theorem Own.tyX {U : Gd} {Z : AP} {H : Hp} {d : D} {v : V} {F : List Addr} {n : String} (o : Own U Z H d v F) (h : tyName d = some n) : TyX U.K H v (.type n) := by
  cases d with
  | non => cases h; obtain ⟨rfl, _⟩ := Own.non_iff.mp o; exact .base .non
  | bl b => cases h; obtain ⟨rfl, _⟩ := Own.bl_iff.mp o; exact .base (.bl b)
  | int b => cases h; obtain ⟨rfl, _⟩ := Own.int_iff.mp o; exact .base (.int b)
  | str b => cases h; obtain ⟨rfl, _⟩ := Own.str_iff.mp o; exact .base (.str b)
  | tup xs =>
    cases h
    obtain ⟨a, vs, rfl, t, l⟩ := Own.tup_iff.mp o
    rcases t with ⟨_, t⟩ | t
    · exact .base (.tup t)
    · obtain ⟨o, e, c⟩ := SqT.none_k t
      exact .kTuple e c
  | lst xs =>
    cases h
    obtain ⟨a, vs, G, rfl, _, t, _, l⟩ := Own.lst_iff.mp o
    exact .base (.lst t)
  | frz xs =>
    cases h
    obtain ⟨_, a, vs, rfl, t, l⟩ := Own.frz_iff.mp o
    rcases t with ⟨_, t | ⟨ob, t⟩⟩ | t
    · exact .base (.lst t)
    · exact .base (.frz t)
    · obtain ⟨o, e, c⟩ := SqL.none_k t
      exact .kList e c
  | dK ks ds =>
    cases h
    unfold Own at o
    obtain ⟨a, vs, G, rfl, _, t, _⟩ := o
    exact .base (.dK t)
  | dT ks ds =>
    cases h
    unfold Own at o
    obtain ⟨a, vs, G, rfl, _, t, _⟩ := o
    exact .base (.dT t)
  | _ => cases h
def isR (T : String) (d : D) (r : Env) : Res D := match isTy T d with
  | some k => .ok (.bl k) r
  | none => .bad
def fIsi (T : String) (f : Env → Res D) : Env → Res D := fun r => (f r).bind (isR T)
def isR2 (T T' : String) (d : D) (r : Env) : Res D := match isTy T d, isTy T' d with
  | some k, some k' => .ok (.bl (k || k')) r
  | _, _ => .bad
def fIsi2 (T T' : String) (f : Env → Res D) : Env → Res D := fun r => (f r).bind (isR2 T T')
section
variable {X : Cx} {cm : Str → Option Addr} {W : WX} {R B : List Nat} {e : Expr} {f : Env → Res D} {pos p p1 p2 p3 : Pos} {x : Str}
theorem SX.isi (T : String) (hT : T ∈ ["int", "bool", "str", "tuple", "list", "dict"]) (hm : X.mg "isinstance" = none) (hx : X.mg x = none) (hv : bootBuiltins x = some (.type T)) (he : SX X cm W R B e f) (hg : Gl X "isinstance" := by rfl) (hgx : Gl X x := by rfl) (hn : x ≠ "__name__" := by decide) (hdx : (x == ("__debug__" : Str)) = false := by decide)
    (hst : starEach [e, .Name x p1] X.env = (false, eval e X.env) :: starEach [.Name x p1] X.env := by rfl) (hst2 : starEach [Expr.Name x p1] X.env = (false, eval (.Name x p1) X.env) :: starEach [] X.env := by rfl) (hpl : (backTo pos (starEach [Expr.Name x p1] X.env)).any (·.1) = false := by rfl) :
    SX X cm W R [] (.Call (.Name "isinstance" p) [e, .Name x p1] [] pos) (fIsi T f) :=
  .of (pe_callB call_isi hg hm (by decide +kernel) (pa_cons he.run (pa_cons (pe_bltn (v := .ty T) hgx hx hv rfl hn hdx) pa_nil hst2) hst) (by decide) (by decide) hst hpl) fun E Z r Fs s H Q S p => by
    refine ⟨E, Z, r, Fs, S, bindE (R2 := []) (by rw [List.append_nil]; exact p) fun d r1 Z1 Fs1 H1 v F q1 e1 p1 => ?_⟩
    unfold fIsi at p
    rw [q1, Res.bind_ok] at p
    unfold isR isTy at p
    cases ht : tyName d with
    | none => rw [ht] at p; exact p.elim
    | some n =>
      rw [ht] at p
      exact ⟨v, .ty T, .type n, .type T, tyTab T n, rfl, .ty T, e1.val.own.tyX ht, kit_ty (kit_tab T hT n (tyName_mem ht)), p Z1 Fs1 H1 _ [] (e1.afterP Own.bl rfl)⟩
theorem SX.isi2 {y : Str} {k : Nat} {p4 : Pos} (T T' : String) (hT : T ∈ ["int", "bool", "str", "tuple", "list", "dict"]) (hT' : T' ∈ ["int", "bool", "str", "tuple", "list", "dict"]) (hm : X.mg "isinstance" = none) (hx : X.mg x = none) (hv : bootBuiltins x = some (.type T)) (hy : X.mg y = none) (hvy : bootBuiltins y = some (.type T')) (he : SX X cm W R B e f)
    (hg : Gl X "isinstance" := by rfl) (hgx : Gl X x := by rfl) (hgy : Gl X y := by rfl) (hn : x ≠ "__name__" := by decide) (hdx : (x == ("__debug__" : Str)) = false := by decide) (hny : y ≠ "__name__" := by decide) (hdy : (y == ("__debug__" : Str)) = false := by decide)
    (hst : starEach [e, .Tuple [.Name x p1, .Name y p2] k p3] X.env = (false, eval e X.env) :: starEach [.Tuple [.Name x p1, .Name y p2] k p3] X.env := by rfl) (hst2 : starEach [Expr.Tuple [.Name x p1, .Name y p2] k p3] X.env = (false, eval (.Tuple [.Name x p1, .Name y p2] k p3) X.env) :: starEach [] X.env := by rfl)
    (hs1 : starEach [Expr.Name x p1, .Name y p2] X.env = (false, eval (.Name x p1) X.env) :: starEach [.Name y p2] X.env := by rfl) (hs2 : starEach [Expr.Name y p2] X.env = (false, eval (.Name y p2) X.env) :: starEach [] X.env := by rfl)
    (hpl : (backTo pos (starEach [Expr.Tuple [.Name x p1, .Name y p2] k p3] X.env)).any (·.1) = false := by rfl) :
    SX X cm W R [] (.Call (.Name "isinstance" p) [e, .Tuple [.Name x p1, .Name y p2] k p3] [] pos) (fIsi2 T T' f) :=
  .of (pe_callB call_isiT hg hm (by decide +kernel) (pa_cons he.run (pa_cons (pe_tup (pa_cons (pe_bltn (v := .ty T) hgx hx hv rfl hn hdx) (pa_cons (pe_bltn (v := .ty T') hgy hy hvy rfl hny hdy) pa_nil hs2) hs1)) pa_nil hst2) hst) (by decide) (by decide) hst hpl) fun E Z r Fs s H Q S p => by
    refine ⟨E, Z, r, Fs, S, bindE (R2 := []) (by rw [List.append_nil]; exact p) fun d r1 Z1 Fs1 H1 v F q1 e1 p1 => ?_⟩
    unfold fIsi2 at p
    rw [q1, Res.bind_ok] at p
    unfold isR2 isTy at p
    cases ht : tyName d with
    | none => rw [ht] at p; exact p.elim
    | some n =>
      rw [ht] at p
      refine ⟨(by show 2 ≤ sizeLine; decide), fun p0 hp => ?_⟩
      have o' : Own ⟨X.K, cm⟩ (Zp Z1 p0 True) (upd H1 p0 (.tup [.ty T, .ty T'])) d v F := e1.val.own.alloc hp _ _
      refine ⟨v, p0, [.ty T, .ty T'], .type n, [.type T, .type T'], tyTab T n || tyTab T' n, rfl, upd_same, .cons (.ty T) (.cons (.ty T') .nil), o'.tyX ht, ?_, ?_⟩
      · refine kitAny_cons (kit_ty (kit_tab T hT n (tyName_mem ht))) (fun e => ?_) (fun e => by rw [e]; rfl)
        rw [e, Bool.false_or]
        refine kitAny_cons (kit_ty (kit_tab T' hT' n (tyName_mem ht))) (fun e => ?_) (fun e => e)
        rw [e]
        exact kitAny_nil
      · have t := e1.st.trans (Step.alloc (Z := Z1) (Fs := Fs1) hp (.tup [.ty T, .ty T']) True)
        rw [List.append_nil] at t
        exact p _ Fs1 _ _ [] ⟨t, e1.sr.alloc hp _ _, .ofPure Own.bl rfl, fun _ m => nomatch m⟩
end

/-! ### methods of texts with one argument -/
def MethS (U : Gd) (rr : V → List V → Hp → VK → Prop) (g : Str → D → Option D) : Prop :=
  ∀ (E : En) (Z : AP) (r : Env) (Fs : Nat → List Addr) (s : St) (H : Hp) (a : Str) (y : D) (v : V) (F : List Addr) (z : D) (Q : VK), SR U E Z r Fs s H → Own U Z H y v F → g a y = some z →
    (∀ Z' H' v F, Step Z Fs H [] [] Z' Fs H' → SR U E Z' r Fs s H' → Val U E Z' H' Fs [] z v F → (∀ a ∈ F, H a = none) → Q v H') → rr (.str a) [v] H Q
def fM1 (g : Str → D → Option D) (fo fe : Env → Res D) : Env → Res D := fun r => (fo r).bind fun x r1 => match x with
  | .str a => (fe r1).bind fun y r2 => optR (g a y) r2
  | _ => .bad
section
variable {X : Cx} {cm : Str → Option Addr} {W : WX} {R1 R2 B1 B2 : List Nat} {o e : Expr} {fo fe : Env → Res D} {pos apos : Pos} {name : Str} {id : String} {rr : V → List V → Hp → VK → Prop} {g : Str → D → Option D}
theorem SX.m1 (slot : Slot "str" name id) (ty : typeOf (.builtin id) = Pure.pure (.type "method_descriptor")) (rule : MtR X id rr) (hd : MethS ⟨X.K, cm⟩ rr g) (ho : SX X cm W R1 B1 o fo) (he : SX X cm W [] B2 e fe)
    (hs : starEach [e] X.env = [(false, eval e X.env)] := by rfl) (hbase : attributeBase o name X.env (eval o X.env) = eval o X.env := by rfl) (hline : (apos.endLine == pos.line) = true := by rfl) :
    SX X cm W R1 [] (.Call (.Attribute o name apos) [e] [] pos) (fM1 g fo fe) :=
  .of (pe_m1 slot ty rule ho.run he.run hs hbase hline) fun E Z r Fs s H Q S p => by
    refine ⟨E, Z, r, Fs, S, bindE (R2 := []) (by rw [List.append_nil]; exact p) fun x r1 Z1 Fs1 H1 vx F1 q1 e1 p1 => ?_⟩
    unfold fM1 at p
    rw [q1, Res.bind_ok] at p
    cases x with
    | str a =>
      obtain ⟨rfl, _⟩ := Own.str_iff.mp e1.val.own
      refine ⟨⟨a, rfl⟩, E, Z1, r1, Fs1, e1.sr, bindE (R1 := []) (R2 := []) p1 fun y r2 Z2 Fs2 H2 vy F2 q2 e2 p2 => ?_⟩
      have p0 : postE ⟨X.K, cm⟩ W E Z Fs H s R1 [] ((fe r1).bind fun y r2 => optR (g a y) r2) Q := p
      rw [q2, Res.bind_ok] at p0
      cases hg : g a y with
      | none => rw [hg] at p0; exact p0.elim
      | some z =>
        rw [hg] at p0
        refine hd E Z2 r2 Fs2 s H2 a y vy F2 z Q e2.sr e2.val.own hg fun Z' H' v F t S' hv src => ?_
        have t12 := e1.st.trans e2.st
        have t3 := t12.trans t
        rw [List.append_nil, List.append_nil] at t3
        exact p0 Z' Fs2 H' v F ⟨t3, S', hv, fun a m => .inr (.inl (t12.dm a (src a m)))⟩
    | _ => exact p.elim
end
end DL

set_option Elab.async false
set_option linter.all false
set_option maxRecDepth 100000
namespace DL
open PySem PySem.Spec L2

/-! ### texts -/
def rSplit : V → List V → Hp → VK → Prop := fun x xs H Q => ∃ a b, x = .str a ∧ xs = [.str b] ∧ (b.length == 0) = false ∧ a.length + 2 ≤ sizeLine ∧ rNewStrs (Txt.split a b) H Q
def gSplit (a : Str) : D → Option D
  | .str b => if !(b.length == 0) && decide (a.length + 2 ≤ 16777216) then some (.lst ((Txt.split a b).map .str)) else none
  | _ => none
theorem strs_own {U : Gd} {Z : AP} {H : Hp} : ∀ ns : List Str, OwnL U Z H (ns.map D.str) (ns.map V.str) [] ∧ pureL (ns.map D.str) = true
  | [] => ⟨OwnL.nil, rfl⟩
  | n :: ns => by
    obtain ⟨o, p⟩ := strs_own (U := U) (Z := Z) (H := H) ns
    exact ⟨OwnL.cons Own.str o (fun _ m => nomatch m), by show (true && _) = true; rw [Bool.true_and]; exact p⟩
theorem meths_split {U : Gd} : MethS U rSplit gSplit := by
  intro E Z r Fs s H a y v F z Q S o e k
  cases y with
  | str b =>
    obtain ⟨rfl, _⟩ := Own.str_iff.mp o
    have e' : (if (!(b.length == 0) && decide (a.length + 2 ≤ 16777216)) = true then some (D.lst ((Txt.split a b).map .str)) else none) = some z := e
    by_cases c : (!(b.length == 0) && decide (a.length + 2 ≤ 16777216)) = true
    · rw [if_pos c] at e'; cases e'
      rw [Bool.and_eq_true] at c
      refine ⟨a, b, rfl, rfl, by simpa using c.1, by rw [sizeLine_eq]; exact of_decide_eq_true c.2, fun p hp => ?_⟩
      obtain ⟨o1, p1⟩ := strs_own (U := U) (Z := Z) (H := H) (Txt.split a b)
      have ev := EvR.lst0 (E := E) (B := []) S hp o1 p1
      exact k _ _ _ _ ev.st ev.sr ev.val fun a m => by rw [List.mem_singleton.mp m]; exact hp
    · rw [if_neg c] at e'; cases e'
  | _ => cases e
def strsOf : List D → Option (List Str)
  | [] => some []
  | .str i :: r => (strsOf r).map (i :: ·)
  | _ :: _ => none
theorem strsOf_own {U : Gd} {Z : AP} {H : Hp} : ∀ {ds : List D} {vs : List V} {F : List Addr} {ns : List Str}, OwnL U Z H ds vs F → strsOf ds = some ns → vs = ns.map V.str
  | [], vs, F, ns, h, e => by
    unfold OwnL at h
    cases e
    exact h.1
  | d :: ds, vs, F, ns, h, e => by
    obtain ⟨v, ws, F1, F2, rfl, rfl, o1, o2, _⟩ := h.cases
    cases d with
    | str i =>
      have e' : (strsOf ds).map (i :: ·) = some ns := e
      cases q : strsOf ds with
      | none => rw [q] at e'; cases e'
      | some ms =>
        rw [q] at e'; cases e'
        obtain ⟨rfl, rfl⟩ := Own.str_iff.mp o1
        rw [strsOf_own o2 q]
        rfl
    | _ => cases e

def joinOk (a : Str) (ys : List Str) : Bool := decide ((ys.map (·.length)).sum + ys.length * a.length ≤ 16777216)
def rJoin (K : PySem.W.Frag) : V → List V → Hp → VK → Prop := fun x xs H Q => ∃ a p, ∃ ys : List Str, x = .str a ∧ xs = [.ref p] ∧ (SqL K H p (ys.map V.str) ∨ SqT K H p (ys.map V.str)) ∧
    (ys.map (·.length)).sum + ys.length * a.length ≤ 16777216 ∧ Q (.str (Txt.join a ys)) H
def gJoin (a : Str) : D → Option D
  | .lst xs => match strsOf xs with
    | some ys => if joinOk a ys then some (.str (Txt.join a ys)) else none
    | none => none
  | .tup xs => match strsOf xs with
    | some ys => if joinOk a ys then some (.str (Txt.join a ys)) else none
    | none => none
  | _ => none
theorem meths_join {U : Gd} : MethS U (rJoin U.K) gJoin := by
  intro E Z r Fs s H a y v F z Q S o e k
  have fin : ∀ {xs : List D} {p : Addr} {vs : List V} {G : List Addr}, OwnL U Z H xs vs G → (SqL U.K H p vs ∨ SqT U.K H p vs) → v = .ref p → (match strsOf xs with | some ys => if joinOk a ys then some (D.str (Txt.join a ys)) else none | none => none) = some z → rJoin U.K (.str a) [v] H Q := fun {xs p vs G} l hp ev e => by
    cases hs : strsOf xs with
    | none => rw [hs] at e; cases e
    | some ys =>
      rw [hs] at e
      have e' : (if joinOk a ys = true then some (D.str (Txt.join a ys)) else none) = some z := e
      by_cases c : joinOk a ys = true
      · rw [if_pos c] at e'; cases e'
        have ew := strsOf_own l hs
        subst ew
        exact ⟨a, p, ys, rfl, by rw [ev], hp, of_decide_eq_true c, k Z H _ [] Step.refl S (.ofPure Own.str rfl) fun _ m => nomatch m⟩
      · rw [if_neg c] at e'; cases e'
  cases y with
  | lst xs =>
    obtain ⟨p, vs, G, ev, _, t, _, l⟩ := Own.lst_iff.mp o
    exact fin l (.inl (.of t)) ev e
  | tup xs =>
    obtain ⟨p, vs, ev, t, l⟩ := Own.tup_iff.mp o
    exact fin l (.inr t.sq) ev e
  | _ => cases e
def rStarts : V → List V → Hp → VK → Prop := fun x xs H Q => ∃ a b, x = .str a ∧ xs = [.str b] ∧ Q (.bl (Txt.startswith a b)) H
def rEnds : V → List V → Hp → VK → Prop := fun x xs H Q => ∃ a b, x = .str a ∧ xs = [.str b] ∧ Q (.bl (Txt.endswith a b)) H
def gStarts (a : Str) : D → Option D
  | .str b => some (.bl (Txt.startswith a b))
  | _ => none
def gEnds (a : Str) : D → Option D
  | .str b => some (.bl (Txt.endswith a b))
  | _ => none
theorem meths_starts {U : Gd} : MethS U rStarts gStarts := by
  intro E Z r Fs s H a y v F z Q S o e k
  cases y with
  | str b =>
    obtain ⟨rfl, _⟩ := Own.str_iff.mp o
    cases e
    exact ⟨a, b, rfl, rfl, k Z H _ [] Step.refl S (.ofPure Own.bl rfl) fun _ m => nomatch m⟩
  | _ => cases e
theorem meths_ends {U : Gd} : MethS U rEnds gEnds := by
  intro E Z r Fs s H a y v F z Q S o e k
  cases y with
  | str b =>
    obtain ⟨rfl, _⟩ := Own.str_iff.mp o
    cases e
    exact ⟨a, b, rfl, rfl, k Z H _ [] Step.refl S (.ofPure Own.bl rfl) fun _ m => nomatch m⟩
  | _ => cases e
section
variable {X : Cx} {cm : Str → Option Addr} {W : WX} {R1 R2 B1 B2 : List Nat} {o e : Expr} {fo fe : Env → Res D} {pos apos : Pos}
theorem SX.split (ho : SX X cm W R1 B1 o fo) (he : SX X cm W [] B2 e fe)
    (hs : starEach [e] X.env = [(false, eval e X.env)] := by rfl) (hbase : attributeBase o "split" X.env (eval o X.env) = eval o X.env := by rfl) (hline : (apos.endLine == pos.line) = true := by rfl) :
    SX X cm W R1 [] (.Call (.Attribute o "split" apos) [e] [] pos) (fM1 gSplit fo fe) := SX.m1 F.slot_str_split F.type_str_split mt_split meths_split ho he hs hbase hline
theorem SX.join (ho : SX X cm W R1 B1 o fo) (he : SX X cm W [] B2 e fe)
    (hs : starEach [e] X.env = [(false, eval e X.env)] := by rfl) (hbase : attributeBase o "join" X.env (eval o X.env) = eval o X.env := by rfl) (hline : (apos.endLine == pos.line) = true := by rfl) :
    SX X cm W R1 [] (.Call (.Attribute o "join" apos) [e] [] pos) (fM1 gJoin fo fe) := SX.m1 F.slot_str_join F.type_str_join mt_join meths_join ho he hs hbase hline
theorem SX.starts (ho : SX X cm W R1 B1 o fo) (he : SX X cm W [] B2 e fe)
    (hs : starEach [e] X.env = [(false, eval e X.env)] := by rfl) (hbase : attributeBase o "startswith" X.env (eval o X.env) = eval o X.env := by rfl) (hline : (apos.endLine == pos.line) = true := by rfl) :
    SX X cm W R1 [] (.Call (.Attribute o "startswith" apos) [e] [] pos) (fM1 gStarts fo fe) := SX.m1 F.slot_str_startswith F.type_str_startswith mt_startswith meths_starts ho he hs hbase hline
theorem SX.ends (ho : SX X cm W R1 B1 o fo) (he : SX X cm W [] B2 e fe)
    (hs : starEach [e] X.env = [(false, eval e X.env)] := by rfl) (hbase : attributeBase o "endswith" X.env (eval o X.env) = eval o X.env := by rfl) (hline : (apos.endLine == pos.line) = true := by rfl) :
    SX X cm W R1 [] (.Call (.Attribute o "endswith" apos) [e] [] pos) (fM1 gEnds fo fe) := SX.m1 F.slot_str_endswith F.type_str_endswith mt_endswith meths_ends ho he hs hbase hline
end

/-! ### slices -/
abbrev OI := Option Int
def postP (U : Gd) (W : WX) (E : En) (Z : AP) (Fs : Nat → List Addr) (H : Hp) (s : St) (x : Res OI) (Q : OI → Hp → Prop) : Prop := match x with
  | .ok b r' => ∀ Z' H', Step Z Fs H [] [] Z' Fs H' → SR U E Z' r' Fs s H' → Q b H'
  | .exc c fs vs r' => ExcT U W E Z Fs H [] [] c fs vs r' s
  | .bad => False
def tPt (U : Gd) (W : WX) (f : Env → Res OI) : TO := fun s H Q => ∃ E Z r Fs, SR U E Z r Fs s H ∧ postP U W E Z Fs H s (f r) Q
structure SP' (X : Cx) (cm : Str → Option Addr) (W : WX) (e : Option Expr) (f : Env → Res OI) : Prop where
  run : PO X e (tPt ⟨X.K, cm⟩ W f)
def fNoP : Env → Res OI := fun r => .ok none r
def fSomeP (f : Env → Res D) : Env → Res OI := fun r => (f r).bind fun d r1 => match d with
  | .int i => .ok (some i) r1
  | _ => .bad
theorem fs_nil {α : Type} {f g : Nat → α} (h : ∀ i, i ∉ ([] : List Nat) → i ∉ ([] : List Nat) → f i = g i) : f = g := funext fun i => h i (fun m => nomatch m) fun m => nomatch m
section
variable {X : Cx} {cm : Str → Option Addr} {W : WX} {R B : List Nat} {e : Expr} {lo hi : Option Expr} {f : Env → Res D} {fl fh : Env → Res OI} {pos p2 : Pos}
theorem SP'.none : SP' X cm W none fNoP := ⟨⟨fun pins sh s H Q I ⟨E, Z, r, Fs, S, p⟩ => po_none.run pins sh s H Q I (p Z H Step.refl S)⟩⟩
theorem SP'.some (h : SX X cm W [] B e f) : SP' X cm W (some e) (fSomeP f) := ⟨⟨fun pins sh s H Q I ⟨E, Z, r, Fs, S, p⟩ => (po_some h.run).run pins sh s H Q I ⟨E, Z, r, Fs, S, by
  unfold fSomeP at p
  cases q : f r with
  | exc c fs vs r1 => rw [q] at p; exact p
  | bad => rw [q] at p; exact p
  | ok d r1 =>
    rw [q, Res.bind_ok] at p
    intro Z' Fs' H' v F ev
    cases d with
    | int i =>
      obtain ⟨rfl, _⟩ := Own.int_iff.mp ev.val.own
      have ef : Fs' = Fs := fs_nil ev.st.fs
      subst ef
      exact ⟨i, rfl, p Z' H' ev.st ev.sr⟩
    | _ => exact p.elim⟩⟩⟩
def cutD (xs : List D) (lo hi : OI) : List D := (xs.drop (HT.sIx xs.length 0 lo)).take (HT.sIx xs.length xs.length hi - HT.sIx xs.length 0 lo)
def gSl (d : D) (lo hi : OI) : Option D := match d with
  | .lst xs => if pureL (cutD xs lo hi) then some (.lst (cutD xs lo hi)) else none
  | .frz xs => if pureL (cutD xs lo hi) then some (.lst (cutD xs lo hi)) else none
  | .tup xs => if pureL xs then some (.tup (cutD xs lo hi)) else none
  | .str x => if szOk x.length then some (.str (cutS x lo hi)) else none
  | _ => none
def fSl (f : Env → Res D) (fl fh : Env → Res OI) : Env → Res D := fun r => (f r).bind fun d r1 => (fl r1).bind fun lo r2 => (fh r2).bind fun hi r3 => optR (gSl d lo hi) r3
theorem pureL_drop : ∀ (n : Nat) {xs : List D}, pureL xs = true → pureL (xs.drop n) = true
  | 0, _, h => h
  | n + 1, [], h => h
  | n + 1, x :: xs, h => by
    have h' : (x.pure && pureL xs) = true := h
    rw [Bool.and_eq_true] at h'
    exact pureL_drop n h'.2
theorem pureL_take : ∀ (n : Nat) {xs : List D}, pureL xs = true → pureL (xs.take n) = true
  | 0, _, _ => rfl
  | n + 1, [], h => h
  | n + 1, x :: xs, h => by
    have h' : (x.pure && pureL xs) = true := h
    rw [Bool.and_eq_true] at h'
    show (x.pure && pureL (xs.take n)) = true
    rw [h'.1, pureL_take n h'.2]; rfl
theorem cut_own {U : Gd} {Z : AP} {H : Hp} {ds : List D} {vs : List V} {F : List Addr} {lo hi : OI} (l : OwnL U Z H ds vs F) : ∃ G, OwnL U Z H (cutD ds lo hi) (cutV vs lo hi) G ∧ ∀ a ∈ G, a ∈ F := by
  unfold cutD cutV
  rw [l.len]
  obtain ⟨G, t, s⟩ := l.drop (HT.sIx ds.length 0 lo)
  obtain ⟨G2, t2, s2⟩ := t.take (HT.sIx ds.length ds.length hi - HT.sIx ds.length 0 lo)
  exact ⟨G2, t2, fun a m => s a (s2 a m)⟩
def rSlAll (K : PySem.W.Frag) : V → Option Int → Option Int → Hp → VK → Prop := fun x lo hi H Q => (rSlL K x lo hi H Q ∨ rSlA K x lo hi H Q) ∨ rSlS x lo hi H Q
theorem sl_all : SlR X (rSlAll X.K) := SlR.or (SlR.or sl_list sl_tupA) sl_str
theorem SX.slice (he : SX X cm W R B e f) (hl : SP' X cm W lo fl) (hh : SP' X cm W hi fh) : SX X cm W R [] (.Subscript e (.Slice lo hi none p2) pos) (fSl f fl fh) :=
  .of (pe_slice sl_all he.run hl.run hh.run) fun E Z r Fs s H Q S p => by
    refine ⟨E, Z, r, Fs, S, bindE (R2 := []) (by rw [List.append_nil]; exact p) fun d r1 Z1 Fs1 H1 v F q1 e1 p1 => ?_⟩
    unfold fSl at p
    rw [q1, Res.bind_ok] at p
    refine ⟨E, Z1, r1, Fs1, e1.sr, ?_⟩
    cases q2 : fl r1 with
    | exc c fs vs r1 => rw [q2] at p1; exact p1
    | bad => rw [q2] at p1; exact p1
    | ok lo r2 =>
      rw [q2, Res.bind_ok] at p p1
      intro Z2 H2 t2 S2
      refine ⟨E, Z2, r2, Fs1, S2, ?_⟩
      have p2 := postE.shift (R1 := []) (R2 := []) t2 p1
      cases q3 : fh r2 with
      | exc c fs vs r1 => rw [q3] at p2; exact p2
      | bad => rw [q3] at p2; exact p2
      | ok hi r3 =>
        rw [q3, Res.bind_ok] at p
        intro Z3 H3 t3 S3
        have t123 : Step Z Fs H R [] Z3 Fs1 H3 := by
          have := (e1.st.trans t2).trans t3
          rw [List.append_nil, List.append_nil] at this
          exact this
        have o : Own ⟨X.K, cm⟩ Z3 H3 d v F := (e1.val.own.step e1.sr t2 fun _ _ _ m => nomatch m).step S2 t3 fun _ _ _ m => nomatch m
        have fin : ∀ {z : D} {Z' : AP} {H' : Hp} {v : V} {F : List Addr}, EvR ⟨X.K, cm⟩ E Z3 Fs1 H3 [] [] Z' Fs1 H' s r3 z v F → gSl d lo hi = some z → Q v H' := fun {z Z' H' v F} ev ez => by
          rw [ez] at p
          have ev' := ev.after t123
          rw [List.append_nil] at ev'
          exact p Z' Fs1 H' v F ev'
        cases hg : gSl d lo hi with
        | none => rw [hg] at p; exact p.elim
        | some z =>
          cases d with
          | lst xs =>
            obtain ⟨a, vs, G, rfl, _, t, _, l⟩ := Own.lst_iff.mp o
            obtain ⟨G2, lc, _⟩ := cut_own (lo := lo) (hi := hi) l
            have hg' : (if pureL (cutD xs lo hi) = true then some (D.lst (cutD xs lo hi)) else none) = some z := hg
            by_cases c : pureL (cutD xs lo hi) = true
            · rw [if_pos c] at hg'; cases hg'
              refine .inl (.inl ⟨a, vs, rfl, .of t, fun p0 hp => fin (EvR.lst0 S3 hp lc c) hg⟩)
            · rw [if_neg c] at hg'; cases hg'
          | frz xs =>
            obtain ⟨_, a, vs, rfl, t, l⟩ := Own.frz_iff.mp o
            obtain ⟨G2, lc, _⟩ := cut_own (lo := lo) (hi := hi) l
            have hg' : (if pureL (cutD xs lo hi) = true then some (D.lst (cutD xs lo hi)) else none) = some z := hg
            by_cases c : pureL (cutD xs lo hi) = true
            · rw [if_pos c] at hg'; cases hg'
              refine .inl (.inl ⟨a, vs, rfl, t.sq, fun p0 hp => fin (EvR.lst0 S3 hp lc c) hg⟩)
            · rw [if_neg c] at hg'; cases hg'
          | tup xs =>
            obtain ⟨a, vs, rfl, t, l⟩ := Own.tup_iff.mp o
            obtain ⟨G2, lc, _⟩ := cut_own (lo := lo) (hi := hi) l
            have hg' : (if pureL xs = true then some (D.tup (cutD xs lo hi)) else none) = some z := hg
            by_cases c : pureL xs = true
            · rw [if_pos c] at hg'; cases hg'
              have pc : pureL (cutD xs lo hi) = true := pureL_take _ (pureL_drop _ c)
              refine .inl (.inr ⟨a, vs, rfl, t.sq, fun hw => ?_, fun _ p0 hp => fin (EvR.tup0 S3 hp lc pc) hg⟩)
              have ec : cutV vs lo hi = vs := by
                unfold cutV
                rw [hw.1, hw.2]
                simp
              have e0 := lc.pureF pc
              subst e0
              rw [ec] at lc
              exact fin (EvR.ofPure S3 (Own.tup_iff.mpr ⟨a, vs, rfl, t, lc⟩) pc) hg
            · rw [if_neg c] at hg'; cases hg'
          | str x =>
            obtain ⟨rfl, _⟩ := Own.str_iff.mp o
            have hg' : (if szOk x.length = true then some (D.str (cutS x lo hi)) else none) = some z := hg
            by_cases c : szOk x.length = true
            · rw [if_pos c] at hg'; cases hg'
              exact .inr ⟨x, rfl, szOk_le c, fin (EvR.ofPure S3 Own.str rfl) hg⟩
            · rw [if_neg c] at hg'; cases hg'
          | _ => cases hg
end

/-! ### what is walked -/
/-- what comes at turn i -/
def YD (U : Gd) (Z1 : AP) (ds : List D) : Nat → Hp → V → Hp → Prop := fun i H x H' => ∀ Z : AP, (∀ a, Z1 a → Z a) → ∃ d, ds[i]? = some d ∧ ((H' = H ∧ Own U Z H d x []) ∨ ∃ p o, H p = none ∧ H' = upd H p o ∧ Own U (Zp Z p True) H' d x [])
def Stand (Z1 : AP) (H1 : Hp) (S : AP) (H : Hp) : Prop := (∀ a o, S a → H1 a = some o → H a = some o) ∧ ∀ a o, Z1 a → H1 a = some o → H a = some o
structure ItOk (U : Gd) (Z1 : AP) (H1 : Hp) (J : It) (ds : List D) (S : AP) : Prop where
  walk : Walk J ds.length (Stand Z1 H1 S) (YD U Z1 ds)
  dom : ∀ a, S a → ∃ o, H1 a = some o
def postI (U : Gd) (W : WX) (E : En) (Z : AP) (Fs : Nat → List Addr) (H : Hp) (s : St) (R B : List Nat) (x : Res (List D)) (Q : It → Hp → Prop) : Prop := match x with
  | .ok ds r' => ∀ Z' Fs' H' J S, Step Z Fs H R [] Z' Fs' H' → SR U E Z' r' Fs' s H' → ItOk U Z' H' J ds S → (∀ a, S a → ∀ k, a ∈ Fs' k → k ∈ B) → Q J H'
  | .exc c fs vs r' => ExcT U W E Z Fs H R [] c fs vs r' s
  | .bad => False
def tIs (U : Gd) (W : WX) (R B : List Nat) (f : Env → Res (List D)) : TI := fun s H Q => ∃ E Z r Fs, SR U E Z r Fs s H ∧ postI U W E Z Fs H s R B (f r) Q
structure SI (X : Cx) (cm : Str → Option Addr) (W : WX) (R B : List Nat) (tg it : Expr) (f : Env → Res (List D)) : Prop where
  run : PI X tg it (tIs ⟨X.K, cm⟩ W R B f)
theorem PI.or {X : Cx} {tg it : Expr} {w1 w2 : TI} (h1 : PI X tg it w1) (h2 : PI X tg it w2) : PI X tg it fun s H R => w1 s H R ∨ w2 s H R :=
  ⟨fun pins sh s H R I h => h.elim (h1.run pins sh s H R I) (h2.run pins sh s H R I)⟩
theorem postI.shift {U : Gd} {W : WX} {E : En} {Z Z1 : AP} {Fs Fs1 : Nat → List Addr} {H H1 : Hp} {s : St} {R1 R2 B : List Nat} {x : Res (List D)} {Q : It → Hp → Prop} (t : Step Z Fs H R1 [] Z1 Fs1 H1) (h : postI U W E Z Fs H s (R1 ++ R2) B x Q) : postI U W E Z1 Fs1 H1 s R2 B x Q := by
  cases x with
  | ok d r' => exact fun Z' Fs' H' J S t2 S2 => h Z' Fs' H' J S (t.trans t2) S2
  | exc c fs vs r' => exact ExcT.shift (A1 := []) (A2 := []) t (fun _ _ => rfl) h
  | bad => exact h
theorem bindEI {U : Gd} {W : WX} {E : En} {Z : AP} {Fs : Nat → List Addr} {H : Hp} {s : St} {R1 R2 B B1 : List Nat} {x : Res D} {k : D → Env → Res (List D)} {Q : It → Hp → Prop} {K : VK} (h : postI U W E Z Fs H s (R1 ++ R2) B (x.bind k) Q)
    (hk : ∀ d r1 Z1 Fs1 H1 v F, x = .ok d r1 → EvR U E Z Fs H R1 B1 Z1 Fs1 H1 s r1 d v F → postI U W E Z1 Fs1 H1 s R2 B (k d r1) Q → K v H1) : postE U W E Z Fs H s R1 B1 x K := by
  cases x with
  | ok d r1 => exact fun Z' Fs' H' v F e => hk d r1 Z' Fs' H' v F rfl e (postI.shift e.st h)
  | exc c fs vs r' => exact ExcT.mono (fun j m => List.mem_append_left _ m) (fun _ m => m) h
  | bad => exact h
theorem bindLI {U : Gd} {W : WX} {E : En} {Z : AP} {Fs : Nat → List Addr} {H : Hp} {s : St} {R1 R2 B B1 : List Nat} {x : Res (List D)} {k : List D → Env → Res (List D)} {Q : It → Hp → Prop} {K : List V → Hp → Prop} (h : postI U W E Z Fs H s (R1 ++ R2) B (x.bind k) Q)
    (hk : ∀ ds r1 Z1 Fs1 H1 vs Fl, x = .ok ds r1 → EvL U E Z Fs H R1 B1 Z1 Fs1 H1 s r1 ds vs Fl → postI U W E Z1 Fs1 H1 s R2 B (k ds r1) Q → K vs H1) : postL U W E Z Fs H s R1 B1 x K := by
  cases x with
  | ok d r1 => exact fun Z' Fs' H' v F e => hk d r1 Z' Fs' H' v F rfl e (postI.shift e.st h)
  | exc c fs vs r' => exact ExcT.mono (fun j m => List.mem_append_left _ m) (fun _ m => m) h
  | bad => exact h
/-- the items of a thing that is walked: they hold nothing that may change -/
def seqD : D → Option (List D)
  | .lst xs => if pureL xs then some xs else none
  | .tup xs => if pureL xs then some xs else none
  | .frz xs => if pureL xs then some xs else none
  | .str x => some (x.cps.toList.map fun c => .str ⟨#[c]⟩)
  | _ => none
def optL (x : Option (List D)) (r : Env) : Res (List D) := match x with
  | some d => .ok d r
  | none => .bad
@[simp] theorem optL_some (d : List D) (r : Env) : optL (some d) r = .ok d r := rfl
@[simp] theorem optL_none (r : Env) : optL none r = .bad := rfl
def fSeq (f : Env → Res D) : Env → Res (List D) := fun r => (f r).bind fun d r1 => optL (seqD d) r1
theorem getD_own {U : Gd} {Z : AP} {H : Hp} {ds : List D} {vs : List V} {i : Nat} {x : V} (l : OwnL U Z H ds vs []) (h : vs[i]? = some x) : ∃ d, ds[i]? = some d ∧ Own U Z H d x [] := by
  have hi : i < ds.length := by
    have := (List.getElem?_eq_some_iff.mp h).1
    rw [l.len] at this
    exact this
  have e : ds[i]? = some ds[i] := List.getElem?_eq_getElem hi
  obtain ⟨v, G, e2, o, sub⟩ := l.get e
  rw [h] at e2
  cases e2
  have g0 : G = [] := by
    cases G with
    | nil => rfl
    | cons a G => exact nomatch sub a List.mem_cons_self
  subst g0
  exact ⟨_, e, o⟩
theorem OwnL.stand {U : Gd} {Z Z' : AP} {H H' : Hp} {ds : List D} {vs : List V} {S : AP} (l : OwnL U Z H ds vs []) (hz : ∀ a, Z a → Z' a) (st : Stand Z H S H') : OwnL U Z' H' ds vs [] :=
  l.mono hz fun a o e z => z.elim (fun z => st.2 a o z e) fun z => nomatch z
section
variable {X : Cx} {cm : Str → Option Addr} {W : WX} {R R1 R2 B B1 B2 : List Nat} {tg e e2 : Expr} {f : Env → Res D} {fs : Env → Res (List D)} {pos p tpos : Pos} {elts : List Expr} {kk : Nat}
theorem TupAt.stand {U : Gd} {Z : AP} {H H' : Hp} {a : Addr} {vs : List V} {S : AP} (t : TupAt U Z H a vs) (st : Stand Z H S H') : SqT U.K H' a vs := (t.mono (Z' := Z) (fun _ z => z) fun a o e z => st.2 a o z e).sq
theorem FrzAt.stand {U : Gd} {Z : AP} {H H' : Hp} {a : Addr} {vs : List V} {S : AP} (t : FrzAt U Z H a vs) (st : Stand Z H S H') : SqL U.K H' a vs := (t.mono (Z' := Z) (fun _ z => z) fun a o e z => st.2 a o z e).sq
theorem SI.seq (h : SX X cm W R B e f) : SI X cm W R B tg e (fSeq f) := by
  refine ⟨⟨fun pins sh s H Q I ⟨E, Z, r, Fs, S, p⟩ => (PI.or (PI.or (pi_list h.run) (pi_tup h.run)) (pi_str h.run)).run pins sh s H Q I ?_⟩⟩
  unfold fSeq at p
  cases q : f r with
  | exc c fs vs r1 => rw [q] at p; exact .inl (.inl ⟨E, Z, r, Fs, S, by rw [q]; exact p⟩)
  | bad => rw [q] at p; exact p.elim
  | ok d r1 =>
    rw [q, Res.bind_ok] at p
    have yat : ∀ {xs : List D} {vs : List V} {Z1 : AP} {H1 : Hp} {S1 : AP}, OwnL ⟨X.K, cm⟩ Z1 H1 xs vs [] → ∀ i H x H', i < xs.length → Stand Z1 H1 S1 H → YAt vs i H x H' → YD ⟨X.K, cm⟩ Z1 xs i H x H' := fun {xs vs Z1 H1 S1} l i H x H' hi st y Z hz => by
      obtain ⟨d, e, o⟩ := getD_own (l.stand hz st) y.2
      exact ⟨d, e, .inl ⟨y.1, o⟩⟩
    cases d with
    | lst xs =>
      refine .inl (.inl ⟨E, Z, r, Fs, S, ?_⟩)
      rw [q]
      intro Z1 Fs1 H1 v F ev
      obtain ⟨a, vs, G, rfl, rfl, t, _, l⟩ := Own.lst_iff.mp ev.val.own
      have p' : postI ⟨X.K, cm⟩ W E Z Fs H s R B (optL (if pureL xs = true then some xs else none) r1) Q := p
      by_cases c : pureL xs = true
      · rw [if_pos c] at p'
        have e0 := l.pureF c
        subst e0
        refine ⟨a, rfl, ⟨vs, .of t⟩, p' Z1 Fs1 H1 (Itl X.K a) (fun b => b = a) ev.st ev.sr ⟨?_, fun b eb => by rw [eb]; exact ⟨_, t⟩⟩ fun b eb k m => ev.val.dis b (by rw [eb]; exact List.mem_cons_self) k m⟩
        rw [← l.len]
        exact walk_list.mono (fun H' st => .of (st.1 a _ rfl t)) fun i H' x H'' hi st y => yat l i H' x H'' (by rw [← l.len]; exact hi) st y
      · rw [if_neg c] at p'; exact p'.elim
    | frz xs =>
      refine .inl (.inl ⟨E, Z, r, Fs, S, ?_⟩)
      rw [q]
      intro Z1 Fs1 H1 v F ev
      obtain ⟨rfl, a, vs, rfl, t, l⟩ := Own.frz_iff.mp ev.val.own
      have p' : postI ⟨X.K, cm⟩ W E Z Fs H s R B (optL (if pureL xs = true then some xs else none) r1) Q := p
      by_cases c : pureL xs = true
      · rw [if_pos c] at p'
        refine ⟨a, rfl, ⟨vs, t.sq⟩, p' Z1 Fs1 H1 (Itl X.K a) (fun _ => False) ev.st ev.sr ⟨?_, fun _ z => z.elim⟩ fun _ z => z.elim⟩
        rw [← l.len]
        exact walk_list.mono (fun H' st => t.stand st) fun i H' x H'' hi st y => yat l i H' x H'' (by rw [← l.len]; exact hi) st y
      · rw [if_neg c] at p'; exact p'.elim
    | tup xs =>
      refine .inl (.inr ⟨E, Z, r, Fs, S, ?_⟩)
      rw [q]
      intro Z1 Fs1 H1 v F ev
      obtain ⟨a, vs, rfl, t, l⟩ := Own.tup_iff.mp ev.val.own
      have p' : postI ⟨X.K, cm⟩ W E Z Fs H s R B (optL (if pureL xs = true then some xs else none) r1) Q := p
      by_cases c : pureL xs = true
      · rw [if_pos c] at p'
        have e0 := l.pureF c
        subst e0
        refine ⟨a, rfl, ⟨vs, t.sq⟩, p' Z1 Fs1 H1 (Itt X.K a) (fun _ => False) ev.st ev.sr ⟨?_, fun _ z => z.elim⟩ fun _ z => z.elim⟩
        rw [← l.len]
        exact walk_tup.mono (fun H' st => t.stand st) fun i H' x H'' hi st y => yat l i H' x H'' (by rw [← l.len]; exact hi) st y
      · rw [if_neg c] at p'; exact p'.elim
    | str x =>
      refine .inr ⟨E, Z, r, Fs, S, ?_⟩
      rw [q]
      intro Z1 Fs1 H1 v F ev
      obtain ⟨rfl, _⟩ := Own.str_iff.mp ev.val.own
      refine ⟨x, rfl, p Z1 Fs1 H1 (Its x) (fun _ => False) ev.st ev.sr ⟨?_, fun _ z => z.elim⟩ fun _ z => z.elim⟩
      have hl : (x.cps.toList.map fun c => D.str ⟨#[c]⟩).length = x.cps.size := by simp
      rw [hl]
      refine walk_str.mono (fun _ _ => True.intro) fun i H' v H'' hi st y Z hz => ?_
      obtain ⟨eh, c, ec, ev⟩ := y
      refine ⟨.str ⟨#[c]⟩, ?_, .inl ⟨eh, by rw [ev]; exact Own.str⟩⟩
      rw [List.getElem?_map, Array.getElem?_toList, ec]
      rfl
    | _ => exact p.elim
end
end DL

set_option Elab.async false
set_option linter.all false
set_option maxRecDepth 100000
namespace DL
open PySem PySem.Spec L2

/-! ### range, zip, enumerate -/
def rngOk (i : Int) : Bool := decide (-(2 ^ 62) ≤ i) && decide (i < 2 ^ 62)
def rngD (lo : Int) (n : Nat) : List D := (List.range n).map fun (i : Nat) => D.int (lo + (i : Int))
def gRange1 : List D → Option (List D)
  | [.int j] => if rngOk j then some (rngD 0 j.toNat) else none
  | _ => none
def gRange2 : List D → Option (List D)
  | [.int i, .int j] => if rngOk i && rngOk j then some (rngD i (j - i).toNat) else none
  | _ => none
theorem gRange1_some {ds zs : List D} (h : gRange1 ds = some zs) : ∃ j, ds = [.int j] ∧ rngOk j = true ∧ zs = rngD 0 j.toNat := by
  unfold gRange1 at h
  split at h
  · rename_i j
    by_cases c : rngOk j = true
    · rw [if_pos c] at h; exact ⟨j, rfl, c, (Option.some.inj h).symm⟩
    · rw [if_neg c] at h; cases h
  · cases h
theorem gRange2_some {ds zs : List D} (h : gRange2 ds = some zs) : ∃ i j, ds = [.int i, .int j] ∧ rngOk i = true ∧ rngOk j = true ∧ zs = rngD i (j - i).toNat := by
  unfold gRange2 at h
  split at h
  · rename_i i j
    by_cases c : (rngOk i && rngOk j) = true
    · rw [if_pos c] at h
      rw [Bool.and_eq_true] at c
      exact ⟨i, j, rfl, c.1, c.2, (Option.some.inj h).symm⟩
    · rw [if_neg c] at h; cases h
  · cases h
def fArgL (g : List D → Option (List D)) (fs : Env → Res (List D)) : Env → Res (List D) := fun r => (fs r).bind fun ds r1 => optL (g ds) r1
theorem rng_walk {U : Gd} {Z : AP} {H : Hp} {lo : Int} {n : Nat} : ItOk U Z H (Itr lo n) (rngD lo n) fun _ => False := by
  refine ⟨?_, fun _ z => z.elim⟩
  have hl : (rngD lo n).length = n := by unfold rngD; simp
  rw [hl]
  refine walk_range.mono (fun _ _ => True.intro) fun i H' v H'' hi st y Z' hz => ?_
  obtain ⟨eh, ev⟩ := y
  refine ⟨.int (lo + (i : Int)), ?_, .inl ⟨eh, by rw [ev]; exact Own.int⟩⟩
  unfold rngD
  rw [List.getElem?_map, List.getElem?_range hi]
  rfl
section
variable {X : Cx} {cm : Str → Option Addr} {W : WX} {R R1 R2 B B1 B2 : List Nat} {tg e e2 : Expr} {f : Env → Res D} {fs : Env → Res (List D)} {pos p tpos : Pos} {elts : List Expr} {kk : Nat}
theorem rngOk_b {i : Int} (h : rngOk i = true) : -(2 ^ 62) ≤ i ∧ i < 2 ^ 62 := by
  unfold rngOk at h
  rw [Bool.and_eq_true] at h
  exact ⟨of_decide_eq_true h.1, of_decide_eq_true h.2⟩
theorem SI.range1 (hm : X.mg "range" = none) (ha : SA X cm W R B [e] fs) (hg : Gl X "range" := by rfl) (hs : starEach [e] X.env = [(false, eval e X.env)] := by rfl) : SI X cm W R [] tg (.Call (.Name "range" p) [e] [] pos) (fArgL gRange1 fs) :=
  ⟨⟨fun pins sh s H Q I ⟨E, Z, r, Fs, S, p⟩ => (pi_range1 hg hm ha.run hs).run pins sh s H Q I ⟨E, Z, r, Fs, S, bindLI (R2 := []) (B1 := B) (by rw [List.append_nil]; exact p) fun ds r1 Z1 Fs1 H1 vs Fl q1 e1 p1 => by
    have hO := e1.val.ownE
    cases hd : gRange1 ds with
    | none => rw [hd] at p1; exact p1.elim
    | some zs =>
      rw [hd] at p1
      obtain ⟨j, rfl, c, rfl⟩ := gRange1_some hd
      obtain ⟨v, F, rfl, o⟩ := hO.one
      obtain ⟨rfl, _⟩ := Own.int_iff.mp o
      exact ⟨j, rfl, (rngOk_b c).1, (rngOk_b c).2, p1 Z1 Fs1 H1 _ _ Step.refl e1.sr rng_walk fun _ z => z.elim⟩⟩⟩⟩
theorem SI.range2 (hm : X.mg "range" = none) (ha : SA X cm W R B [e, e2] fs) (hg : Gl X "range" := by rfl) (hs : starEach [e, e2] X.env = [(false, eval e X.env), (false, eval e2 X.env)] := by rfl) (hs2 : starEach [e2] X.env = [(false, eval e2 X.env)] := by rfl) : SI X cm W R [] tg (.Call (.Name "range" p) [e, e2] [] pos) (fArgL gRange2 fs) :=
  ⟨⟨fun pins sh s H Q I ⟨E, Z, r, Fs, S, p⟩ => (pi_range2 hg hm ha.run hs hs2).run pins sh s H Q I ⟨E, Z, r, Fs, S, bindLI (R2 := []) (B1 := B) (by rw [List.append_nil]; exact p) fun ds r1 Z1 Fs1 H1 vs Fl q1 e1 p1 => by
    have hO := e1.val.ownE
    cases hd : gRange2 ds with
    | none => rw [hd] at p1; exact p1.elim
    | some zs =>
      rw [hd] at p1
      obtain ⟨i, j, rfl, c1, c2, rfl⟩ := gRange2_some hd
      obtain ⟨v, w, F, G, rfl, o1, o2⟩ := hO.two
      obtain ⟨rfl, _⟩ := Own.int_iff.mp o1
      obtain ⟨rfl, _⟩ := Own.int_iff.mp o2
      exact ⟨i, j, rfl, ⟨(rngOk_b c1).1, (rngOk_b c1).2, (rngOk_b c2).1, (rngOk_b c2).2⟩, p1 Z1 Fs1 H1 _ _ Step.refl e1.sr rng_walk fun _ z => z.elim⟩⟩⟩⟩

theorem walk_zipT {K : PySem.W.Frag} {a b : Addr} {xs ys : List V} {n : Nat} (hn : n = min xs.length ys.length) : Walk (RZ.ItzT K a b) n (fun H => SqT K H a xs ∧ SqT K H b ys) (YPair (fun i => xs[i]?) (fun i => ys[i]?)) := by
  subst hn
  refine ⟨fun i _ hi q => ?_, fun _ q => ⟨xs, ys, q.1, q.2, by omega⟩, fun i H v H' _ q y => ?_⟩
  · have h1 : i < xs.length := by omega
    have h2 : i < ys.length := by omega
    exact ⟨xs, ys, xs[i], ys[i], q.1, q.2, by simp [h1], by simp [h2]⟩
  · obtain ⟨T, x, z, h1, h2, h3, h4, h5⟩ := y
    exact ⟨T, x, z, h1, h2, h3, h4 xs q.1, h5 ys q.2⟩
/-- pairs of pure items -/
def pairD (xs ys : List D) : List D := List.zipWith (fun x y => .tup [x, y]) xs ys
theorem pair_own {U : Gd} {Z : AP} {H : Hp} {d1 d2 : D} {x y : V} {T : Addr} (h1 : Own U Z H d1 x []) (h2 : Own U Z H d2 y []) (hT : H T = none) : Own U (Zp Z T True) (upd H T (.tup [x, y])) (.tup [d1, d2]) (.ref T) [] :=
  Own.tup_iff.mpr ⟨T, [x, y], rfl, .inl ⟨.inr ⟨rfl, True.intro⟩, upd_same⟩, OwnL.cons (h1.alloc hT _ _) (OwnL.cons (h2.alloc hT _ _) OwnL.nil fun _ m => nomatch m) fun _ m => nomatch m⟩
theorem yd_pair {U : Gd} {Z1 : AP} {H1 : Hp} {S1 : AP} {xs ys : List D} {vs ws : List V} (l1 : OwnL U Z1 H1 xs vs []) (l2 : OwnL U Z1 H1 ys ws []) {i : Nat} {H : Hp} {x : V} {H' : Hp} (st : Stand Z1 H1 S1 H) (y : YPair (fun i => vs[i]?) (fun i => ws[i]?) i H x H') : YD U Z1 (pairD xs ys) i H x H' := fun Z hz => by
  obtain ⟨T, a, b, rfl, hT, rfl, e1, e2⟩ := y
  obtain ⟨d1, f1, o1⟩ := getD_own (l1.stand hz st) e1
  obtain ⟨d2, f2, o2⟩ := getD_own (l2.stand hz st) e2
  refine ⟨.tup [d1, d2], ?_, .inr ⟨T, _, hT, rfl, pair_own o1 o2 hT⟩⟩
  unfold pairD
  rw [List.getElem?_zipWith, f1, f2]
def gZip : List D → Option (List D)
  | [.lst xs, .lst ys] => if pureL xs && pureL ys then some (pairD xs ys) else none
  | [.tup xs, .tup ys] => if pureL xs && pureL ys then some (pairD xs ys) else none
  | _ => none
theorem gZip_some {ds zs : List D} (h : gZip ds = some zs) : ∃ xs ys, (ds = [.lst xs, .lst ys] ∨ ds = [.tup xs, .tup ys]) ∧ pureL xs = true ∧ pureL ys = true ∧ zs = pairD xs ys := by
  unfold gZip at h
  split at h
  · rename_i xs ys
    by_cases c : (pureL xs && pureL ys) = true
    · rw [if_pos c] at h
      rw [Bool.and_eq_true] at c
      exact ⟨xs, ys, .inl rfl, c.1, c.2, (Option.some.inj h).symm⟩
    · rw [if_neg c] at h; cases h
  · rename_i xs ys
    by_cases c : (pureL xs && pureL ys) = true
    · rw [if_pos c] at h
      rw [Bool.and_eq_true] at c
      exact ⟨xs, ys, .inr rfl, c.1, c.2, (Option.some.inj h).symm⟩
    · rw [if_neg c] at h; cases h
  · cases h
theorem SI.zip (hm : X.mg "zip" = none) (ha : SA X cm W R B [e, e2] fs) (hg : Gl X "zip" := by rfl) (hs : starEach [e, e2] X.env = (false, eval e X.env) :: starEach [e2] X.env := by rfl) (hpl : (backTo pos (starEach [e2] X.env)).any (·.1) = false := by rfl) :
    SI X cm W R B (.Tuple elts kk tpos) (.Call (.Name "zip" p) [e, e2] [] pos) (fArgL gZip fs) :=
  ⟨⟨fun pins sh s H Q I ⟨E, Z, r, Fs, S, p⟩ => (RZ.pi_zipA hg hm ha.run hs hpl).run pins sh s H Q I ⟨E, Z, r, Fs, S, bindLI (R2 := []) (B1 := B) (by rw [List.append_nil]; exact p) fun ds r1 Z1 Fs1 H1 vs Fl q1 e1 p1 => by
    cases hd : gZip ds with
    | none => rw [hd] at p1; exact p1.elim
    | some zs =>
      rw [hd] at p1
      obtain ⟨xs, ys, hk, c1, c2, rfl⟩ := gZip_some hd
      have hlen : ∀ {vs ws : List V} {F G : List Addr}, OwnL ⟨X.K, cm⟩ Z1 H1 xs vs F → OwnL ⟨X.K, cm⟩ Z1 H1 ys ws G → (pairD xs ys).length = min vs.length ws.length := fun {vs ws F G} l1 l2 => by
        unfold pairD
        rw [List.length_zipWith, l1.len, l2.len]
      rcases hk with rfl | rfl
      · have hv := e1.val
        unfold ValL at hv
        obtain ⟨v, vs1, F1, Fl1, rfl, rfl, v1, hv, _⟩ := hv
        unfold ValL at hv
        obtain ⟨w, vs2, F2, Fl2, rfl, rfl, v2, hv, _⟩ := hv
        unfold ValL at hv
        obtain ⟨rfl, rfl⟩ := hv
        obtain ⟨a, vs, G1, rfl, rfl, t1, _, l1⟩ := Own.lst_iff.mp v1.own
        obtain ⟨b, ws, G2, rfl, rfl, t2, _, l2⟩ := Own.lst_iff.mp v2.own
        have e0 := l1.pureF c1
        subst e0
        have e0 := l2.pureF c2
        subst e0
        refine ⟨a, b, vs, ws, rfl, .inl ⟨.of t1, .of t2, p1 Z1 Fs1 H1 _ (fun c => c = a ∨ c = b) Step.refl e1.sr ⟨?_, fun c hc => ?_⟩ fun c hc k m => ?_⟩⟩
        · refine (walk_zip (hlen l1 l2)).mono (fun H' st => ⟨.of (st.1 a _ (.inl rfl) t1), .of (st.1 b _ (.inr rfl) t2)⟩) fun i H' x H'' hi st y => yd_pair l1 l2 st y
        · rcases hc with rfl | rfl
          · exact ⟨_, t1⟩
          · exact ⟨_, t2⟩
        · rcases hc with rfl | rfl
          · exact v1.dis _ List.mem_cons_self k m
          · exact v2.dis _ List.mem_cons_self k m
      · have hv := e1.val
        unfold ValL at hv
        obtain ⟨v, vs1, F1, Fl1, rfl, rfl, v1, hv, _⟩ := hv
        unfold ValL at hv
        obtain ⟨w, vs2, F2, Fl2, rfl, rfl, v2, hv, _⟩ := hv
        unfold ValL at hv
        obtain ⟨rfl, rfl⟩ := hv
        obtain ⟨a, vs, rfl, t1, l1⟩ := Own.tup_iff.mp v1.own
        obtain ⟨b, ws, rfl, t2, l2⟩ := Own.tup_iff.mp v2.own
        have e0 := l1.pureF c1
        subst e0
        have e0 := l2.pureF c2
        subst e0
        refine ⟨a, b, vs, ws, rfl, .inr ⟨t1.sq, t2.sq, p1 Z1 Fs1 H1 _ (fun _ => False) Step.refl e1.sr ⟨?_, fun c hc => hc.elim⟩ fun c hc => hc.elim⟩⟩
        refine (walk_zipT (hlen l1 l2)).mono (fun H' st => ⟨t1.stand st, t2.stand st⟩) fun i H' x H'' hi st y => yd_pair l1 l2 st y⟩⟩⟩
/-- enumerate of a list -/
def enumD (xs : List D) : List D := pairD (rngD 0 xs.length) xs
def gEnum : List D → Option (List D)
  | [.lst xs] => if pureL xs then some (enumD xs) else none
  | _ => none
theorem gEnum_some {ds zs : List D} (h : gEnum ds = some zs) : ∃ xs, ds = [.lst xs] ∧ pureL xs = true ∧ zs = enumD xs := by
  unfold gEnum at h
  split at h
  · rename_i xs
    by_cases c : pureL xs = true
    · rw [if_pos c] at h; exact ⟨xs, rfl, c, (Option.some.inj h).symm⟩
    · rw [if_neg c] at h; cases h
  · cases h
theorem SI.enum (hm : X.mg "enumerate" = none) (ha : SA X cm W R B [e] fs) (hg : Gl X "enumerate" := by rfl) (hs : starEach [e] X.env = [(false, eval e X.env)] := by rfl) :
    SI X cm W R B (.Tuple elts kk tpos) (.Call (.Name "enumerate" p) [e] [] pos) (fArgL gEnum fs) :=
  ⟨⟨fun pins sh s H Q I ⟨E, Z, r, Fs, S, p⟩ => (pi_enum hg hm ha.run hs).run pins sh s H Q I ⟨E, Z, r, Fs, S, bindLI (R2 := []) (B1 := B) (by rw [List.append_nil]; exact p) fun ds r1 Z1 Fs1 H1 vs Fl q1 e1 p1 => by
    cases hd : gEnum ds with
    | none => rw [hd] at p1; exact p1.elim
    | some zs =>
      rw [hd] at p1
      obtain ⟨xs, rfl, c1, rfl⟩ := gEnum_some hd
      have hv := e1.val
      unfold ValL at hv
      obtain ⟨v, vs1, F1, Fl1, rfl, rfl, v1, hv, _⟩ := hv
      unfold ValL at hv
      obtain ⟨rfl, rfl⟩ := hv
      obtain ⟨a, vs, G1, rfl, rfl, t1, _, l1⟩ := Own.lst_iff.mp v1.own
      have e0 := l1.pureF c1
      subst e0
      have hl : (rngD 0 xs.length).length = xs.length := by unfold rngD; simp
      refine ⟨a, vs, rfl, .of t1, p1 Z1 Fs1 H1 _ (fun c => c = a) Step.refl e1.sr ⟨?_, fun c hc => by rw [hc]; exact ⟨_, t1⟩⟩ fun c hc k m => v1.dis _ (by rw [hc]; exact List.mem_cons_self) k m⟩
      have hz : (enumD xs).length = vs.length := by unfold enumD pairD; rw [List.length_zipWith, hl, l1.len]; exact Nat.min_self _
      rw [hz]
      refine walk_enum.mono (fun H' st => .of (st.1 a _ rfl t1)) fun i H' x H'' hi st y => ?_
      have lr : OwnL ⟨X.K, cm⟩ Z1 H1 (rngD 0 xs.length) ((List.range xs.length).map fun (i : Nat) => V.int (i : Int)) [] := by
        have key : ∀ ns : List Nat, OwnL ⟨X.K, cm⟩ Z1 H1 (ns.map fun (i : Nat) => D.int (0 + (i : Int))) (ns.map fun (i : Nat) => V.int (i : Int)) [] := fun ns => by
          induction ns with
          | nil => exact OwnL.nil
          | cons n ns ih => exact OwnL.cons (Own.int_iff.mpr ⟨by rw [Int.zero_add], rfl⟩) ih fun _ m => nomatch m
        exact key _
      obtain ⟨T, b, c, h1, h2, h3, h4, h5⟩ := y
      refine yd_pair lr l1 st ⟨T, b, c, h1, h2, h3, ?_, h5⟩
      show (List.map (fun (i : Nat) => V.int (i : Int)) (List.range xs.length))[i]? = some b
      rw [List.getElem?_map, List.getElem?_range (by rw [← l1.len]; exact hi)]
      exact h4⟩⟩⟩
end
end DL

set_option Elab.async false
set_option linter.all false
set_option maxRecDepth 100000
namespace DL
open PySem PySem.Spec L2

/-! ### targets -/
structure Fresh (Z : AP) (E : En) (Fs : Nat → List Addr) (F : List Addr) : Prop where
  nz : ∀ a ∈ F, ¬ Z a
  al : ∀ a ∈ F, E.al a
  dis : ∀ a ∈ F, ∀ k, a ∉ Fs k
theorem Val.fresh {U : Gd} {E : En} {Z : AP} {H : Hp} {Fs : Nat → List Addr} {d : D} {v : V} {F : List Addr} (h : Val U E Z H Fs [] d v F) : Fresh Z E Fs F := ⟨h.nz, h.al, fun a m k q => nomatch h.dis a m k q⟩
theorem Fresh.nil {E : En} {Z : AP} {Fs : Nat → List Addr} : Fresh Z E Fs [] := ⟨(fun _ m => nomatch m), (fun _ m => nomatch m), (fun _ m => nomatch m)⟩
structure TgR (U : Gd) (E : En) (Z : AP) (Fs : Nat → List Addr) (s : St) (H : Hp) (A : List Nat) (F : List Addr) (r' : Env) (s' : St) (Fs' : Nat → List Addr) : Prop where
  ln : s'.length = s.length
  sl : ∀ i, i ∉ A → s'[i]? = s[i]?
  fs : ∀ i, i ∉ A → Fs' i = Fs i
  fw : ∀ i a, a ∈ Fs' i → a ∈ Fs i ∨ a ∈ F
  sr : SR U E Z r' Fs' s' H
def tGt (U : Gd) (A : List Nat) (g : D → Env → Option Env) : TG := fun v s H K => ∃ E Z r Fs d F, SR U E Z r Fs s H ∧ Own U Z H d v F ∧ Fresh Z E Fs F ∧ ∃ r', g d r = some r' ∧ ∀ s' Fs', TgR U E Z Fs s H A F r' s' Fs' → K s' H
def tGs (U : Gd) (A : List Nat) (g : List D → Env → Option Env) : TGs := fun vs s H K => ∃ E Z r Fs ds F, SR U E Z r Fs s H ∧ OwnL U Z H ds vs F ∧ Fresh Z E Fs F ∧ ∃ r', g ds r = some r' ∧ ∀ s' Fs', TgR U E Z Fs s H A F r' s' Fs' → K s' H
structure SG (X : Cx) (cm : Str → Option Addr) (A : List Nat) (tg : Expr) (g : D → Env → Option Env) : Prop where
  run : PG X tg (tGt ⟨X.K, cm⟩ A g)
structure SGs (X : Cx) (cm : Str → Option Addr) (A : List Nat) (tg : List Expr) (g : List D → Env → Option Env) : Prop where
  run : PGs X tg (tGs ⟨X.K, cm⟩ A g)
def gN (i : Nat) : D → Env → Option Env := fun d r => some (r.set i (some d))
def gsNil : List D → Env → Option Env := fun ds r => match ds with
  | [] => some r
  | _ => none
def gsCons (g : D → Env → Option Env) (gs : List D → Env → Option Env) : List D → Env → Option Env := fun ds r => match ds with
  | d :: ds => (g d r).bind fun r1 => gs ds r1
  | [] => none
def gTp (n : Nat) (gs : List D → Env → Option Env) : D → Env → Option Env := fun d r => match d with
  | .tup ds => if ds.length = n then gs ds r else none
  | _ => none
/-- slot i gets d -/
theorem SR.setS {U : Gd} {E : En} {Z : AP} {r : Env} {Fs : Nat → List Addr} {s : St} {H : Hp} (S : SR U E Z r Fs s H) (i : Nat) {d : D} {v : V} {F : List Addr} (o : Own U Z H d v F) (f : Fresh Z E Fs F) :
    TgR U E Z Fs s H [i] F (r.set i (some d)) (s.set i (some v)) (fun k => if k = i ∧ i < s.length then F else Fs k) := by
  have hr : r.length = s.length := S.len
  refine ⟨List.length_set, fun k m => ?_, fun k m => ?_, fun k a m => ?_, ?_⟩
  · rw [List.getElem?_set_ne (fun e => m (by rw [e]; exact List.mem_singleton.mpr rfl))]
  · show (if k = i ∧ i < s.length then F else Fs k) = Fs k
    rw [if_neg (fun e => m (List.mem_singleton.mpr e.1))]
  · have m' : a ∈ (if k = i ∧ i < s.length then F else Fs k) := m
    by_cases c : k = i ∧ i < s.length
    · rw [if_pos c] at m'; exact .inr m'
    · rw [if_neg c] at m'; exact .inl m'
  · refine ⟨by rw [List.length_set, List.length_set]; exact S.len, fun k d' e => ?_, fun k h => ?_, fun k j a m1 m2 => ?_, fun k a m => ?_, S.zd, fun k a m => ?_, S.kp, S.zi, S.zo, S.dm, S.fr⟩
    · show ∃ v', (s.set i (some v))[k]? = some (some v') ∧ Own U Z H d' v' (if k = i ∧ i < s.length then F else Fs k)
      by_cases c : k = i
      · subst c
        by_cases hl : k < s.length
        · rw [List.getElem?_set_self (by rw [hr]; exact hl)] at e
          cases e
          rw [if_pos ⟨rfl, hl⟩]
          exact ⟨v, List.getElem?_set_self hl, o⟩
        · rw [List.getElem?_eq_none (by rw [List.length_set, hr]; omega)] at e
          cases e
      · rw [List.getElem?_set_ne (Ne.symm c)] at e
        rw [if_neg (fun q => c q.1), List.getElem?_set_ne (Ne.symm c)]
        exact S.own k d' e
    · show (if k = i ∧ i < s.length then F else Fs k) = []
      by_cases c : k = i ∧ i < s.length
      · obtain ⟨rfl, hl⟩ := c
        exact absurd (List.getElem?_set_self (by rw [hr]; exact hl)) (h d)
      · rw [if_neg c]
        refine S.emp k fun d' e => ?_
        by_cases ck : k = i
        · subst ck
          have hl : k < r.length := (List.getElem?_eq_some_iff.mp e).1
          exact c ⟨rfl, by rw [← hr]; exact hl⟩
        · exact h d' (by rw [List.getElem?_set_ne (Ne.symm ck)]; exact e)
    · have m1' : a ∈ (if k = i ∧ i < s.length then F else Fs k) := m1
      have m2' : a ∈ (if j = i ∧ i < s.length then F else Fs j) := m2
      by_cases c1 : k = i ∧ i < s.length
      · by_cases c2 : j = i ∧ i < s.length
        · rw [c1.1, c2.1]
        · rw [if_pos c1] at m1'; rw [if_neg c2] at m2'
          exact (f.dis a m1' j m2').elim
      · by_cases c2 : j = i ∧ i < s.length
        · rw [if_neg c1] at m1'; rw [if_pos c2] at m2'
          exact (f.dis a m2' k m1').elim
        · rw [if_neg c1] at m1'; rw [if_neg c2] at m2'
          exact S.dis k j a m1' m2'
    · have m' : a ∈ (if k = i ∧ i < s.length then F else Fs k) := m
      by_cases c : k = i ∧ i < s.length
      · rw [if_pos c] at m'; exact f.nz a m'
      · rw [if_neg c] at m'; exact S.nz k a m'
    · have m' : a ∈ (if k = i ∧ i < s.length then F else Fs k) := m
      by_cases c : k = i ∧ i < s.length
      · rw [if_pos c] at m'; exact f.al a m'
      · rw [if_neg c] at m'; exact S.al k a m'
section
variable {X : Cx} {cm : Str → Option Addr} {A A1 A2 : List Nat} {e : Expr} {es : List Expr} {g : D → Env → Option Env} {gs : List D → Env → Option Env} {pos : Pos}
theorem SG.name (i : Nat) {x : Str} (hN : X.N.Nodup) (hi : X.N[i]? = some x := by rfl) (hx : Loc X.env.scope x := by first | exact .inl rfl | exact .inr rfl) (hf : X.fn x = true ∨ X.env.scope.names.lookup x = some .local := by first | exact .inl rfl | exact .inr rfl) : SG X cm [i] (.Name x pos) (gN i) :=
  ⟨⟨fun pins sh s H v u K I rv h => (pg_name hN hi hx hf).run pins sh s H v u K I rv (by
    obtain ⟨E, Z, r, Fs, d, F, S, o, f, r', hg, k⟩ := h
    cases hg
    exact k _ _ (S.setS i o f))⟩⟩
theorem SGs.nil : SGs X cm [] [] gsNil := ⟨⟨fun pins sh s H vs us K I rv h => pgs_nil.run pins sh s H vs us K I rv (by
    obtain ⟨E, Z, r, Fs, ds, F, S, o, f, r', hg, k⟩ := h
    cases ds with
    | nil =>
      cases hg
      unfold OwnL at o
      exact ⟨o.1, k s Fs ⟨rfl, fun _ _ => rfl, fun _ _ => rfl, fun _ _ m => .inl m, S⟩⟩
    | cons d ds => cases hg)⟩⟩
theorem SGs.cons (h1 : SG X cm A1 e g) (h2 : SGs X cm A2 es gs) (hs : (assignEach (e :: es) X.env).map (·.2) = assign e X.env :: (assignEach es X.env).map (·.2) := by rfl) : SGs X cm (A1 ++ A2) (e :: es) (gsCons g gs) :=
  ⟨⟨fun pins sh s H vs us K I rv h => (pgs_cons h1.run h2.run hs).run pins sh s H vs us K I rv (by
    obtain ⟨E, Z, r, Fs, ds, F, S, o, f, r', hg, k⟩ := h
    cases ds with
    | nil => cases hg
    | cons d ds =>
      obtain ⟨v, ws, F1, F2, rfl, rfl, o1, o2, dj⟩ := o.cases
      have hg' : (g d r).bind (fun r1 => gs ds r1) = some r' := hg
      cases q : g d r with
      | none => rw [q] at hg'; cases hg'
      | some r1 =>
        rw [q] at hg'
        refine ⟨v, ws, rfl, E, Z, r, Fs, d, F1, S, o1, ⟨fun a m => f.nz a (List.mem_append_left _ m), fun a m => f.al a (List.mem_append_left _ m), fun a m => f.dis a (List.mem_append_left _ m)⟩, r1, q, fun s1 Fs1 T1 => ?_⟩
        refine ⟨E, Z, r1, Fs1, ds, F2, T1.sr, o2, ⟨fun a m => f.nz a (List.mem_append_right _ m), fun a m => f.al a (List.mem_append_right _ m), fun a m k z => ?_⟩, r', hg', fun s2 Fs2 T2 => k s2 Fs2 ⟨by rw [T2.ln, T1.ln], fun i m => ?_, fun i m => ?_, fun i a m => ?_, T2.sr⟩⟩
        · rcases T1.fw k a z with z | z
          · exact f.dis a (List.mem_append_right _ m) k z
          · exact dj a z m
        · rw [T2.sl i fun z => m (List.mem_append_right _ z), T1.sl i fun z => m (List.mem_append_left _ z)]
        · rw [T2.fs i fun z => m (List.mem_append_right _ z), T1.fs i fun z => m (List.mem_append_left _ z)]
        · rcases T2.fw i a m with z | z
          · exact (T1.fw i a z).elim .inl fun z => .inr (List.mem_append_left _ z)
          · exact .inr (List.mem_append_right _ z))⟩⟩
theorem SG.tup {k n : Nat} (hc : X.calm = true) (h : SGs X cm A es gs) (hn : (assignEach es X.env).length = n := by rfl) (hst : (assignEach es X.env).findIdx? (·.1) = none := by rfl) : SG X cm A (.Tuple es k pos) (gTp n gs) :=
  ⟨⟨fun pins sh s H v u K I rv hh => (pg_tup hc h.run hn hst).run pins sh s H v u K I rv (by
    obtain ⟨E, Z, r, Fs, d, F, S, o, f, r', hg, k⟩ := hh
    cases d with
    | tup ds =>
      obtain ⟨a, vs, rfl, t, l⟩ := Own.tup_iff.mp o
      have hg' : (if ds.length = n then gs ds r else none) = some r' := hg
      by_cases c : ds.length = n
      · rw [if_pos c] at hg'
        exact ⟨a, vs, rfl, t.sq, by rw [l.len]; exact c, E, Z, r, Fs, ds, F, S, l, f, r', hg', k⟩
      · rw [if_neg c] at hg'; cases hg'
    | _ => cases hg)⟩⟩
end

/-! ### list comprehensions -/
abbrev W0 : WX := fun _ _ _ _ => False
structure STs (X : Cx) (cm : Str → Option Addr) (R : List Nat) (ifs : List Expr) (f : Env → Res Bool) : Prop where
  run : PTs X ifs (tTs ⟨X.K, cm⟩ W0 R f)
def tTrue : Env → Res Bool := fun r => .ok true r
theorem STs.nil {X : Cx} {cm : Str → Option Addr} : STs X cm [] [] tTrue := ⟨⟨fun pins sh s H Q I ⟨E, Z, r, Fs, S, p⟩ => pts_nil.run pins sh s H Q I (p Z Fs H Step.refl S)⟩⟩
theorem STs.one {X : Cx} {cm : Str → Option Addr} {R : List Nat} {c : Expr} {f : Env → Res Bool} (h : ST X cm W0 R c f) : STs X cm R [c] f := ⟨pts_one h.run⟩

def wipeE (r : Env) : List Nat → Env
  | [] => r
  | v :: vs => (wipeE r vs).set v none
/-- the slots vs as in r, the others as in r2 -/
def unw (r r2 : Env) : List Nat → Env
  | [] => r2
  | v :: vs => (unw r r2 vs).set v ((r[v]?).getD none)
def pureAt (r : Env) (vs : List Nat) : Bool := vs.all fun v => match r[v]? with
  | some (some d) => d.pure
  | _ => true
def lcGo (g : D → Env → Option Env) (t : Env → Res Bool) (fe : Env → Res D) (vs : List Nat) : List D → Env → List D → Res D
  | [], r, acc => .ok (.lst acc) r
  | d :: ds, r, acc => match g d (wipeE r vs) with
    | none => .bad
    | some r1 => match t r1 with
      | .ok true r2 => match fe r2 with
        | .ok y r3 => if y.pure && decide (acc.length < 16777216) then lcGo g t fe vs ds (unw r r3 vs) (acc ++ [y]) else .bad
        | _ => .bad
      | .ok false r2 => lcGo g t fe vs ds (unw r r2 vs) acc
      | _ => .bad
theorem lcGo_cons (g : D → Env → Option Env) (t : Env → Res Bool) (fe : Env → Res D) (vs : List Nat) (d : D) (ds : List D) (r : Env) (acc : List D) : lcGo g t fe vs (d :: ds) r acc = match g d (wipeE r vs) with
    | none => .bad
    | some r1 => match t r1 with
      | .ok true r2 => match fe r2 with
        | .ok y r3 => if y.pure && decide (acc.length < 16777216) then lcGo g t fe vs ds (unw r r3 vs) (acc ++ [y]) else .bad
        | _ => .bad
      | .ok false r2 => lcGo g t fe vs ds (unw r r2 vs) acc
      | _ => .bad := rfl
def fLc (fi : Env → Res (List D)) (g : D → Env → Option Env) (t : Env → Res Bool) (fe : Env → Res D) (vs : List Nat) : Env → Res D := fun r => (fi r).bind fun ds r1 => if pureAt r1 vs then lcGo g t fe vs ds r1 [] else .bad

theorem wipeE_len (r : Env) : ∀ vs, (wipeE r vs).length = r.length
  | [] => rfl
  | v :: vs => by show ((wipeE r vs).set v none).length = _; rw [List.length_set, wipeE_len r vs]
theorem wipeE_out {r : Env} {i : Nat} : ∀ {vs : List Nat}, i ∉ vs → (wipeE r vs)[i]? = r[i]?
  | [], _ => rfl
  | v :: vs, h => by
    show ((wipeE r vs).set v none)[i]? = _
    rw [List.getElem?_set_ne (fun e => h (by rw [e]; exact List.mem_cons_self))]
    exact wipeE_out fun m => h (List.mem_cons_of_mem _ m)
theorem wipeE_in {r : Env} {i : Nat} {d : D} : ∀ {vs : List Nat}, i ∈ vs → (wipeE r vs)[i]? ≠ some (some d)
  | v :: vs, h, e => by
    have e' : ((wipeE r vs).set v none)[i]? = some (some d) := e
    by_cases c : v = i
    · subst c
      by_cases hl : v < (wipeE r vs).length
      · rw [List.getElem?_set_self hl] at e'; cases e'
      · rw [List.getElem?_eq_none (by rw [List.length_set]; omega)] at e'; cases e'
    · rw [List.getElem?_set_ne c] at e'
      rcases List.mem_cons.mp h with z | z
      · exact c z.symm
      · exact wipeE_in z e'
theorem unw_len (r r2 : Env) : ∀ vs, (unw r r2 vs).length = r2.length
  | [] => rfl
  | v :: vs => by show ((unw r r2 vs).set v _).length = _; rw [List.length_set, unw_len r r2 vs]
theorem unw_out {r r2 : Env} {i : Nat} : ∀ {vs : List Nat}, i ∉ vs → (unw r r2 vs)[i]? = r2[i]?
  | [], _ => rfl
  | v :: vs, h => by
    show ((unw r r2 vs).set v _)[i]? = _
    rw [List.getElem?_set_ne (fun e => h (by rw [e]; exact List.mem_cons_self))]
    exact unw_out fun m => h (List.mem_cons_of_mem _ m)
theorem unw_in {r r2 : Env} {i : Nat} {d : D} : ∀ {vs : List Nat}, i ∈ vs → (unw r r2 vs)[i]? = some (some d) → r[i]? = some (some d)
  | v :: vs, h, e => by
    have e' : ((unw r r2 vs).set v ((r[v]?).getD none))[i]? = some (some d) := e
    by_cases c : v = i
    · subst c
      by_cases hl : v < (unw r r2 vs).length
      · rw [List.getElem?_set_self hl] at e'
        cases q : r[v]? with
        | none => rw [q] at e'; cases e'
        | some o =>
          rw [q] at e'
          exact e'
      · rw [List.getElem?_eq_none (by rw [List.length_set]; omega)] at e'; cases e'
    · rw [List.getElem?_set_ne c] at e'
      rcases List.mem_cons.mp h with z | z
      · exact (c z.symm).elim
      · exact unw_in z e'
theorem wipe_at {s : St} {i : Nat} : ∀ {vs : List Nat}, i ∈ vs → (wipe s vs)[i]? = if i < s.length then some none else none
  | v :: vs, h => by
    show ((wipe s vs).set v none)[i]? = _
    by_cases c : v = i
    · subst c
      by_cases hl : v < s.length
      · rw [if_pos hl, List.getElem?_set_self (by rw [wipe_length]; exact hl)]
      · rw [if_neg hl, List.getElem?_eq_none (by rw [List.length_set, wipe_length]; omega)]
    · rw [List.getElem?_set_ne c]
      rcases List.mem_cons.mp h with z | z
      · exact (c z.symm).elim
      · exact wipe_at z
theorem wipe_same {s s2 : St} {vs : List Nat} (hl : s2.length = s.length) (h : ∀ i, i ∉ vs → s2[i]? = (wipe s vs)[i]?) : wipe s2 vs = wipe s vs := by
  refine List.ext_getElem? fun i => ?_
  by_cases c : i ∈ vs
  · rw [wipe_at c, wipe_at c, hl]
  · rw [wipe_out c]
    exact h i c

section
variable {U : Gd} {E : En} {Z Z1 : AP} {r r2 : Env} {Fs Fs1 : Nat → List Addr} {s s2 : St} {H H1 : Hp} {vs : List Nat}
theorem pureAt_fs (S : SR U E Z r Fs s H) (hp : pureAt r vs = true) : ∀ v ∈ vs, Fs v = [] := fun v m => by
  have h := List.all_eq_true.mp hp v m
  by_cases c : ∃ d, r[v]? = some (some d)
  · obtain ⟨d, e⟩ := c
    rw [e] at h
    obtain ⟨u, _, o⟩ := S.own v d e
    exact o.pureF h
  · exact S.emp v fun d e => c ⟨d, e⟩
theorem SR.wiped (S : SR U E Z r Fs s H) (hp : pureAt r vs = true) : SR U E Z (wipeE r vs) Fs (wipe s vs) H where
  len := by rw [wipeE_len, wipe_length]; exact S.len
  own := fun i d e => by
    by_cases c : i ∈ vs
    · exact (wipeE_in c e).elim
    · rw [wipeE_out c] at e
      rw [wipe_out c]
      exact S.own i d e
  emp := fun i h => by
    by_cases c : i ∈ vs
    · exact pureAt_fs S hp i c
    · exact S.emp i fun d e => h d (by rw [wipeE_out c]; exact e)
  dis := S.dis
  nz := S.nz
  zd := S.zd
  al := S.al
  kp := S.kp
  zi := S.zi
  zo := S.zo
  dm := S.dm
  fr := S.fr
/-- back from the block -/
theorem SR.unwiped (S : SR U E Z r Fs s H) (hp : pureAt r vs = true) (S2 : SR U E Z1 r2 Fs1 s2 H1) (hl : s2.length = s.length) (hs : ∀ i, i ∉ vs → s2[i]? = s[i]?) (hf : ∀ i ∈ vs, Fs1 i = []) (hz : ∀ a, Z a → Z1 a) (k : ∀ a o, Z a → H a = some o → H1 a = some o) :
    SR U E Z1 (unw r r2 vs) Fs1 s H1 where
  len := by rw [unw_len, S2.len, hl]
  own := fun i d e => by
    by_cases c : i ∈ vs
    · have e' := unw_in c e
      obtain ⟨v, e1, o⟩ := S.own i d e'
      refine ⟨v, e1, ?_⟩
      have h0 := pureAt_fs S hp i c
      rw [h0] at o
      rw [hf i c]
      exact o.mono hz fun a u q z => z.elim (fun z => k a u z q) fun z => nomatch z
    · rw [unw_out c] at e
      obtain ⟨v, e1, o⟩ := S2.own i d e
      exact ⟨v, by rw [← hs i c]; exact e1, o⟩
  emp := fun i h => by
    by_cases c : i ∈ vs
    · exact hf i c
    · exact S2.emp i fun d e => h d (by rw [unw_out c]; exact e)
  dis := S2.dis
  nz := S2.nz
  zd := S2.zd
  al := S2.al
  kp := S2.kp
  zi := S2.zi
  zo := S2.zo
  dm := S2.dm
  fr := S2.fr
/-- a thing of ours that no slot holds is changed -/
theorem SR.updO (S : SR U E Z r Fs s H) {p : Addr} (hz : ¬ Z p) (hf : ∀ k, p ∉ Fs k) (ha : E.al p) (o : HO) : SR U E Z r Fs s (upd H p o) where
  len := S.len
  own := fun i d e => by
    obtain ⟨v, e1, w⟩ := S.own i d e
    exact ⟨v, e1, w.mono (fun _ z => z) fun a u q z => by
      rw [upd_ne]
      · exact q
      · rintro rfl
        exact z.elim hz (hf i)⟩
  emp := S.emp
  dis := S.dis
  nz := S.nz
  zd := fun a z => by
    obtain ⟨o', e⟩ := S.zd a z
    exact ⟨o', by rw [upd_ne (fun q => hz (by rw [← q]; exact z))]; exact e⟩
  al := S.al
  kp := fun a u e n => by
    rw [upd_ne (fun q => n (by rw [q]; exact ha))]
    exact S.kp a u e n
  zi := S.zi
  zo := S.zo
  dm := fun a e => by
    by_cases h : a = p
    · subst h; rw [upd_same] at e; cases e
    · rw [upd_ne h] at e; exact S.dm a e
  fr := S.fr
theorem Step.updO {R A : List Nat} (t : Step Z Fs H R A Z1 Fs1 H1) {p : Addr} (hp : H p = none) (o : HO) : Step Z Fs H R A Z1 Fs1 (upd H1 p o) where
  keep := fun a u e n => by rw [upd_ne (ne_of_none e hp)]; exact t.keep a u e n
  zi := t.zi
  zo := t.zo
  dm := fun a e => by
    by_cases h : a = p
    · subst h; exact hp
    · rw [upd_ne h] at e; exact t.dm a e
  fs := t.fs
  fw := t.fw
end

theorem Step.out {Z Z1 : AP} {Fs Fs1 : Nat → List Addr} {H H1 : Hp} {R A : List Nat} {D : Addr} {o : HO} (t : Step Z Fs H R A Z1 Fs1 H1) (h : H D = some o) (nz : ¬ Z D) (nf : ∀ k, D ∉ Fs k) : H1 D = some o ∧ ¬ Z1 D ∧ ∀ k, D ∉ Fs1 k :=
  ⟨t.keep D o h fun j _ => nf j, fun z => by
    rcases t.zo D z with z | z | ⟨k, _, q⟩
    · exact nz z
    · exact some_none h z
    · exact nf k q, fun k m => by
    rcases t.fw k D m with z | z | ⟨k, _, q⟩
    · exact nf _ z
    · exact some_none h z
    · exact nf k q⟩
theorem pureAt_unw {r r2 : Env} {vs : List Nat} (h : pureAt r vs = true) : pureAt (unw r r2 vs) vs = true := by
  refine List.all_eq_true.mpr fun v m => ?_
  cases e : (unw r r2 vs)[v]? with
  | none => rfl
  | some o =>
    cases o with
    | none => rfl
    | some d =>
      have q := List.all_eq_true.mp h v m
      rw [unw_in m e] at q
      exact q
theorem pureL_snoc {xs : List D} {y : D} (h : pureL xs = true) (hy : y.pure = true) : pureL (xs ++ [y]) = true := by
  rw [pureL_append, h]
  show (true && (y.pure && true)) = true
  rw [hy]; rfl
section
variable {U : Gd} {W : WX} {R Rt Re B Be A : List Nat} {fi : Env → Res (List D)} {g : D → Env → Option Env} {t : Env → Res Bool} {fe : Env → Res D} {vs : List Nat}
theorem lc_of (hA : ∀ i ∈ A, i ∈ vs) (nb : ∀ j ∈ Rt ++ Re, j ∉ B) (nv : ∀ j ∈ Rt ++ Re, j ∉ vs) {E : En} {Z : AP} {r : Env} {Fs : Nat → List Addr} {s : St} {H : Hp} {Q : VK} (S : SR U E Z r Fs s H) (p : postE U W E Z Fs H s (R ++ (Rt ++ Re)) [] (fLc fi g t fe vs r) Q) :
    tLc (tIs U W R B fi) (tGt U A g) (tTs U W0 Rt t) (tX U W0 Re Be fe) vs s H Q := by
  refine ⟨E, Z, r, Fs, S, ?_⟩
  unfold fLc at p
  cases q1 : fi r with
  | exc c fs us r1 => rw [q1] at p; exact ExcT.mono (fun j m => List.mem_append_left _ m) (fun _ m => m) p
  | bad => rw [q1] at p; exact p.elim
  | ok ds r1 =>
    rw [q1, Res.bind_ok] at p
    intro Z1 Fs1 H1 J S1 st1 sr1 it hB D hD
    by_cases hp1 : pureAt r1 vs = true
    · rw [if_pos hp1] at p
      refine lc_it it.walk (fun i Hc => ∃ Z' Fs' r' acc us, SR U E Z' r' Fs' s Hc ∧ Step Z1 Fs1 H1 (Rt ++ Re) [] Z' Fs' Hc ∧ Hc D = some (.lst us) ∧ ¬ Z' D ∧ (∀ k, D ∉ Fs' k) ∧ OwnL U Z' Hc acc us [] ∧ pureL acc = true ∧ pureAt r' vs = true ∧
        lcGo g t fe vs ds r1 [] = lcGo g t fe vs (ds.drop i) r' acc) ?_ (fun i Hc _ hP => ?_) (fun i x Hc Hc' hi hP y => ?_) fun Hc hP => ?_
      · have nz : ¬ Z1 D := fun z => by
          obtain ⟨o, e⟩ := sr1.zd D z
          exact some_none e hD
        have nf : ∀ k, D ∉ Fs1 k := fun k m => by
          obtain ⟨o, e⟩ := sr1.dom k D m
          exact some_none e hD
        exact ⟨Z1, Fs1, r1, [], [], sr1.updO nz nf (sr1.fr D (sr1.dm D hD)) _, (Step.refl.mono (fun _ m => nomatch m) fun _ m => m).updO hD _, upd_same, nz, nf, OwnL.nil, rfl, hp1, rfl⟩
      · obtain ⟨Z', Fs', r', acc, us, sr, st, _⟩ := hP
        exact ⟨fun a o sa e => st.keep a o e fun j m z => nb j m (hB a sa j z), fun a o z e => st.keep a o e fun j m q => sr1.nz j a q z⟩
      · obtain ⟨Z', Fs', r', acc, us, sr, st, hDl, nz, nf, ol, pl, pa, el⟩ := hP
        obtain ⟨d, ed, yo⟩ := y Z' st.zi
        -- the item stands
        have step1 : ∃ Z2, SR U E Z2 r' Fs' s Hc' ∧ Step Z' Fs' Hc [] [] Z2 Fs' Hc' ∧ Own U Z2 Hc' d x [] := by
          rcases yo with ⟨rfl, o⟩ | ⟨p0, ob, hp0, rfl, o⟩
          · exact ⟨Z', sr, Step.refl, o⟩
          · exact ⟨_, sr.alloc hp0 _ _, Step.alloc hp0 _ _, o⟩
        obtain ⟨Z2, sr2, t2, o2⟩ := step1
        have ed' : ds.drop i = d :: ds.drop (i + 1) := by
          rw [List.drop_eq_getElem_cons hi]
          rw [List.getElem?_eq_getElem hi] at ed
          cases ed; rfl
        rw [ed'] at el
        obtain ⟨hDl2, nz2, _⟩ := t2.out hDl nz nf
        have srw := sr2.wiped pa
        have fs0 := pureAt_fs sr2 pa
        rw [el] at p
        rw [lcGo_cons] at el p
        cases q2 : g d (wipeE r' vs) with
        | none => simp only [q2] at p; exact p.elim
        | some r3 =>
          simp only [q2] at el p
          refine ⟨E, Z2, wipeE r' vs, Fs', d, [], srw, o2, Fresh.nil, r3, q2, fun s3 Fs3 T => ?_⟩
          have ef3 : Fs3 = Fs' := by
            funext k
            by_cases ck : k ∈ A
            · have h0 := fs0 k (hA k ck)
              have h1 : Fs3 k = [] := by
                cases hk : Fs3 k with
                | nil => rfl
                | cons a l =>
                  rcases T.fw k a (by rw [hk]; exact List.mem_cons_self) with z | z
                  · rw [h0] at z; cases z
                  · cases z
              rw [h0, h1]
            · exact T.fs k ck
          subst ef3
          have hl3 : s3.length = s.length := by rw [T.ln, wipe_length]
          have hs3 : ∀ i, i ∉ vs → s3[i]? = (wipe s vs)[i]? := fun i m => T.sl i fun z => m (hA i z)
          refine ⟨wipe_same hl3 hs3, E, Z2, r3, Fs3, T.sr, ?_⟩
          cases q3 : t r3 with
          | exc c fs us2 r4 => simp only [q3] at p; exact p.elim
          | bad => simp only [q3] at p; exact p.elim
          | ok b r4 =>
            simp only [q3] at el p
            intro Z4 Fs4 H4 t4 sr4
            obtain ⟨hDl4, nz4, nf4⟩ := t4.out hDl2 nz2 nf
            -- what is wanted of the next turn
            have next : ∀ {Z5 : AP} {Fs5 : Nat → List Addr} {H5 : Hp} {r5 : Env}, SR U E Z5 r5 Fs5 s3 H5 → Step Z4 Fs4 H4 Re [] Z5 Fs5 H5 → SR U E Z5 (unw r' r5 vs) Fs5 s H5 ∧ Step Z1 Fs1 H1 (Rt ++ Re) [] Z5 Fs5 H5 ∧ H5 D = some (.lst us) ∧ ¬ Z5 D ∧ (∀ k, D ∉ Fs5 k) ∧ OwnL U Z5 H5 acc us [] := fun {Z5 Fs5 H5 r5} sr5 t5 => by
              obtain ⟨hDl5, nz5, nf5⟩ := t5.out hDl4 nz4 nf4
              have tt := ((st.trans t2).trans t4).trans t5
              have tt' : Step Z1 Fs1 H1 (Rt ++ Re) [] Z5 Fs5 H5 := tt.mono (fun j m => by
                simp only [List.mem_append, List.append_nil] at m ⊢
                rcases m with (m | m) | m
                · exact m
                · exact .inl m
                · exact .inr m) fun j m => by simpa using m
              have ti := (t2.trans t4).trans t5
              have kz : ∀ a o, Z' a → Hc a = some o → H5 a = some o := fun a o z e => ti.keep a o e fun j m q => sr.nz j a q z
              refine ⟨sr.unwiped pa sr5 hl3 (fun i m => by rw [hs3 i m, wipe_out m]) (fun i m => ?_) ti.zi kz, tt', hDl5, nz5, nf5, ol.mono ti.zi fun a o e z => z.elim (fun z => kz a o z e) fun z => nomatch z⟩
              rw [t5.fs i (fun z => nv i (List.mem_append_right _ z) m) (fun z => nomatch z), t4.fs i (fun z => nv i (List.mem_append_left _ z) m) (fun z => nomatch z)]
              exact fs0 i m
            cases b with
            | false =>
              rw [if_neg Bool.false_ne_true]
              obtain ⟨a1, a2, a3, a4, a5, a6⟩ := next sr4 (Step.refl.mono (fun _ m => nomatch m) fun _ m => m)
              exact ⟨Z4, Fs4, _, acc, us, a1, a2, a3, a4, a5, a6, pl, pureAt_unw pa, el⟩
            | true =>
              rw [if_pos rfl]
              refine ⟨E, Z4, r4, Fs4, sr4, ?_⟩
              cases q4 : fe r4 with
              | exc c fs us2 r5 => simp only [q4] at p; exact p.elim
              | bad => simp only [q4] at p; exact p.elim
              | ok y r5 =>
                simp only [q4] at el p
                intro Z5 Fs5 H5 v F ev
                by_cases cy : (y.pure && decide (acc.length < 16777216)) = true
                · rw [if_pos cy] at el
                  rw [Bool.and_eq_true] at cy
                  obtain ⟨a1, a2, a3, a4, a5, a6⟩ := next ev.sr ev.st
                  have e0 := ev.val.own.pureF cy.1
                  subst e0
                  refine ⟨us, a3, by rw [a6.len, sizeLine_eq]; exact of_decide_eq_true cy.2, Z5, Fs5, _, acc ++ [y], us ++ [v], a1.updO a4 a5 (sr1.fr D (sr1.dm D hD)) _, a2.updO hD _, upd_same, a4, a5, ?_, pureL_snoc pl cy.1, pureAt_unw pa, el⟩
                  have oo := OwnL.snoc a6 ev.val.own fun _ m => nomatch m
                  exact oo.mono (fun _ z => z) fun a o e z => z.elim (fun z => by rw [upd_ne (fun q => a4 (by rw [← q]; exact z))]; exact e) fun z => nomatch z
                · rw [if_neg cy] at p; exact p.elim
      · obtain ⟨Z', Fs', r', acc, us, sr, st, hDl, nz, nf, ol, pl, pa, el⟩ := hP
        rw [List.drop_length] at el
        rw [el] at p
        refine p Z' Fs' Hc (.ref D) [D] ⟨st1.trans st, sr, ⟨Own.lst_iff.mpr ⟨D, us, [], rfl, rfl, hDl, (fun m => nomatch m), ol⟩, fun a m z => ?_, fun a m => ?_, fun a m k z => ?_⟩, fun a m => ?_⟩
        · rw [List.mem_singleton.mp m] at z; exact nz z
        · rw [List.mem_singleton.mp m]; exact sr1.fr D (sr1.dm D hD)
        · rw [List.mem_singleton.mp m] at z; exact (nf k z).elim
        · rw [List.mem_singleton.mp m]; exact .inr (.inl (st1.dm D hD))
    · rw [if_neg hp1] at p; exact p.elim
end
section
variable {X : Cx} {cm : Str → Option Addr} {W : WX} {R Rt Re B Be A : List Nat} {elt tg iter : Expr} {ifs : List Expr} {scope : Scope} {own : List (Str × Nat)} {pos : Pos} {fi : Env → Res (List D)} {g : D → Env → Option Env} {t : Env → Res Bool} {fe : Env → Res D}
theorem SX.lc (own : List (Str × Nat)) (hc : X.calm = true) (hN : X.N.Nodup) (hi : SI X cm W R B tg iter fi) (ok : BlkOk X.N X.env.scope scope own)
    (hg : ∀ (s : Shared) (H : Hp) (C : Addr) (cl : List (Str × Addr)) (fp : List Addr), SG (X.blk s H scope (compEnvC scope cl C X.env) fp) cm A tg g)
    (ht : ∀ (s : Shared) (H : Hp) (C : Addr) (cl : List (Str × Addr)) (fp : List Addr), STs (X.blk s H scope (compEnvC scope cl C X.env) fp) cm Rt ifs t)
    (he : ∀ (s : Shared) (H : Hp) (C : Addr) (cl : List (Str × Addr)) (fp : List Addr), SX (X.blk s H scope (compEnvC scope cl C X.env) fp) cm W0 Re Be elt fe)
    (hA : ∀ i ∈ A, i ∈ own.map (·.2)) (nb : ∀ j ∈ Rt ++ Re, j ∉ B) (nv : ∀ j ∈ Rt ++ Re, j ∉ own.map (·.2))
    (hs : ∀ x, foldedSetIterable iter X.env x = Pure.pure x := by intro _; rfl) :
    SX X cm W (R ++ (Rt ++ Re)) [] (.ListComp elt [⟨tg, iter, ifs, 0⟩] scope pos) (fLc fi g t fe (own.map (·.2))) :=
  .of (pe_lc (g := tGt ⟨X.K, cm⟩ A g) (tt := tTs ⟨X.K, cm⟩ W0 Rt t) (te := tX ⟨X.K, cm⟩ W0 Re Be fe) hc hN hi.run ok (fun s H C cl fp => (hg s H C cl fp).run) (fun s H C cl fp => (ht s H C cl fp).run) (fun s H C cl fp => (he s H C cl fp).run) hs) fun E Z r Fs s H Q S p => lc_of hA nb nv S p
end
end DL

set_option Elab.async false
set_option linter.all false
set_option maxRecDepth 100000
namespace DL
open PySem PySem.Spec L2

/-! ### a thing within a thing -/
def D.kids : D → List D
  | .tup xs => xs
  | .lst xs => xs
  | .frz xs => xs
  | .dK _ vs => vs
  | .dT _ vs => vs
  | .ins _ _ vs => vs
  | .obj _ _ vs => vs
  | _ => []
def D.setKid (d : D) (k : Nat) (c : D) : D := match d with
  | .tup xs => .tup (xs.set k c)
  | .lst xs => .lst (xs.set k c)
  | .dK ks vs => .dK ks (vs.set k c)
  | .dT ks vs => .dT ks (vs.set k c)
  | .ins n fs vs => .ins n fs (vs.set k c)
  | d => d
def D.at : D → List Nat → Option D
  | d, [] => some d
  | d, k :: ks => match d.kids[k]? with
    | some c => c.at ks
    | none => none
def D.put : D → List Nat → D → D
  | _, [], c => c
  | d, k :: ks, c => match d.kids[k]? with
    | some e => d.setKid k (e.put ks c)
    | none => d

section
variable {U : Gd} {Z : AP} {H : Hp}
/-- w stands within, with the footprint G; what is put in its place there stands within again -/
def FocL (U : Gd) (Z : AP) (H : Hp) (F : List Addr) (w : V) (G : List Addr) (R : AP → Hp → D → List Addr → Prop) : Prop :=
  (∀ a ∈ G, a ∈ F) ∧ ∀ (Z1 : AP) (H1 : Hp) (c1 : D) (G1 : List Addr), (∀ a, Z a → Z1 a) → (∀ a o, H a = some o → (Z a ∨ a ∈ F) → a ∉ G → H1 a = some o) → Own U Z1 H1 c1 w G1 → (∀ a ∈ G1, a ∈ G ∨ a ∉ F) →
    ∃ F1, R Z1 H1 c1 F1 ∧ ∀ a ∈ F1, (a ∈ F ∧ a ∉ G) ∨ a ∈ G1
theorem OwnL.focus : ∀ {ds : List D} {vs : List V} {F : List Addr} {k : Nat} {c : D}, OwnL U Z H ds vs F → ds[k]? = some c → (∀ a, a ∈ F → ¬ Z a) → ∃ w G, vs[k]? = some w ∧ Own U Z H c w G ∧ FocL U Z H F w G fun Z1 H1 c1 F1 => OwnL U Z1 H1 (ds.set k c1) vs F1
  | [], _, _, _, _, _, e, _ => by cases e
  | d0 :: ds, vs, F, 0, c, h, e, nz => by
    obtain ⟨v, us, F1, F2, rfl, rfl, o1, o2, d1⟩ := h.cases
    cases e
    refine ⟨v, F1, rfl, o1, fun a m => List.mem_append_left _ m, fun Z1 H1 c1 G1 hz k o sub => ⟨G1 ++ F2, OwnL.cons o (o2.mono hz fun a o e z => ?_) fun a m q => ?_, fun a m => ?_⟩⟩
    · rcases z with z | z
      · exact k a o e (.inl z) fun q => nz a (List.mem_append_left _ q) z
      · exact k a o e (.inr (List.mem_append_right _ z)) fun q => d1 a q z
    · rcases sub a m with z | z
      · exact d1 a z q
      · exact z (List.mem_append_right _ q)
    · rcases List.mem_append.mp m with m | m
      · exact .inr m
      · exact .inl ⟨List.mem_append_right _ m, fun q => d1 a q m⟩
  | d0 :: ds, vs, F, k + 1, c, h, e, nz => by
    obtain ⟨v, us, F1, F2, rfl, rfl, o1, o2, d1⟩ := h.cases
    obtain ⟨w, G, e', o, sub, re⟩ := OwnL.focus (k := k) (c := c) o2 (by simpa using e) fun a m => nz a (List.mem_append_right _ m)
    refine ⟨w, G, by simpa using e', o, fun a m => List.mem_append_right _ (sub a m), fun Z1 H1 c1 G1 hz k o1' sub1 => ?_⟩
    obtain ⟨F3, l3, s3⟩ := re Z1 H1 c1 G1 hz (fun a o e z n => k a o e (z.elim .inl fun z => .inr (List.mem_append_right _ z)) n) o1' fun a m => (sub1 a m).elim .inl fun z => .inr fun q => z (List.mem_append_right _ q)
    refine ⟨F1 ++ F3, OwnL.cons (o1.mono hz fun a o e z => ?_) l3 fun a m q => ?_, fun a m => ?_⟩
    · rcases z with z | z
      · exact k a o e (.inl z) fun q => nz a (List.mem_append_right _ (sub a q)) z
      · exact k a o e (.inr (List.mem_append_left _ z)) fun q => d1 a z (sub a q)
    · rcases s3 a q with z | z
      · exact d1 a m z.1
      · rcases sub1 a z with z | z
        · exact d1 a m (sub a z)
        · exact z (List.mem_append_left _ m)
    · rcases List.mem_append.mp m with m | m
      · exact .inl ⟨List.mem_append_left _ m, fun q => d1 a m (sub a q)⟩
      · rcases s3 a m with z | z
        · exact .inl ⟨List.mem_append_right _ z.1, z.2⟩
        · exact .inr z
/-- the children of a thing: where they are read -/
def kidV (U : Gd) (H : Hp) : D → V → List V → Prop
  | .tup xs, v, vs => ∃ a, v = .ref a ∧ SqT U.K H a vs ∧ vs.length = xs.length
  | .lst _, v, vs => ∃ a, v = .ref a ∧ H a = some (.lst vs)
  | .ins c fs _, v, vs => ∃ a C dx, v = .ref a ∧ U.cm c = some C ∧ H a = some (.ins C dx (fs.zip vs)) ∧ fs.length = vs.length
  | _, _, _ => False
def D.open : D → Bool
  | .tup _ => true
  | .lst _ => true
  | .ins _ _ _ => true
  | _ => false
theorem Own.focus {d : D} {v : V} {F : List Addr} {k : Nat} {c : D} (h : Own U Z H d v F) (ho : d.open = true) (e : d.kids[k]? = some c) (nz : ∀ a, a ∈ F → ¬ Z a) :
    ∃ vs w G, kidV U H d v vs ∧ vs[k]? = some w ∧ Own U Z H c w G ∧ FocL U Z H F w G fun Z1 H1 c1 F1 => Own U Z1 H1 (d.setKid k c1) v F1 := by
  cases d with
  | tup xs =>
    obtain ⟨a, vs, rfl, t, l⟩ := Own.tup_iff.mp h
    obtain ⟨w, G, e1, o, sub, re⟩ := l.focus e nz
    refine ⟨vs, w, G, ⟨a, rfl, t.sq, l.len⟩, e1, o, sub, fun Z1 H1 c1 G1 hz k o1 s1 => ?_⟩
    obtain ⟨F3, l3, s3⟩ := re Z1 H1 c1 G1 hz k o1 s1
    exact ⟨F3, Own.tup_iff.mpr ⟨a, vs, rfl, t.mono hz fun b u q z => k b u q (.inl z) fun m => nz b (sub b m) z, l3⟩, s3⟩
  | lst xs =>
    obtain ⟨a, vs, G0, rfl, rfl, t, na, l⟩ := Own.lst_iff.mp h
    obtain ⟨w, G, e1, o, sub, re⟩ := l.focus e fun b m => nz b (List.mem_cons_of_mem _ m)
    refine ⟨vs, w, G, ⟨a, rfl, t⟩, e1, o, fun b m => List.mem_cons_of_mem _ (sub b m), fun Z1 H1 c1 G1 hz k o1 s1 => ?_⟩
    obtain ⟨F3, l3, s3⟩ := re Z1 H1 c1 G1 hz (fun b u q z n => k b u q (z.elim .inl fun z => .inr (List.mem_cons_of_mem _ z)) n) o1 fun b m => (s1 b m).elim .inl fun z => .inr fun q => z (List.mem_cons_of_mem _ q)
    refine ⟨a :: F3, Own.lst_iff.mpr ⟨a, vs, F3, rfl, rfl, k a _ t (.inr List.mem_cons_self) fun m => na (sub a m), fun m => ?_, l3⟩, fun b m => ?_⟩
    · rcases s3 a m with z | z
      · exact na z.1
      · rcases s1 a z with z | z
        · exact na (sub a z)
        · exact z List.mem_cons_self
    · rcases List.mem_cons.mp m with rfl | m
      · exact .inl ⟨List.mem_cons_self, fun q => na (sub b q)⟩
      · rcases s3 b m with z | z
        · exact .inl ⟨List.mem_cons_of_mem _ z.1, z.2⟩
        · exact .inr z
  | ins n fs xs =>
    unfold Own at h
    obtain ⟨a, C, dx, vs, G0, rfl, rfl, ec, t, na, el, l⟩ := h
    obtain ⟨w, G, e1, o, sub, re⟩ := l.focus e fun b m => nz b (List.mem_cons_of_mem _ m)
    refine ⟨vs, w, G, ⟨a, C, dx, rfl, ec, t, el⟩, e1, o, fun b m => List.mem_cons_of_mem _ (sub b m), fun Z1 H1 c1 G1 hz k o1 s1 => ?_⟩
    obtain ⟨F3, l3, s3⟩ := re Z1 H1 c1 G1 hz (fun b u q z n => k b u q (z.elim .inl fun z => .inr (List.mem_cons_of_mem _ z)) n) o1 fun b m => (s1 b m).elim .inl fun z => .inr fun q => z (List.mem_cons_of_mem _ q)
    refine ⟨a :: F3, ?_, fun b m => ?_⟩
    · show Own U Z1 H1 (.ins n fs (xs.set _ c1)) (.ref a) (a :: F3)
      unfold Own
      refine ⟨a, C, dx, vs, F3, rfl, rfl, ec, k a _ t (.inr List.mem_cons_self) fun m => na (sub a m), fun m => ?_, el, l3⟩
      rcases s3 a m with z | z
      · exact na z.1
      · rcases s1 a z with z | z
        · exact na (sub a z)
        · exact z List.mem_cons_self
    · rcases List.mem_cons.mp m with rfl | m
      · exact .inl ⟨List.mem_cons_self, fun q => na (sub b q)⟩
      · rcases s3 b m with z | z
        · exact .inl ⟨List.mem_cons_of_mem _ z.1, z.2⟩
        · exact .inr z
  | _ => cases ho
/-- along a path -/
structure Foc (U : Gd) (Z : AP) (H : Hp) (F : List Addr) (d0 : D) (v0 : V) (ks : List Nat) (w : V) (c : D) (G : List Addr) : Prop where
  own : Own U Z H c w G
  foc : FocL U Z H F w G fun Z1 H1 c1 F1 => Own U Z1 H1 (d0.put ks c1) v0 F1
theorem Foc.here {d : D} {v : V} {F : List Addr} (h : Own U Z H d v F) : Foc U Z H F d v [] v d F :=
  ⟨h, fun _ m => m, fun Z1 H1 c1 G1 hz k o1 s1 => ⟨G1, o1, fun a m => .inr m⟩⟩
theorem at_snoc : ∀ {ks : List Nat} {d c e : D} {k : Nat}, d.at ks = some c → c.kids[k]? = some e → d.at (ks ++ [k]) = some e
  | [], d, c, e, k, h, q => by
    cases h
    show (match d.kids[k]? with | some c => c.at [] | none => none) = _
    rw [q] <;> rfl
  | j :: ks, d, c, e, k, h, q => by
    have h' : (match d.kids[j]? with | some c => c.at ks | none => none) = some c := h
    show (match d.kids[j]? with | some c => c.at (ks ++ [k]) | none => none) = some e
    cases ej : d.kids[j]? with
    | none => rw [ej] at h'; cases h'
    | some b => rw [ej] at h'; exact at_snoc (ks := ks) h' q
theorem put_snoc : ∀ {ks : List Nat} {d c x e : D} {k : Nat}, d.at ks = some c → c.kids[k]? = some e → d.put (ks ++ [k]) x = d.put ks (c.setKid k x)
  | [], d, c, x, e, k, h, q => by
    cases h
    show (match d.kids[k]? with | some e => d.setKid k (e.put [] x) | none => d) = _
    rw [q] <;> rfl
  | j :: ks, d, c, x, e, k, h, q => by
    have h' : (match d.kids[j]? with | some c => c.at ks | none => none) = some c := h
    show (match d.kids[j]? with | some e => d.setKid j (e.put (ks ++ [k]) x) | none => d) = (match d.kids[j]? with | some e => d.setKid j (e.put ks (c.setKid k x)) | none => d)
    cases ej : d.kids[j]? with
    | none => rfl
    | some b =>
      rw [ej] at h'
      show d.setKid j (b.put (ks ++ [k]) x) = d.setKid j (b.put ks (c.setKid k x))
      rw [put_snoc (ks := ks) h' q]
theorem Foc.kid {F : List Addr} {d0 c e : D} {v0 w : V} {ks : List Nat} {G : List Addr} {k : Nat} (f : Foc U Z H F d0 v0 ks w c G) (ha : d0.at ks = some c) (ho : c.open = true) (he : c.kids[k]? = some e) (nz : ∀ a, a ∈ F → ¬ Z a) :
    ∃ vs w2 G2, kidV U H c w vs ∧ vs[k]? = some w2 ∧ Foc U Z H F d0 v0 (ks ++ [k]) w2 e G2 ∧ d0.at (ks ++ [k]) = some e := by
  obtain ⟨vs, w2, G2, kv, e2, o2, sub2, re2⟩ := f.own.focus ho he fun a m => nz a (f.foc.1 a m)
  refine ⟨vs, w2, G2, kv, e2, ⟨o2, fun a m => f.foc.1 a (sub2 a m), fun Z1 H1 c1 G1 hz k1 o1 s1 => ?_⟩, at_snoc ha he⟩
  obtain ⟨F3, o3, s3⟩ := re2 Z1 H1 c1 G1 hz (fun a o e z n => k1 a o e (z.elim .inl fun z => .inr (f.foc.1 a z)) n) o1 fun a m => (s1 a m).elim .inl fun z => .inr fun q => z (f.foc.1 a q)
  obtain ⟨F4, o4, s4⟩ := f.foc.2 Z1 H1 _ F3 hz (fun a o e z n => k1 a o e z fun q => n (sub2 a q)) o3 fun a m => by
    rcases s3 a m with z | z
    · exact .inl z.1
    · exact (s1 a z).elim (fun z => .inl (sub2 a z)) .inr
  refine ⟨F4, (by show Own U Z1 H1 (d0.put (ks ++ [k]) c1) v0 F4; rw [put_snoc ha he]; exact o4), fun a m => ?_⟩
  rcases s4 a m with z | z
  · exact .inl ⟨z.1, fun q => z.2 (sub2 a q)⟩
  · rcases s3 a z with z | z
    · exact .inl ⟨f.foc.1 a z.1, z.2⟩
    · exact .inr z
end
theorem Foc.step {U : Gd} {Z Z1 : AP} {H H1 : Hp} {F : List Addr} {d0 c : D} {v0 w : V} {ks : List Nat} {G : List Addr} (f : Foc U Z H F d0 v0 ks w c G) (hz : ∀ a, Z a → Z1 a) (k : ∀ a o, H a = some o → (Z a ∨ a ∈ F) → H1 a = some o) : Foc U Z1 H1 F d0 v0 ks w c G :=
  ⟨f.own.mono hz fun a o e z => k a o e (z.elim .inl fun z => .inr (f.foc.1 a z)), f.foc.1, fun Z2 H2 c1 G1 hz2 k2 o1 s1 => f.foc.2 Z2 H2 c1 G1 (fun a z => hz2 a (hz a z)) (fun a o e z n => k2 a o (k a o e z) (z.elim (fun z => .inl (hz a z)) .inr) n) o1 s1⟩

theorem SR.mut {U : Gd} {E : En} {Z : AP} {r : Env} {Fs : Nat → List Addr} {s : St} {H H2 : Hp} (S : SR U E Z r Fs s H) {i : Nat} {d0 d1 : D} {v0 : V} {F1 : List Addr} (hr : r[i]? = some (some d0)) (h0 : s[i]? = some (some v0)) (k : ∀ a o, H a = some o → a ∉ Fs i → H2 a = some o) (dm : ∀ a, H2 a = none → H a = none)
    (o : Own U Z H2 d1 v0 F1) (f : ∀ a ∈ F1, a ∈ Fs i ∨ (¬ Z a ∧ E.al a ∧ ∀ k, a ∉ Fs k)) : SR U E Z (r.set i (some d1)) (fun k => if k = i then F1 else Fs k) s H2 where
  len := by rw [List.length_set]; exact S.len
  own := fun j d e => by
    show ∃ v, s[j]? = some (some v) ∧ Own U Z H2 d v (if j = i then F1 else Fs j)
    by_cases c : j = i
    · subst c
      rw [List.getElem?_set_self (List.getElem?_eq_some_iff.mp hr).1] at e
      cases e
      rw [if_pos rfl]
      exact ⟨v0, h0, o⟩
    · rw [List.getElem?_set_ne (Ne.symm c)] at e
      rw [if_neg c]
      obtain ⟨v, e1, w⟩ := S.own j d e
      exact ⟨v, e1, w.mono (fun _ z => z) fun a u q z => k a u q fun m => z.elim (S.nz i a m) fun z => c (S.dis j i a z m)⟩
  emp := fun j h => by
    show (if j = i then F1 else Fs j) = []
    by_cases c : j = i
    · subst c
      exact absurd (List.getElem?_set_self (List.getElem?_eq_some_iff.mp hr).1) (h d1)
    · rw [if_neg c]
      exact S.emp j fun d e => h d (by rw [List.getElem?_set_ne (Ne.symm c)]; exact e)
  dis := fun j l a m1 m2 => by
    have m1' : a ∈ (if j = i then F1 else Fs j) := m1
    have m2' : a ∈ (if l = i then F1 else Fs l) := m2
    by_cases c1 : j = i
    · by_cases c2 : l = i
      · rw [c1, c2]
      · rw [if_pos c1] at m1'; rw [if_neg c2] at m2'
        rcases f a m1' with z | z
        · exact (c2 (S.dis l i a m2' z)).elim
        · exact (z.2.2 l m2').elim
    · by_cases c2 : l = i
      · rw [if_neg c1] at m1'; rw [if_pos c2] at m2'
        rcases f a m2' with z | z
        · exact (c1 (S.dis j i a m1' z)).elim
        · exact (z.2.2 j m1').elim
      · rw [if_neg c1] at m1'; rw [if_neg c2] at m2'
        exact S.dis j l a m1' m2'
  nz := fun j a m => by
    have m' : a ∈ (if j = i then F1 else Fs j) := m
    by_cases c : j = i
    · rw [if_pos c] at m'
      exact (f a m').elim (S.nz i a) fun z => z.1
    · rw [if_neg c] at m'; exact S.nz j a m'
  zd := fun a z => by
    obtain ⟨u, e⟩ := S.zd a z
    exact ⟨u, k a u e fun m => S.nz i a m z⟩
  al := fun j a m => by
    have m' : a ∈ (if j = i then F1 else Fs j) := m
    by_cases c : j = i
    · rw [if_pos c] at m'
      exact (f a m').elim (S.al i a) fun z => z.2.1
    · rw [if_neg c] at m'; exact S.al j a m'
  kp := fun a u e n => k a u (S.kp a u e n) fun m => n (S.al i a m)
  zi := S.zi
  zo := S.zo
  dm := fun a e => S.dm a (dm a e)
  fr := S.fr

/-! ### places -/
def tPl (U : Gd) (i : Nat) (pf : Env → Option (List Nat)) : TE := fun s H Q => ∃ E Z r Fs, SR U E Z r Fs s H ∧ ∃ ks d0 c v0, pf r = some ks ∧ r[i]? = some (some d0) ∧ d0.at ks = some c ∧ s[i]? = some (some v0) ∧ ∀ w G, Foc U Z H (Fs i) d0 v0 ks w c G → Q w H
structure SPl (X : Cx) (cm : Str → Option Addr) (i : Nat) (e : Expr) (pf : Env → Option (List Nat)) : Prop where
  run : PE X e (tPl ⟨X.K, cm⟩ i pf)
def tQy (U : Gd) (q : Env → Option Int) : TE := fun s H Q => ∃ E Z r Fs, SR U E Z r Fs s H ∧ ∃ k, q r = some k ∧ Q (.int k) H
structure SQ (X : Cx) (cm : Str → Option Addr) (e : Expr) (q : Env → Option Int) : Prop where
  run : PE X e (tQy ⟨X.K, cm⟩ q)
def qC (k : Int) : Env → Option Int := fun _ => some k
def qV (i : Nat) : Env → Option Int := fun r => match r[i]? with
  | some (some (.int k)) => some k
  | _ => none
def qAdd (a b : Env → Option Int) : Env → Option Int := fun r => match a r, b r with
  | some i, some j => some (i + j)
  | _, _ => none
def qSub (a b : Env → Option Int) : Env → Option Int := fun r => match a r, b r with
  | some i, some j => some (i - j)
  | _, _ => none
def pR : Env → Option (List Nat) := fun _ => some []
def seqLen : D → Option Nat
  | .lst xs => some xs.length
  | .tup xs => some xs.length
  | _ => none
def pIx (i : Nat) (pf : Env → Option (List Nat)) (q : Env → Option Int) : Env → Option (List Nat) := fun r => match pf r, q r, r[i]? with
  | some ks, some k, some (some d0) => match d0.at ks with
    | some c => match seqLen c with
      | some n => match ixN n k with
        | some j => some (ks ++ [j])
        | none => none
      | none => none
    | none => none
  | _, _, _ => none
section
variable {X : Cx} {cm : Str → Option Addr} {W : WX} {i : Nat} {e b : Expr} {pf : Env → Option (List Nat)} {q q2 : Env → Option Int} {pos : Pos}
theorem SQ.int {k : Int} {j : Nat} : SQ X cm (.Constant (.int k) j pos) (qC k) := ⟨⟨fun pins sh s H Q I ⟨E, Z, r, Fs, S, k, hq, h⟩ => pe_int.run pins sh s H Q I (by cases hq; exact h)⟩⟩
theorem SQ.neg {k : Int} {j : Nat} {p : Pos} : SQ X cm (.UnaryOp .USub (.Constant (.int k) j p) pos) (qC (-k)) := ⟨⟨fun pins sh s H Q I ⟨E, Z, r, Fs, S, k, hq, h⟩ => (pe_un un_neg pe_int).run pins sh s H Q I ⟨_, rfl, by cases hq; exact h⟩⟩⟩
theorem SQ.var (i : Nat) {x : Str} (hN : X.N[i]? = some x := by rfl) (hv : Vis X.env.scope x := by first | exact Or.inl rfl | exact Or.inr (Or.inl rfl) | exact Or.inr (Or.inr rfl)) (hd : (x == ("__debug__" : Str)) = false := by decide)
    (hcd : (x == ("__classdict__" : Str)) = false := by decide) : SQ X cm (.Name x pos) (qV i) := ⟨⟨fun pins sh s H Q I ⟨E, Z, r, Fs, S, k, hq, h⟩ => (pe_var hN hv hd hcd).run pins sh s H Q I (by
    unfold qV at hq
    split at hq
    · rename_i k' e
      cases hq
      obtain ⟨v, e1, o⟩ := S.own i _ e
      obtain ⟨rfl, _⟩ := Own.int_iff.mp o
      exact ⟨_, e1, h⟩
    · cases hq)⟩⟩
theorem SQ.add (h1 : SQ X cm e q) (h2 : SQ X cm b q2) : SQ X cm (.BinOp e .Add b pos) (qAdd q q2) := ⟨⟨fun pins sh s H Q I ⟨E, Z, r, Fs, S, k, hq, h⟩ => (pe_op op_add h1.run h2.run).run pins sh s H Q I (by
    unfold qAdd at hq
    split at hq
    · rename_i i j e1 e2
      cases hq
      exact ⟨E, Z, r, Fs, S, i, e1, E, Z, r, Fs, S, j, e2, i, j, rfl, rfl, h⟩
    · cases hq)⟩⟩
theorem SQ.sub (h1 : SQ X cm e q) (h2 : SQ X cm b q2) : SQ X cm (.BinOp e .Sub b pos) (qSub q q2) := ⟨⟨fun pins sh s H Q I ⟨E, Z, r, Fs, S, k, hq, h⟩ => (pe_op op_sub h1.run h2.run).run pins sh s H Q I (by
    unfold qSub at hq
    split at hq
    · rename_i i j e1 e2
      cases hq
      exact ⟨E, Z, r, Fs, S, i, e1, E, Z, r, Fs, S, j, e2, i, j, rfl, rfl, h⟩
    · cases hq)⟩⟩
theorem SPl.root (i : Nat) {x : Str} (hN : X.N[i]? = some x := by rfl) (hv : Vis X.env.scope x := by first | exact Or.inl rfl | exact Or.inr (Or.inl rfl) | exact Or.inr (Or.inr rfl)) (hd : (x == ("__debug__" : Str)) = false := by decide)
    (hcd : (x == ("__classdict__" : Str)) = false := by decide) : SPl X cm i (.Name x pos) pR := ⟨⟨fun pins sh s H Q I ⟨E, Z, r, Fs, S, ks, d0, c, v0, hp, hr, ha, hs, h⟩ => (pe_var hN hv hd hcd).run pins sh s H Q I (by
    cases hp
    cases ha
    obtain ⟨v, e1, o⟩ := S.own i _ hr
    rw [hs] at e1
    cases e1
    exact ⟨_, hs, h _ _ (.here o)⟩)⟩⟩
theorem pIx_some {r : Env} {ks : List Nat} (h : pIx i pf q r = some ks) : ∃ ks0 k d0 c n j, pf r = some ks0 ∧ q r = some k ∧ r[i]? = some (some d0) ∧ d0.at ks0 = some c ∧ seqLen c = some n ∧ ixN n k = some j ∧ ks = ks0 ++ [j] := by
  unfold pIx at h
  split at h
  · rename_i ks0 k d0 e1 e2 e3
    cases e4 : d0.at ks0 with
    | none => rw [e4] at h; cases h
    | some c =>
      simp only [e4] at h
      cases e5 : seqLen c with
      | none => rw [e5] at h; cases h
      | some n =>
        simp only [e5] at h
        cases e6 : ixN n k with
        | none => rw [e6] at h; cases h
        | some j =>
          simp only [e6] at h
          cases h
          exact ⟨ks0, k, d0, c, n, j, e1, e2, e3, e4, e5, e6, rfl⟩
  · cases h
theorem SPl.ix (ho : SPl X cm i e pf) (hb : SQ X cm b q) (hs : PlainIx b := by intro _ _; rfl) : SPl X cm i (.Subscript e b pos) (pIx i pf q) := ⟨⟨fun pins sh s H Q I ⟨E, Z, r, Fs, S, ks, d0, c, v0, hp, hr, ha, hs0, h⟩ => (pe_ix ix_seq ho.run hb.run hs).run pins sh s H Q I (by
    obtain ⟨ks0, k, d1, c1, n, j, e1, e2, e3, e4, e5, e6, rfl⟩ := pIx_some hp
    rw [hr] at e3
    cases e3
    refine ⟨E, Z, r, Fs, S, ks0, d0, c1, v0, e1, hr, e4, hs0, fun w G F => ?_⟩
    refine ⟨E, Z, r, Fs, S, k, e2, ?_⟩
    have hj : j < n := (ixN_seq e6).2.1
    have hc : c1.open = true ∧ c1.kids.length = n := by
      cases c1 <;> first
        | (cases e5; exact ⟨rfl, rfl⟩)
        | cases e5
    have hk : c1.kids[j]? = some (c1.kids[j]'(by rw [hc.2]; exact hj)) := List.getElem?_eq_getElem _
    obtain ⟨vs, w2, G2, kv, ew, F2, ha2⟩ := F.kid e4 hc.1 hk (fun a m => S.nz i a m)
    have hcc : c = c1.kids[j]'(by rw [hc.2]; exact hj) := by
      rw [ha] at ha2
      cases ha2; rfl
    subst hcc
    have hat : vs.length = n → atI vs k = some w2 := fun el => by
      unfold atI
      rw [el, e6]
      exact ew
    cases c1 with
    | tup xs =>
      obtain ⟨a, vs', rfl, t, l⟩ := Own.tup_iff.mp F.own
      obtain ⟨a', ea, sq, el⟩ := kv
      cases ea
      exact .inr (.inl ⟨a, vs, k, w2, rfl, rfl, sq, hat (by rw [el]; exact hc.2), h w2 G2 F2⟩)
    | lst xs =>
      obtain ⟨a, vs', G', rfl, _, t, _, l⟩ := Own.lst_iff.mp F.own
      obtain ⟨a', ea, sq⟩ := kv
      cases ea
      rw [t] at sq
      cases sq
      exact .inl ⟨a, vs, k, w2, rfl, rfl, .of t, hat (by rw [l.len]; exact hc.2), h w2 G2 F2⟩
    | _ => cases e5)⟩⟩
end
end DL

set_option Elab.async false
set_option linter.all false
set_option maxRecDepth 100000
namespace DL
open PySem PySem.Spec L2

theorem mut_ev {U : Gd} {E : En} {Z Z1 : AP} {r r1 : Env} {Fs Fs1 : Nat → List Addr} {s : St} {H H1 H2 : Hp} {R : List Nat} {i : Nat} {y d0 d1 : D} {vy v0 : V} {Fy F1 : List Addr} (S : SR U E Z r Fs s H) (e1 : EvR U E Z Fs H R [] Z1 Fs1 H1 s r1 y vy Fy) (hi : i ∉ R) (hr : r1[i]? = some (some d0)) (h0 : s[i]? = some (some v0))
    (k : ∀ a o, H1 a = some o → a ∉ Fs i → H2 a = some o) (dm : ∀ a, H2 a = none → H1 a = none) (o : Own U Z1 H2 d1 v0 F1) (f : ∀ a ∈ F1, a ∈ Fs i ∨ a ∈ Fy) :
    Step Z Fs H (R ++ [i]) [] Z1 (fun k => if k = i then F1 else Fs1 k) H2 ∧ SR U E Z1 (r1.set i (some d1)) (fun k => if k = i then F1 else Fs1 k) s H2 := by
  have ei : Fs1 i = Fs i := e1.st.fs i hi fun m => nomatch m
  refine ⟨⟨fun a o e n => k a o (e1.st.keep a o e fun j m => n j (List.mem_append_left _ m)) (n i (List.mem_append_right _ List.mem_cons_self)), e1.st.zi, fun a z => ?_, fun a e => e1.st.dm a (dm a e), fun j m1 m2 => ?_, fun j a m => ?_⟩,
    e1.sr.mut hr h0 (fun a o e m => k a o e (by rw [← ei]; exact m)) dm o fun a m => ?_⟩
  · rcases e1.st.zo a z with z | z | ⟨j, mj, z⟩
    · exact .inl z
    · exact .inr (.inl z)
    · exact .inr (.inr ⟨j, List.mem_append_left _ mj, z⟩)
  · show (if j = i then F1 else Fs1 j) = Fs j
    rw [if_neg (fun q => m1 (by rw [q]; exact List.mem_append_right _ List.mem_cons_self))]
    exact e1.st.fs j (fun q => m1 (List.mem_append_left _ q)) m2
  · have m' : a ∈ (if j = i then F1 else Fs1 j) := m
    by_cases c : j = i
    · rw [if_pos c] at m'
      rcases f a m' with z | z
      · rw [c]; exact .inl z
      · rcases e1.src a z with ⟨_, q, _⟩ | q | ⟨l, ml, q⟩
        · cases q
        · exact .inr (.inl q)
        · exact .inr (.inr ⟨l, List.mem_append_left _ ml, q⟩)
    · rw [if_neg c] at m'
      rcases e1.st.fw j a m' with z | z | ⟨l, ml, z⟩
      · exact .inl z
      · exact .inr (.inl z)
      · exact .inr (.inr ⟨l, List.mem_append_left _ ml, z⟩)
  · rcases f a m with z | z
    · rw [ei]; exact .inl z
    · exact .inr ⟨e1.val.nz a z, e1.val.al a z, fun k q => nomatch e1.val.dis a z k q⟩

/-- x.append(e) -/
def fApp (i : Nat) (pf : Env → Option (List Nat)) (fe : Env → Res D) : Env → Res D := fun r => match pf r, r[i]? with
  | some ks, some (some d0) => match d0.at ks with
    | some (.lst xs) => (fe r).bind fun y r1 => if xs.length < 16777216 then .ok .non (r1.set i (some (d0.put ks (.lst (xs ++ [y]))))) else .bad
    | _ => .bad
  | _, _ => .bad
/-- x.extend(e) -/
def fExt (i : Nat) (pf : Env → Option (List Nat)) (fe : Env → Res D) : Env → Res D := fun r => match pf r, r[i]? with
  | some ks, some (some d0) => match d0.at ks with
    | some (.lst xs) => (fe r).bind fun y r1 => match y with
      | .lst zs => if pureL zs && decide (xs.length + zs.length ≤ 16777216) then .ok .non (r1.set i (some (d0.put ks (.lst (xs ++ zs))))) else .bad
      | _ => .bad
    | _ => .bad
  | _, _ => .bad
/-- x.pop() -/
def fPop (i : Nat) (pf : Env → Option (List Nat)) : Env → Res D := fun r => match pf r, r[i]? with
  | some ks, some (some d0) => match d0.at ks with
    | some (.lst xs) => match xs[xs.length - 1]? with
      | some y => .ok y (r.set i (some (d0.put ks (.lst xs.dropLast))))
      | none => .bad
    | _ => .bad
  | _, _ => .bad
theorem OwnL.unsnoc {U : Gd} {Z : AP} {H : Hp} : ∀ {ds : List D} {vs : List V} {F : List Addr} {y : D}, OwnL U Z H ds vs F → ds[ds.length - 1]? = some y → ∃ w F1 F2, vs[vs.length - 1]? = some w ∧ OwnL U Z H ds.dropLast vs.dropLast F1 ∧ Own U Z H y w F2 ∧ (∀ a ∈ F1, a ∈ F) ∧ (∀ a ∈ F2, a ∈ F) ∧ ∀ a ∈ F1, a ∉ F2
  | [], _, _, _, _, e => by cases e
  | [d], vs, F, y, h, e => by
    obtain ⟨v, us, F1, F2, rfl, rfl, o1, o2, d1⟩ := h.cases
    cases e
    unfold OwnL at o2
    obtain ⟨rfl, rfl⟩ := o2
    exact ⟨v, [], F1, rfl, OwnL.nil, o1, fun _ m => (nomatch m), fun a m => List.mem_append_left _ m, fun _ m => nomatch m⟩
  | d :: d2 :: ds, vs, F, y, h, e => by
    obtain ⟨v, us, F1, F2, rfl, rfl, o1, o2, d1⟩ := h.cases
    have e' : (d2 :: ds)[(d2 :: ds).length - 1]? = some y := by
      rw [← e]
      show (d2 :: ds)[ds.length + 1 - 1]? = (d :: d2 :: ds)[ds.length + 1 + 1 - 1]?
      simp
    obtain ⟨w, G1, G2, ew, l, oy, s1, s2, dj⟩ := OwnL.unsnoc o2 e'
    have hl := o2.len
    cases us with
    | nil => cases hl
    | cons u us =>
      refine ⟨w, F1 ++ G1, G2, ?_, OwnL.cons o1 l fun a m q => d1 a m (s1 a q), oy, fun a m => ?_, fun a m => List.mem_append_right _ (s2 a m), fun a m q => ?_⟩
      · rw [← ew]
        show (v :: u :: us)[us.length + 1 + 1 - 1]? = (u :: us)[us.length + 1 - 1]?
        simp
      · exact (List.mem_append.mp m).elim (fun m => List.mem_append_left _ m) fun m => List.mem_append_right _ (s1 a m)
      · rcases List.mem_append.mp m with m | m
        · exact d1 a m (s2 a q)
        · exact dj a m q
section
variable {X : Cx} {cm : Str → Option Addr} {W : WX} {R : List Nat} {i : Nat} {o e : Expr} {pf : Env → Option (List Nat)} {fe : Env → Res D} {apos cpos : Pos}
theorem fApp_shape {r : Env} {Q : Res D → Prop} (hb : ¬ Q .bad) (h : Q (fApp i pf fe r)) : ∃ ks d0 xs, pf r = some ks ∧ r[i]? = some (some d0) ∧ d0.at ks = some (.lst xs) ∧ Q ((fe r).bind fun y r1 => if xs.length < 16777216 then .ok .non (r1.set i (some (d0.put ks (.lst (xs ++ [y]))))) else .bad) := by
  unfold fApp at h
  split at h
  · rename_i ks d0 e1 e2
    split at h
    · rename_i xs e3
      exact ⟨ks, d0, xs, e1, e2, e3, h⟩
    · exact (hb h).elim
  · exact (hb h).elim
theorem fExt_shape {r : Env} {Q : Res D → Prop} (hb : ¬ Q .bad) (h : Q (fExt i pf fe r)) : ∃ ks d0 xs, pf r = some ks ∧ r[i]? = some (some d0) ∧ d0.at ks = some (.lst xs) ∧ Q ((fe r).bind fun y r1 => match y with
      | .lst zs => if pureL zs && decide (xs.length + zs.length ≤ 16777216) then .ok .non (r1.set i (some (d0.put ks (.lst (xs ++ zs))))) else .bad
      | _ => .bad) := by
  unfold fExt at h
  split at h
  · rename_i ks d0 e1 e2
    split at h
    · rename_i xs e3
      exact ⟨ks, d0, xs, e1, e2, e3, h⟩
    · exact (hb h).elim
  · exact (hb h).elim
theorem fPop_shape {r : Env} {Q : Res D → Prop} (hb : ¬ Q .bad) (h : Q (fPop i pf r)) : ∃ ks d0 xs y, pf r = some ks ∧ r[i]? = some (some d0) ∧ d0.at ks = some (.lst xs) ∧ xs[xs.length - 1]? = some y ∧ Q (.ok y (r.set i (some (d0.put ks (.lst xs.dropLast))))) := by
  unfold fPop at h
  split at h
  · rename_i ks d0 e1 e2
    split at h
    · rename_i xs e3
      split at h
      · rename_i y e4
        exact ⟨ks, d0, xs, y, e1, e2, e3, e4, h⟩
      · exact (hb h).elim
    · exact (hb h).elim
  · exact (hb h).elim
/-- a place, held through a step that does not touch its root -/
theorem Foc.thru {U : Gd} {E : En} {Z Z1 : AP} {r : Env} {Fs Fs1 : Nat → List Addr} {s : St} {H H1 : Hp} {A : List Nat} {d0 c : D} {v0 w : V} {ks : List Nat} {G : List Addr} (f : Foc U Z H (Fs i) d0 v0 ks w c G) (S : SR U E Z r Fs s H) (t : Step Z Fs H R A Z1 Fs1 H1) (hi : i ∉ R) : Foc U Z1 H1 (Fs i) d0 v0 ks w c G :=
  f.step t.zi fun a o e z => t.keep a o e fun j m q => z.elim (S.nz j a q) fun z => hi (by rw [S.dis i j a z q]; exact m)
theorem SX.append (ho : SPl X cm i o pf) (he : SX X cm W R [] e fe) (hi : i ∉ R) (pr : ∀ r y r1, fe r = .ok y r1 → r1[i]? = r[i]?)
    (hbase : attributeBase o "append" X.env (eval o X.env) = eval o X.env := by rfl)
    (hfew : ((backTo cpos (starEach [e] X.env)).all (fun x => !x.1) && (backToKw cpos (keywordEach [] X.env)).all (fun x => x.1.isSome)
      && decide ([e].length + ([] : List Keyword).length + (if ([] : List Keyword).isEmpty then 0 else 1) < 30)) = true := by rfl)
    (hline : (apos.endLine == cpos.line) = true := by rfl) (hs : starEach [e] X.env = (false, eval e X.env) :: starEach [] X.env := by rfl) (hplain : (backTo cpos (starEach [] X.env)).any (·.1) = false := by rfl) :
    SX X cm W (R ++ [i]) [] (.Call (.Attribute o "append" apos) [e] [] cpos) (fApp i pf fe) :=
  .of (pe_bm PySem.F.plainAttrs_list PySem.F.slot_list_append PySem.F.type_list_append mt_append ho.run (pa_cons he.run pa_nil hs) hbase hfew hline hs hplain) fun E Z r Fs s H Q S p => by
    obtain ⟨ks, d0, xs, e1, e2, e3, p⟩ := fApp_shape (Q := fun x => postE ⟨X.K, cm⟩ W E Z Fs H s (R ++ [i]) [] x Q) (fun z => z) p
    obtain ⟨v0, h0, _⟩ := S.own i d0 e2
    refine ⟨E, Z, r, Fs, S, ks, d0, _, v0, e1, e2, e3, h0, fun w G f => ?_⟩
    obtain ⟨a, vs, G', rfl, rfl, t, na, l⟩ := Own.lst_iff.mp f.own
    refine ⟨.inl ⟨rfl, _, SqL.of t⟩, E, Z, r, Fs, S, bindE p fun y r1 Z1 Fs1 H1 vy Fy q1 ev p1 => ?_⟩
    rw [q1, Res.bind_ok] at p
    by_cases hz : xs.length < 16777216
    · rw [if_pos hz] at p
      have f1 := f.thru S ev.st hi
      obtain ⟨a', vs', G2, ea, eG, t1, na1, l1⟩ := Own.lst_iff.mp f1.own
      cases ea
      cases eG
      have ha : a ∈ Fs i := f1.foc.1 a List.mem_cons_self
      have ei : Fs1 i = Fs i := ev.st.fs i hi fun m => nomatch m
      have nz1 : ¬ Z1 a := ev.sr.nz i a (by rw [ei]; exact ha)
      have nFy : a ∉ Fy := fun m => nomatch ev.val.dis a m i (by rw [ei]; exact ha)
      have up : ∀ b u, H1 b = some u → b ≠ a → upd H1 a (.lst (vs' ++ [vy])) b = some u := fun b u e n => by rw [upd_ne n]; exact e
      refine ⟨a, vs', vy, rfl, rfl, t1, by rw [l1.len, sizeLine_eq]; exact hz, ?_⟩
      have dj : ∀ b ∈ G', b ∉ Fy := fun b m q => nomatch ev.val.dis b q i (by rw [ei]; exact f1.foc.1 b (List.mem_cons_of_mem _ m))
      have o1 : Own ⟨X.K, cm⟩ Z1 (upd H1 a (.lst (vs' ++ [vy]))) (.lst (xs ++ [y])) (.ref a) (a :: (G' ++ Fy)) := Own.lst_iff.mpr ⟨a, _, _, rfl, rfl, upd_same, fun m => (List.mem_append.mp m).elim na1 nFy,
        OwnL.snoc (l1.mono (fun _ z => z) fun b u e z => up b u e fun q => by subst q; exact z.elim nz1 na1) (ev.val.own.mono (fun _ z => z) fun b u e z => up b u e fun q => by subst q; exact z.elim nz1 nFy) dj⟩
      obtain ⟨F1, o2, s2⟩ := f1.foc.2 Z1 _ _ _ (fun _ z => z) (fun b u e _ n => up b u e fun q => n (by rw [q]; exact List.mem_cons_self)) o1 fun b m => by
        rcases List.mem_cons.mp m with rfl | m
        · exact .inl List.mem_cons_self
        · rcases List.mem_append.mp m with m | m
          · exact .inl (List.mem_cons_of_mem _ m)
          · exact .inr fun q => nomatch ev.val.dis b m i (by rw [ei]; exact q)
      obtain ⟨st, sr⟩ := mut_ev (d0 := d0) S ev hi (by rw [pr r y r1 q1]; exact e2) h0 (fun b u e n => up b u e fun q => n (by rw [q]; exact ha)) (fun b e => by
        by_cases hb : b = a
        · subst hb; rw [upd_same] at e; cases e
        · rw [upd_ne hb] at e; exact e) o2 fun b m => by
          rcases s2 b m with z | z
          · exact .inl z.1
          · rcases List.mem_cons.mp z with rfl | z
            · exact .inl ha
            · rcases List.mem_append.mp z with z | z
              · exact .inl (f1.foc.1 b (List.mem_cons_of_mem _ z))
              · exact .inr z
      exact p _ _ _ _ [] ⟨st, sr, .ofPure Own.non rfl, fun _ m => nomatch m⟩
    · rw [if_neg hz] at p; exact p.elim
theorem SX.extend (ho : SPl X cm i o pf) (he : SX X cm W R [] e fe) (hi : i ∉ R) (pr : ∀ r y r1, fe r = .ok y r1 → r1[i]? = r[i]?)
    (hbase : attributeBase o "extend" X.env (eval o X.env) = eval o X.env := by rfl)
    (hfew : ((backTo cpos (starEach [e] X.env)).all (fun x => !x.1) && (backToKw cpos (keywordEach [] X.env)).all (fun x => x.1.isSome)
      && decide ([e].length + ([] : List Keyword).length + (if ([] : List Keyword).isEmpty then 0 else 1) < 30)) = true := by rfl)
    (hline : (apos.endLine == cpos.line) = true := by rfl) (hs : starEach [e] X.env = (false, eval e X.env) :: starEach [] X.env := by rfl) (hplain : (backTo cpos (starEach [] X.env)).any (·.1) = false := by rfl) :
    SX X cm W (R ++ [i]) [] (.Call (.Attribute o "extend" apos) [e] [] cpos) (fExt i pf fe) :=
  .of (pe_bm PySem.F.plainAttrs_list PySem.F.slot_list_extend PySem.F.type_list_extend mt_extend ho.run (pa_cons he.run pa_nil hs) hbase hfew hline hs hplain) fun E Z r Fs s H Q S p => by
    obtain ⟨ks, d0, xs, e1, e2, e3, p⟩ := fExt_shape (Q := fun x => postE ⟨X.K, cm⟩ W E Z Fs H s (R ++ [i]) [] x Q) (fun z => z) p
    obtain ⟨v0, h0, _⟩ := S.own i d0 e2
    refine ⟨E, Z, r, Fs, S, ks, d0, _, v0, e1, e2, e3, h0, fun w G f => ?_⟩
    obtain ⟨a, vs, G', rfl, rfl, t, na, l⟩ := Own.lst_iff.mp f.own
    refine ⟨.inl ⟨rfl, _, SqL.of t⟩, E, Z, r, Fs, S, bindE p fun y r1 Z1 Fs1 H1 vy Fy q1 ev p1 => ?_⟩
    rw [q1, Res.bind_ok] at p
    cases y with
    | lst zs =>
      have p' : postE ⟨X.K, cm⟩ W E Z Fs H s (R ++ [i]) [] (if (pureL zs && decide (xs.length + zs.length ≤ 16777216)) = true then .ok .non (r1.set i (some (d0.put ks (.lst (xs ++ zs))))) else .bad) Q := p
      by_cases hz : (pureL zs && decide (xs.length + zs.length ≤ 16777216)) = true
      · rw [if_pos hz] at p'
        rw [Bool.and_eq_true] at hz
        have f1 := f.thru S ev.st hi
        obtain ⟨a', vs', G2, ea, eG, t1, na1, l1⟩ := Own.lst_iff.mp f1.own
        cases ea
        cases eG
        obtain ⟨b0, ws, G3, rfl, rfl, t3, na3, l3⟩ := Own.lst_iff.mp ev.val.own
        have e0 := l3.pureF hz.1
        subst e0
        have ha : a ∈ Fs i := f1.foc.1 a List.mem_cons_self
        have ei : Fs1 i = Fs i := ev.st.fs i hi fun m => nomatch m
        have nz1 : ¬ Z1 a := ev.sr.nz i a (by rw [ei]; exact ha)
        have up : ∀ b u, H1 b = some u → b ≠ a → upd H1 a (.lst (vs' ++ ws)) b = some u := fun b u e n => by rw [upd_ne n]; exact e
        refine ⟨a, b0, vs', ws, rfl, rfl, t1, t3, by rw [l1.len, l3.len, sizeLine_eq]; exact of_decide_eq_true hz.2, ?_⟩
        have o1 : Own ⟨X.K, cm⟩ Z1 (upd H1 a (.lst (vs' ++ ws))) (.lst (xs ++ zs)) (.ref a) (a :: (G' ++ [])) := Own.lst_iff.mpr ⟨a, _, _, rfl, rfl, upd_same, (fun m => (List.mem_append.mp m).elim na1 (fun m => nomatch m)),
          OwnL.append (l1.mono (fun _ z => z) fun b u e z => up b u e fun q => by subst q; exact z.elim nz1 na1) (l3.mono (fun _ z => z) fun b u e z => up b u e fun q => by subst q; exact z.elim nz1 (fun m => nomatch m)) (fun _ _ m => nomatch m)⟩
        rw [List.append_nil] at o1
        obtain ⟨F1, o2, s2⟩ := f1.foc.2 Z1 _ _ _ (fun _ z => z) (fun b u e _ n => up b u e fun q => n (by rw [q]; exact List.mem_cons_self)) o1 fun b m => .inl m
        obtain ⟨st, sr⟩ := mut_ev (d0 := d0) S ev hi (by rw [pr r _ r1 q1]; exact e2) h0 (fun b u e n => up b u e fun q => n (by rw [q]; exact ha)) (fun b e => by
          by_cases hb : b = a
          · subst hb; rw [upd_same] at e; cases e
          · rw [upd_ne hb] at e; exact e) o2 fun b m => by
            rcases s2 b m with z | z
            · exact .inl z.1
            · exact .inl (f1.foc.1 b z)
        exact p' _ _ _ _ [] ⟨st, sr, .ofPure Own.non rfl, fun _ m => nomatch m⟩
      · rw [if_neg hz] at p'; exact p'.elim
    | _ => exact p.elim
theorem SX.pop (ho : SPl X cm i o pf)
    (hbase : attributeBase o "pop" X.env (eval o X.env) = eval o X.env := by rfl) (hline : (apos.endLine == cpos.line) = true := by rfl) :
    SX X cm W [i] [] (.Call (.Attribute o "pop" apos) [] [] cpos) (fPop i pf) :=
  .of (pe_bm0 PySem.F.plainAttrs_list PySem.F.slot_list_pop PySem.F.type_list_pop mt_pop ho.run hbase hline) fun E Z r Fs s H Q S p => by
    obtain ⟨ks, d0, xs, y, e1, e2, e3, e4, p⟩ := fPop_shape (Q := fun x => postE ⟨X.K, cm⟩ W E Z Fs H s [i] [] x Q) (fun z => z) p
    obtain ⟨v0, h0, _⟩ := S.own i d0 e2
    refine ⟨E, Z, r, Fs, S, ks, d0, _, v0, e1, e2, e3, h0, fun w G f => ?_⟩
    obtain ⟨a, vs, G', rfl, rfl, t, na, l⟩ := Own.lst_iff.mp f.own
    obtain ⟨w, F2, Fy, ew, l2, oy, s2, sy, dj⟩ := l.unsnoc e4
    have ha : a ∈ Fs i := f.foc.1 a List.mem_cons_self
    have nz1 : ¬ Z a := S.nz i a ha
    have up : ∀ b u, H b = some u → b ≠ a → upd H a (.lst vs.dropLast) b = some u := fun b u e n => by rw [upd_ne n]; exact e
    refine ⟨.inl ⟨rfl, _, SqL.of t⟩, a, vs, w, rfl, rfl, t, ew, ?_⟩
    have o1 : Own ⟨X.K, cm⟩ Z (upd H a (.lst vs.dropLast)) (.lst xs.dropLast) (.ref a) (a :: F2) := Own.lst_iff.mpr ⟨a, _, _, rfl, rfl, upd_same, fun m => na (s2 a m),
      l2.mono (fun _ z => z) fun b u e z => up b u e fun q => by subst q; exact z.elim nz1 fun z => na (s2 b z)⟩
    obtain ⟨F1, o2, s3⟩ := f.foc.2 Z _ _ _ (fun _ z => z) (fun b u e _ n => up b u e fun q => n (by rw [q]; exact List.mem_cons_self)) o1 fun b m => by
      rcases List.mem_cons.mp m with rfl | m
      · exact .inl List.mem_cons_self
      · exact .inl (List.mem_cons_of_mem _ (s2 b m))
    have ev0 : EvR ⟨X.K, cm⟩ E Z Fs H [] [] Z Fs H s r .non .non [] := .ofPure S Own.non rfl
    obtain ⟨st, sr⟩ := mut_ev (d0 := d0) S ev0 (fun m => nomatch m) e2 h0 (fun b u e n => up b u e fun q => n (by rw [q]; exact ha)) (fun b e => by
      by_cases hb : b = a
      · subst hb; rw [upd_same] at e; cases e
      · rw [upd_ne hb] at e; exact e) o2 fun b m => by
        rcases s3 b m with z | z
        · exact .inl z.1
        · rcases List.mem_cons.mp z with rfl | z
          · exact .inl ha
          · exact .inl (f.foc.1 b (List.mem_cons_of_mem _ (s2 b z)))
    have yi : ∀ b ∈ Fy, b ∈ Fs i := fun b m => f.foc.1 b (List.mem_cons_of_mem _ (sy b m))
    refine p _ _ _ w Fy ⟨st, sr, ⟨oy.mono (fun _ z => z) fun b u e z => up b u e fun q => by subst q; exact z.elim nz1 fun z => na (sy b z), fun b m => S.nz i b (yi b m), fun b m => S.al i b (yi b m), fun b m k q => ?_⟩, fun b m => .inr (.inr ⟨i, List.mem_singleton.mpr rfl, yi b m⟩)⟩
    have q' : b ∈ (if k = i then F1 else Fs k) := q
    exfalso
    by_cases c : k = i
    · rw [if_pos c] at q'
      rcases s3 b q' with z | z
      · exact z.2 (List.mem_cons_of_mem _ (sy b m))
      · rcases List.mem_cons.mp z with rfl | z
        · exact na (sy b m)
        · exact dj b z m
    · rw [if_neg c] at q'
      exact c (S.dis k i b q' (yi b m))
end
end DL

set_option Elab.async false
set_option linter.all false
set_option maxRecDepth 100000
namespace DL
open PySem PySem.Spec L2

def Res.toS {α : Type} (x : Res α) (k : α → Env → SRes) : SRes := match x with
  | .ok a r => k a r
  | .exc c fs vs r => .exc c fs vs r
  | .bad => .bad
@[simp] theorem Res.toS_ok {α : Type} (a : α) (r : Env) (k : α → Env → SRes) : (Res.ok a r).toS k = k a r := rfl
@[simp] theorem Res.toS_exc {α : Type} (c : Str) (fs : List Str) (vs : List D) (r : Env) (k : α → Env → SRes) : (Res.exc c fs vs r : Res α).toS k = .exc c fs vs r := rfl
@[simp] theorem Res.toS_bad {α : Type} (k : α → Env → SRes) : (Res.bad : Res α).toS k = .bad := rfl
def SRes.seq (x : SRes) (g : Env → SRes) : SRes := match x with
  | .next r => g r
  | .brk r => .brk r
  | .cont r => .cont r
  | .ret d r => .ret d r
  | .exc c fs vs r => .exc c fs vs r
  | .bad => .bad
@[simp] theorem SRes.seq_next (r : Env) (g : Env → SRes) : (SRes.next r).seq g = g r := rfl
@[simp] theorem SRes.seq_ret (d : D) (r : Env) (g : Env → SRes) : (SRes.ret d r).seq g = .ret d r := rfl
@[simp] theorem SRes.seq_brk (r : Env) (g : Env → SRes) : (SRes.brk r).seq g = .brk r := rfl
@[simp] theorem SRes.seq_cont (r : Env) (g : Env → SRes) : (SRes.cont r).seq g = .cont r := rfl
@[simp] theorem SRes.seq_exc (c : Str) (fs : List Str) (vs : List D) (r : Env) (g : Env → SRes) : (SRes.exc c fs vs r).seq g = .exc c fs vs r := rfl
@[simp] theorem SRes.seq_bad (g : Env → SRes) : SRes.bad.seq g = .bad := rfl

section
variable {X : Cx} {cm : Str → Option Addr} {W : WX} {n : Nat} {R R1 R2 R3 A A1 A2 B : List Nat} {e tg c : Expr} {fe : Env → Res D} {st : Stmt} {sts : List Stmt} {f g : Env → SRes} {pos : Pos}
theorem bindES {U : Gd} {E : En} {Z : AP} {Fs : Nat → List Addr} {H : Hp} {s : St} {x : Res D} {k : D → Env → SRes} {Q : Ends} {K : VK} (h : postS U W n E Z Fs H s (R1 ++ R2) A (x.toS k) Q)
    (hk : ∀ d r1 Z1 Fs1 H1 v F, x = .ok d r1 → EvR U E Z Fs H R1 B Z1 Fs1 H1 s r1 d v F → postS U W n E Z1 Fs1 H1 s R2 A (k d r1) Q → K v H1) : postE U W E Z Fs H s R1 B x K := by
  cases x with
  | ok d r1 => exact fun Z' Fs' H' v F e => hk d r1 Z' Fs' H' v F rfl e (postS.shift (A1 := []) e.st (fun _ _ => rfl) h)
  | exc c fs vs r' => exact ExcT.mono (fun j m => List.mem_append_left _ m) (fun _ m => nomatch m) h
  | bad => exact h
theorem bindTS {U : Gd} {E : En} {Z : AP} {Fs : Nat → List Addr} {H : Hp} {s : St} {x : Res Bool} {k : Bool → Env → SRes} {Q : Ends} {K : Bool → Hp → Prop} (h : postS U W n E Z Fs H s (R1 ++ R2) A (x.toS k) Q)
    (hk : ∀ b r1 Z1 Fs1 H1, x = .ok b r1 → Step Z Fs H R1 [] Z1 Fs1 H1 → SR U E Z1 r1 Fs1 s H1 → postS U W n E Z1 Fs1 H1 s R2 A (k b r1) Q → K b H1) : postT U W E Z Fs H s R1 x K := by
  cases x with
  | ok d r1 => exact fun Z' Fs' H' t S => hk d r1 Z' Fs' H' rfl t S (postS.shift (A1 := []) t (fun _ _ => rfl) h)
  | exc c fs vs r' => exact ExcT.mono (fun j m => List.mem_append_left _ m) (fun _ m => nomatch m) h
  | bad => exact h
theorem EvS.here {U : Gd} {E : En} {Z : AP} {r : Env} {Fs : Nat → List Addr} {H : Hp} {s : St} (S : SR U E Z r Fs s H) : EvS U E Z Fs H s R A Z Fs H s r :=
  ⟨Step.refl.mono (fun _ m => nomatch m) (fun _ m => nomatch m), fun _ _ => rfl, S⟩
/-! ### blocks -/
def sNil : Env → SRes := fun r => .next r
def sSeq (f g : Env → SRes) : Env → SRes := fun r => (f r).seq g
theorem SB.nil : SB X cm W n [] [] [] sNil := .of pss_nil fun E Z r Fs s H Q S p => p Z Fs H s (.here S)
theorem SB.cons (h1 : SS X cm W n R1 A1 st f) (h2 : SB X cm W n R2 A2 sts g) : SB X cm W n (R1 ++ R2) (A1 ++ A2) (st :: sts) (sSeq f g) := .of (pss_cons h1.run h2.run) fun E Z r Fs s H Q S p => by
  refine ⟨E, Z, r, Fs, S, ?_⟩
  unfold sSeq at p
  have ml : ∀ j ∈ R1, j ∈ R1 ++ R2 := fun j m => List.mem_append_left _ m
  have ma : ∀ j ∈ A1, j ∈ A1 ++ A2 := fun j m => List.mem_append_left _ m
  cases q : f r with
  | next r1 =>
    rw [q] at p
    exact fun Z' Fs' H' s' ev => ⟨E, Z', r1, Fs', ev.sr, postS.shift ev.st ev.sl p⟩
  | brk r1 => rw [q] at p; exact fun Z' Fs' H' s' ev => p Z' Fs' H' s' (ev.mono ml ma)
  | cont r1 => rw [q] at p; exact fun Z' Fs' H' s' ev => p Z' Fs' H' s' (ev.mono ml ma)
  | ret d r1 => rw [q] at p; exact fun Z' Fs' H' s' v F ev => p Z' Fs' H' s' v F (ev.mono ml ma)
  | exc c fs vs r1 => rw [q] at p; exact ExcT.mono ml ma p
  | bad => rw [q] at p; exact p
theorem SS.mono (h : SS X cm W n R1 A1 st f) (hr : ∀ j ∈ R1, j ∈ R) (ha : ∀ j ∈ A1, j ∈ A) : SS X cm W n R A st f :=
  ⟨⟨fun pins sh s H Q I ⟨E, Z, r, Fs, S, p⟩ => h.run.run pins sh s H Q I ⟨E, Z, r, Fs, S, postS.mono hr ha p⟩⟩⟩
theorem SB.mono (h : SB X cm W n R1 A1 sts f) (hr : ∀ j ∈ R1, j ∈ R) (ha : ∀ j ∈ A1, j ∈ A) : SB X cm W n R A sts f :=
  ⟨⟨fun pins sh s H Q I ⟨E, Z, r, Fs, S, p⟩ => h.run.run pins sh s H Q I ⟨E, Z, r, Fs, S, postS.mono hr ha p⟩⟩⟩
theorem SB.eq {f' : Env → SRes} (h : SB X cm W n R A sts f) (q : ∀ r, f r = f' r) : SB X cm W n R A sts f' := by
  have : f = f' := funext q
  rw [← this]; exact h

/-! ### small statements -/
def sBad : Env → SRes := fun _ => .bad
theorem SS.never : SS X cm W n [] [] st sBad := ⟨⟨fun pins sh s H Q I ⟨E, Z, r, Fs, S, p⟩ => p.elim⟩⟩
def sPass : Env → SRes := fun r => .next r
theorem SS.pass : SS X cm W n [] [] (.Pass pos) sPass := .of ps_pass fun E Z r Fs s H Q S p => p Z Fs H s (.here S)
def sBrk : Env → SRes := fun r => .brk r
theorem SS.brk : SS X cm W n [] [] (.Break pos) sBrk := .of ps_break fun E Z r Fs s H Q S p => p Z Fs H s (.here S)
def sCont : Env → SRes := fun r => .cont r
theorem SS.cont : SS X cm W n [] [] (.Continue pos) sCont := .of ps_continue fun E Z r Fs s H Q S p => p Z Fs H s (.here S)
def sExpr (fe : Env → Res D) : Env → SRes := fun r => (fe r).toS fun _ r1 => .next r1
theorem SS.expr (he : SX X cm W R B e fe) (hs : swapsWith e none pos.line X.env = Pure.pure false := by rfl) : SS X cm W n R [] (.Expr e pos) (sExpr fe) := .of (ps_expr he.run hs) fun E Z r Fs s H Q S p => by
  refine ⟨E, Z, r, Fs, S, bindES (R2 := []) (by rw [List.append_nil]; exact p) fun d r1 Z1 Fs1 H1 v F q ev p1 => ?_⟩
  exact p1 Z1 Fs1 H1 s (.here ev.sr)
def sRet (fe : Env → Res D) : Env → SRes := fun r => (fe r).toS fun d r1 => .ret d r1
theorem SS.ret (he : SX X cm W R B e fe) (hb : ∀ j ∈ B, n ≤ j) : SS X cm W n R [] (.Return (some e) pos) (sRet fe) := .of (ps_ret he.run) fun E Z r Fs s H Q S p => by
  refine ⟨E, Z, r, Fs, S, bindES (R2 := []) (by rw [List.append_nil]; exact p) fun d r1 Z1 Fs1 H1 v F q ev p1 => ?_⟩
  exact p1 Z1 Fs1 H1 s v F (.here ev.sr) ev.val.own fun a m => ⟨ev.val.nz a m, ev.val.al a m, fun k hk q => absurd (hb k (ev.val.dis a m k q)) (by omega)⟩
def sRetN : Env → SRes := fun r => .ret .non r
theorem SS.retN : SS X cm W n [] [] (.Return none pos) sRetN := .of ps_retN fun E Z r Fs s H Q S p => p Z Fs H s .non [] (.here S) Own.non fun _ m => nomatch m
/-! ### assignments -/
theorem TgR.evs {U : Gd} {E : En} {Z Z1 : AP} {r1 r2 : Env} {Fs Fs1 Fs2 : Nat → List Addr} {H H1 : Hp} {s s2 : St} {d : D} {v : V} {F : List Addr} (ev : EvR U E Z Fs H R [] Z1 Fs1 H1 s r1 d v F) (T : TgR U E Z1 Fs1 s H1 A F r2 s2 Fs2) : EvS U E Z Fs H s R A Z1 Fs2 H1 s2 r2 where
  st := {
    keep := ev.st.keep
    zi := ev.st.zi
    zo := ev.st.zo
    dm := ev.st.dm
    fs := fun i m1 m2 => by rw [T.fs i m2, ev.st.fs i m1 fun m => nomatch m]
    fw := fun i a m => by
      rcases T.fw i a m with z | z
      · exact ev.st.fw i a z
      · rcases ev.src a z with ⟨_, q, _⟩ | q | q
        · cases q
        · exact .inr (.inl q)
        · exact .inr (.inr q) }
  sl := T.sl
  sr := T.sr
def optS (x : Option Env) : SRes := match x with
  | some r => .next r
  | none => .bad
@[simp] theorem optS_some (r : Env) : optS (some r) = .next r := rfl
@[simp] theorem optS_none : optS none = .bad := rfl
def sAsg (fe : Env → Res D) (g : D → Env → Option Env) : Env → SRes := fun r => (fe r).toS fun d r1 => optS (g d r1)
theorem asg_post {U : Gd} {E : En} {Z : AP} {r : Env} {Fs : Nat → List Addr} {H : Hp} {s : St} {Q : Ends} {g : D → Env → Option Env} (p : postS U W n E Z Fs H s R A (sAsg fe g r) Q) : postE U W E Z Fs H s R [] (fe r) fun v H' => tGt U A g v s H' Q.nx :=
  bindES (R2 := []) (by rw [List.append_nil]; exact p) fun d r1 Z1 Fs1 H1 v F q ev p1 => by
    unfold sAsg at p
    rw [q, Res.toS_ok] at p
    cases hg : g d r1 with
    | none => rw [hg] at p; exact p.elim
    | some r2 =>
      rw [hg] at p
      exact ⟨E, Z1, r1, Fs1, d, F, ev.sr, ev.val.own, ev.val.fresh, r2, hg, fun s2 Fs2 T => p Z1 Fs2 H1 s2 (T.evs ev)⟩
theorem SS.asg {g : D → Env → Option Env} (he : SX X cm W R [] e fe) (hg : SG X cm A tg g) (hs : swapsWithSole [tg] e pos.line X.env = Pure.pure false := by rfl) (hw : swappedStores [tg] e X.env = Pure.pure none := by rfl) (h1 : (assignEach [tg] X.env).map (·.2) = [assign tg X.env] := by rfl) : SS X cm W n R A (.Assign [tg] e pos) (sAsg fe g) :=
  .of (ps_asg he.run hg.run hs hw h1) fun E Z r Fs s H Q S p => ⟨E, Z, r, Fs, S, asg_post p⟩
/-- x = [.. for ..] on one line -/
theorem SS.asgLc {Rt Re Be : List Nat} {elt tg iter : Expr} {ifs : List Expr} {scope : Scope} {spos py : Pos} {y : Str} {fi : Env → Res (List D)} {g : D → Env → Option Env} {t : Env → Res Bool} {fe : Env → Res D} (i : Nat) (own : List (Str × Nat)) (hc : X.calm = true) (hN : X.N.Nodup) (hi : SI X cm W R B tg iter fi) (ok : BlkOk X.N X.env.scope scope own)
    (hg : ∀ (s : Shared) (H : Hp) (C : Addr) (cl : List (Str × Addr)) (fp : List Addr), SG (X.blk s H scope (compEnvC scope cl C X.env) fp) cm A tg g)
    (ht : ∀ (s : Shared) (H : Hp) (C : Addr) (cl : List (Str × Addr)) (fp : List Addr), STs (X.blk s H scope (compEnvC scope cl C X.env) fp) cm Rt ifs t)
    (he : ∀ (s : Shared) (H : Hp) (C : Addr) (cl : List (Str × Addr)) (fp : List Addr), SX (X.blk s H scope (compEnvC scope cl C X.env) fp) cm W0 Re Be elt fe)
    (hA : ∀ i ∈ A, i ∈ own.map (·.2)) (nb : ∀ j ∈ Rt ++ Re, j ∉ B) (nv : ∀ j ∈ Rt ++ Re, j ∉ own.map (·.2)) (hsw : swapsWith (.ListComp elt [⟨tg, iter, ifs, 0⟩] scope pos) (some (.Name y py)) spos.line X.env = Pure.pure true)
    (hyl : X.env.scope.names.lookup y = some .local) (hy : X.N[i]? = some y := by rfl)
    (hs : ∀ x, foldedSetIterable iter X.env x = Pure.pure x := by intro _; rfl) :
    SS X cm W n (R ++ (Rt ++ Re)) [i] (.Assign [.Name y py] (.ListComp elt [⟨tg, iter, ifs, 0⟩] scope pos) spos) (sAsg (fLc fi g t fe (own.map (·.2))) (gN i)) :=
  .of (ps_setLc (g := tGt ⟨X.K, cm⟩ A g) (tt := tTs ⟨X.K, cm⟩ W0 Rt t) (te := tX ⟨X.K, cm⟩ W0 Re Be fe) hc hN hy hyl hsw hi.run ok (fun s H C cl fp => (hg s H C cl fp).run) (fun s H C cl fp => (ht s H C cl fp).run) (fun s H C cl fp => (he s H C cl fp).run) hs) fun E Z r Fs s H Q S p =>
    lc_of hA nb nv S (postE.to (asg_post p) fun v H' h => by
      obtain ⟨E', Z', r', Fs', d, F, S', o, f, r2, hg2, k⟩ := h
      cases hg2
      exact k _ _ (S'.setS i o f))
/-- x += e of ints, texts; x -= e -/
def sAug (i : Nat) (gg : D → D → Option D) (fe : Env → Res D) : Env → SRes := fun r => match r[i]? with
  | some (some x) => (fe r).toS fun y r1 => match gg x y with
    | some z => .next (r1.set i (some z))
    | none => .bad
  | _ => .bad
/-- an in-place operator on values that are no objects -/
def IpD (U : Gd) (rd : TIp) (gg : D → D → Option D) : Prop := ∀ (Z : AP) (H : Hp) (x y z : D) (vx vy : V) (F1 F2 : List Addr) (Q : VK), Own U Z H x vx F1 → Own U Z H y vy F2 → gg x y = some z → z.pure = true → (∀ v, Own U Z H z v [] → Q v H) → rd vx vy H Q
def augAdd : D → D → Option D
  | .int i, .int j => some (.int (i + j))
  | _, _ => none
def augSub : D → D → Option D
  | .int i, .int j => some (.int (i - j))
  | _, _ => none
theorem ipd_add {U : Gd} : IpD U (ipI fun i j => i + j) augAdd := fun Z H x y z vx vy F1 F2 Q o1 o2 e _ k => by
  cases x <;> first
    | (cases y <;> first
        | (cases e; obtain ⟨rfl, _⟩ := Own.int_iff.mp o1; obtain ⟨rfl, _⟩ := Own.int_iff.mp o2; exact ⟨_, _, rfl, rfl, k _ Own.int⟩)
        | cases e)
    | cases e
theorem ipd_sub {U : Gd} : IpD U (ipI fun i j => i - j) augSub := fun Z H x y z vx vy F1 F2 Q o1 o2 e _ k => by
  cases x <;> first
    | (cases y <;> first
        | (cases e; obtain ⟨rfl, _⟩ := Own.int_iff.mp o1; obtain ⟨rfl, _⟩ := Own.int_iff.mp o2; exact ⟨_, _, rfl, rfl, k _ Own.int⟩)
        | cases e)
    | cases e
theorem aug_pure {gg : D → D → Option D} (h : gg = augAdd ∨ gg = augSub) {x y z : D} (e : gg x y = some z) : z.pure = true ∧ x.pure = true := by
  rcases h with rfl | rfl <;>
  (cases x <;> first
    | (cases y <;> first
        | (cases e; exact ⟨rfl, rfl⟩)
        | cases e)
    | cases e)
theorem SS.aug {op : Operator} {rd : TIp} {gg : D → D → Option D} (i : Nat) {x : Str} {pos' : Pos} (hN : X.N.Nodup) (he : SX X cm W R B e fe) (ho : PIp X op rd) (hd : IpD ⟨X.K, cm⟩ rd gg) (hgg : gg = augAdd ∨ gg = augSub) (hi : X.N[i]? = some x := by rfl) (hx : Loc X.env.scope x := by first | exact .inl rfl | exact .inr rfl) (hf : X.fn x = true ∨ X.env.scope.names.lookup x = some .local := by first | exact .inl rfl | exact .inr rfl) :
    SS X cm W n R [i] (.AugAssign (.Name x pos') op e pos) (sAug i gg fe) := .of (ps_aug hN hi hx he.run ho hf) fun E Z r Fs s H Q S p => by
  unfold sAug at p
  cases h : r[i]? with
  | none => rw [h] at p; exact p.elim
  | some o =>
    cases o with
    | none => rw [h] at p; exact p.elim
    | some d =>
      rw [h] at p
      obtain ⟨v0, h0, o0⟩ := S.own i d h
      refine ⟨v0, h0, E, Z, r, Fs, S, bindES (R2 := []) (by rw [List.append_nil]; exact p) fun y r1 Z1 Fs1 H1 v F q ev p1 => ?_⟩
      have p0 : postS ⟨X.K, cm⟩ W n E Z Fs H s R [i] ((fe r).toS fun y r1 => match gg d y with | some z => .next (r1.set i (some z)) | none => .bad) Q := p
      rw [q, Res.toS_ok] at p0
      cases hg : gg d y with
      | none => simp only [hg] at p0; exact p0.elim
      | some z =>
        simp only [hg] at p0
        obtain ⟨zp, dp⟩ := aug_pure hgg hg
        have o1 : Own ⟨X.K, cm⟩ Z1 H1 d v0 [] := by
          have e0 := o0.pureF dp
          rw [e0] at o0
          exact o0.step S ev.st fun _ m => nomatch m
        refine hd Z1 H1 d y z v0 v [] F _ o1 ev.val.own hg zp fun v2 o2 => ?_
        have ev2 : EvR ⟨X.K, cm⟩ E Z Fs H R [] Z1 Fs1 H1 s r1 z v2 [] := ev.afterP o2 zp
        exact p0 Z1 _ H1 _ ((ev.sr.setS i o2 Fresh.nil).evs ev2)
/-- o[i] = e of a list -/
def sSet (i : Nat) (pf : Env → Option (List Nat)) (q : Env → Option Int) (fe : Env → Res D) : Env → SRes := fun r => (fe r).toS fun y r1 => match pf r1, q r1, r1[i]? with
  | some ks, some k, some (some d0) => match d0.at ks with
    | some (.lst xs) => match ixN xs.length k with
      | some j => .next (r1.set i (some (d0.put ks (.lst (xs.set j y)))))
      | none => .bad
    | _ => .bad
  | _, _, _ => .bad
theorem sSet_shape {i : Nat} {pf : Env → Option (List Nat)} {q : Env → Option Int} {y : D} {r1 : Env} {P : SRes → Prop} (hb : ¬ P .bad) (h : P (match pf r1, q r1, r1[i]? with
  | some ks, some k, some (some d0) => match d0.at ks with
    | some (.lst xs) => match ixN xs.length k with
      | some j => .next (r1.set i (some (d0.put ks (.lst (xs.set j y)))))
      | none => .bad
    | _ => .bad
  | _, _, _ => .bad)) : ∃ ks k d0 xs j, pf r1 = some ks ∧ q r1 = some k ∧ r1[i]? = some (some d0) ∧ d0.at ks = some (.lst xs) ∧ ixN xs.length k = some j ∧ P (.next (r1.set i (some (d0.put ks (.lst (xs.set j y)))))) := by
  split at h
  · rename_i ks k d0 e1 e2 e3
    split at h
    · rename_i xs e4
      split at h
      · rename_i j e5
        exact ⟨ks, k, d0, xs, j, e1, e2, e3, e4, e5, h⟩
      · exact (hb h).elim
    · exact (hb h).elim
  · exact (hb h).elim
theorem SS.setIx {i : Nat} {o b : Expr} {pf : Env → Option (List Nat)} {q : Env → Option Int} {p2 : Pos} (he : SX X cm W R [] e fe) (ho : SPl X cm i o pf) (hb : SQ X cm b q) (hs : swapsWithSole [.Subscript o b p2] e pos.line X.env = Pure.pure false := by rfl) (hw : swappedStores [.Subscript o b p2] e X.env = Pure.pure none := by rfl)
    (hA : ∀ v, assign (.Subscript o b p2) X.env v = (do
      let ov ← holding [v] (eval o X.env)
      let iv ← holding [v, ov] (eval b X.env)
      standAt p2
      holding [v, ov, iv] (setItem ov iv v)
      release [v, ov, iv] []) := by intro _; rfl) (h1 : (assignEach [.Subscript o b p2] X.env).map (·.2) = [assign (.Subscript o b p2) X.env] := by rfl) :
    SS X cm W n (R ++ [i]) [] (.Assign [.Subscript o b p2] e pos) (sSet i pf q fe) := .of (ps_asg he.run (pg_sub ho.run hb.run set_list hA) hs hw h1) fun E Z r Fs s H Q S p => by
  refine ⟨E, Z, r, Fs, S, bindES p fun y r1 Z1 Fs1 H1 vy Fy q1 ev p1 => ?_⟩
  unfold sSet at p
  rw [q1, Res.toS_ok] at p
  obtain ⟨ks, k, d0, xs, j, e1, e2, e3, e4, e5, p⟩ := sSet_shape (P := fun x => postS ⟨X.K, cm⟩ W n E Z Fs H s (R ++ [i]) [] x Q) (fun z => z) p
  obtain ⟨v0, h0, _⟩ := ev.sr.own i d0 e3
  refine ⟨E, Z1, r1, Fs1, ev.sr, ks, d0, _, v0, e1, e3, e4, h0, fun w G f => ?_⟩
  refine ⟨E, Z1, r1, Fs1, ev.sr, k, e2, ?_⟩
  obtain ⟨a, vs, G', rfl, rfl, t, na, l⟩ := Own.lst_iff.mp f.own
  have ha : a ∈ Fs1 i := f.foc.1 a List.mem_cons_self
  have nz1 : ¬ Z1 a := ev.sr.nz i a ha
  have nFy : a ∉ Fy := fun m => nomatch ev.val.dis a m i ha
  have up : ∀ b u, H1 b = some u → b ≠ a → upd H1 a (.lst (vs.set j vy)) b = some u := fun b u e n => by rw [upd_ne n]; exact e
  refine ⟨a, vs, k, j, rfl, rfl, t, by rw [l.len]; exact e5, ?_⟩
  have dj : ∀ b ∈ Fy, b ∉ G' := fun b m q => nomatch ev.val.dis b m i (f.foc.1 b (List.mem_cons_of_mem _ q))
  obtain ⟨G2, l2, s2⟩ := (l.mono (U := ⟨X.K, cm⟩) (Z' := Z1) (H' := upd H1 a (.lst (vs.set j vy))) (fun _ z => z) fun b u e z => up b u e fun q => by subst q; exact z.elim nz1 na).set j (ev.val.own.mono (fun _ z => z) fun b u e z => up b u e fun q => by subst q; exact z.elim nz1 nFy) dj
  have o1 : Own ⟨X.K, cm⟩ Z1 (upd H1 a (.lst (vs.set j vy))) (.lst (xs.set j y)) (.ref a) (a :: G2) := Own.lst_iff.mpr ⟨a, _, _, rfl, rfl, upd_same, fun m => (s2 a m).elim na nFy, l2⟩
  obtain ⟨F1, o2, s3⟩ := f.foc.2 Z1 _ _ _ (fun _ z => z) (fun b u e _ n => up b u e fun q => n (by rw [q]; exact List.mem_cons_self)) o1 fun b m => by
    rcases List.mem_cons.mp m with rfl | m
    · exact .inl List.mem_cons_self
    · rcases s2 b m with m | m
      · exact .inl (List.mem_cons_of_mem _ m)
      · exact .inr fun q => nomatch ev.val.dis b m i q
  have sr2 := ev.sr.mut (F1 := F1) e3 h0 (fun b u e n => up b u e fun q => n (by rw [q]; exact ha)) (fun b e => by
    by_cases hb : b = a
    · subst hb; rw [upd_same] at e; cases e
    · rw [upd_ne hb] at e; exact e) o2 fun b m => by
      rcases s3 b m with z | z
      · exact .inl z.1
      · rcases List.mem_cons.mp z with rfl | z
        · exact .inl ha
        · rcases s2 b z with z | z
          · exact .inl (f.foc.1 b (List.mem_cons_of_mem _ z))
          · exact .inr ⟨ev.val.nz b z, ev.val.al b z, fun k q => nomatch ev.val.dis b z k q⟩
  have srcF : ∀ b ∈ F1, b ∈ Fs1 i ∨ b ∈ Fy := fun b m => by
    rcases s3 b m with z | z
    · exact .inl z.1
    · rcases List.mem_cons.mp z with rfl | z
      · exact .inl ha
      · rcases s2 b z with z | z
        · exact .inl (f.foc.1 b (List.mem_cons_of_mem _ z))
        · exact .inr z
  have mr : ∀ {b : Addr}, (b ∈ Fs i ∨ H b = none ∨ ∃ j ∈ R, b ∈ Fs j) → b ∈ Fs i ∨ H b = none ∨ ∃ j ∈ R ++ [i], b ∈ Fs j := fun {b} z => z.imp_right fun z => z.imp_right fun ⟨j, m, q⟩ => ⟨j, List.mem_append_left _ m, q⟩
  refine p Z1 _ _ s ⟨⟨fun b u e m => ?_, ev.st.zi, fun b z => ?_, fun b e => ?_, fun k m1 m2 => ?_, fun k b m => ?_⟩, fun _ _ => rfl, sr2⟩
  · have e1 := ev.st.keep b u e fun j mj => m j (List.mem_append_left _ mj)
    refine up b u e1 fun q => ?_
    subst q
    rcases ev.st.fw i b ha with z | z | ⟨j, mj, z⟩
    · exact m i (List.mem_append_right _ List.mem_cons_self) z
    · exact some_none e z
    · exact m j (List.mem_append_left _ mj) z
  · rcases ev.st.zo b z with z | z | ⟨j, mj, z⟩
    · exact .inl z
    · exact .inr (.inl z)
    · exact .inr (.inr ⟨j, List.mem_append_left _ mj, z⟩)
  · by_cases hb : b = a
    · subst hb; rw [upd_same] at e; cases e
    · rw [upd_ne hb] at e; exact ev.st.dm b e
  · show (if k = i then F1 else Fs1 k) = Fs k
    rw [if_neg (fun q => m1 (by rw [q]; exact List.mem_append_right _ List.mem_cons_self))]
    exact ev.st.fs k (fun q => m1 (List.mem_append_left _ q)) m2
  · have m' : b ∈ (if k = i then F1 else Fs1 k) := m
    by_cases c : k = i
    · rw [if_pos c] at m'
      rw [c]
      rcases srcF b m' with z | z
      · exact mr (ev.st.fw i b z)
      · rcases ev.src b z with ⟨_, q, _⟩ | q | ⟨j, mj, q⟩
        · cases q
        · exact .inr (.inl q)
        · exact .inr (.inr ⟨j, List.mem_append_left _ mj, q⟩)
    · rw [if_neg c] at m'
      exact (ev.st.fw k b m').imp_right fun z => z.imp_right fun ⟨j, m, q⟩ => ⟨j, List.mem_append_left _ m, q⟩
/-! ### if -/
def sIf (t : Env → Res Bool) (f g : Env → SRes) : Env → SRes := fun r => (t r).toS fun b r1 => if b then f r1 else g r1
theorem SS.if_ {t : Env → Res Bool} {sa sb : List Stmt} (hc : ST X cm W R1 c t) (ha : SB X cm W n R2 A1 sa f) (hb : SB X cm W n R3 A2 sb g) : SS X cm W n (R1 ++ (R2 ++ R3)) (A1 ++ A2) (.If c sa sb pos) (sIf t f g) := .of (ps_if hc.run ha.run hb.run) fun E Z r Fs s H Q S p => by
  refine ⟨E, Z, r, Fs, S, bindTS p fun b r1 Z1 Fs1 H1 q t1 S1 p1 => ?_⟩
  cases b with
  | true => rw [if_pos rfl]; exact ⟨E, Z1, r1, Fs1, S1, postS.mono (fun j m => List.mem_append_left _ m) (fun j m => List.mem_append_left _ m) p1⟩
  | false => rw [if_neg Bool.false_ne_true]; exact ⟨E, Z1, r1, Fs1, S1, postS.mono (fun j m => List.mem_append_right _ m) (fun j m => List.mem_append_right _ m) p1⟩
end
end DL

set_option Elab.async false
set_option linter.all false
set_option maxRecDepth 100000
namespace DL
open PySem PySem.Spec L2

def forGo (g : D → Env → Option Env) (body : Env → SRes) : List D → Env → SRes
  | [], r => .next r
  | d :: ds, r => match g d r with
    | none => .bad
    | some r1 => match body r1 with
      | .next r2 => forGo g body ds r2
      | .cont r2 => forGo g body ds r2
      | .brk r2 => .next r2
      | .ret v r2 => .ret v r2
      | .exc c fs vs r2 => .exc c fs vs r2
      | .bad => .bad
theorem forGo_nil (g : D → Env → Option Env) (body : Env → SRes) (r : Env) : forGo g body [] r = .next r := rfl
theorem forGo_cons (g : D → Env → Option Env) (body : Env → SRes) (d : D) (ds : List D) (r : Env) : forGo g body (d :: ds) r = match g d r with
    | none => .bad
    | some r1 => match body r1 with
      | .next r2 => forGo g body ds r2
      | .cont r2 => forGo g body ds r2
      | .brk r2 => .next r2
      | .ret v r2 => .ret v r2
      | .exc c fs vs r2 => .exc c fs vs r2
      | .bad => .bad := rfl
def sFor (fi : Env → Res (List D)) (g : D → Env → Option Env) (body : Env → SRes) : Env → SRes := fun r => (fi r).toS fun ds r1 => forGo g body ds r1
def whileGo (t : Env → Res Bool) (body : Env → SRes) : Nat → Env → SRes
  | 0, _ => .bad
  | m + 1, r => match t r with
    | .ok true r1 => match body r1 with
      | .next r2 => whileGo t body m r2
      | .cont r2 => whileGo t body m r2
      | .brk r2 => .next r2
      | .ret v r2 => .ret v r2
      | .exc c fs vs r2 => .exc c fs vs r2
      | .bad => .bad
    | .ok false r1 => .next r1
    | .exc c fs vs r1 => .exc c fs vs r1
    | .bad => .bad
theorem whileGo_succ (t : Env → Res Bool) (body : Env → SRes) (m : Nat) (r : Env) : whileGo t body (m + 1) r = match t r with
    | .ok true r1 => match body r1 with
      | .next r2 => whileGo t body m r2
      | .cont r2 => whileGo t body m r2
      | .brk r2 => .next r2
      | .ret v r2 => .ret v r2
      | .exc c fs vs r2 => .exc c fs vs r2
      | .bad => .bad
    | .ok false r1 => .next r1
    | .exc c fs vs r1 => .exc c fs vs r1
    | .bad => .bad := rfl
def sWhile (fuel : Env → Nat) (t : Env → Res Bool) (body : Env → SRes) : Env → SRes := fun r => whileGo t body (fuel r) r

section
variable {X : Cx} {cm : Str → Option Addr} {W : WX} {n : Nat} {R R1 R2 A A1 A2 B : List Nat} {e tg it c : Expr} {body : List Stmt} {fb : Env → SRes} {fi : Env → Res (List D)} {g : D → Env → Option Env} {t : Env → Res Bool} {pos : Pos}
theorem TgR.step0 {U : Gd} {E : En} {Z : AP} {r2 : Env} {Fs Fs2 : Nat → List Addr} {H : Hp} {s s2 : St} (T : TgR U E Z Fs s H A [] r2 s2 Fs2) : Step Z Fs H [] A Z Fs2 H where
  keep := fun _ _ h _ => h
  zi := fun _ z => z
  zo := fun _ z => .inl z
  dm := fun _ z => z
  fs := fun i _ m => T.fs i m
  fw := fun i a m => (T.fw i a m).elim .inl fun z => nomatch z
theorem postS.self {U : Gd} {E : En} {Z Z1 : AP} {Fs Fs1 : Nat → List Addr} {H H1 : Hp} {s s1 : St} {x : SRes} {Q : Ends} (tt : Step Z Fs H R A Z1 Fs1 H1) (sl : ∀ i, i ∉ A → s1[i]? = s[i]?) (h : postS U W n E Z Fs H s R A x Q) : postS U W n E Z1 Fs1 H1 s1 R A x Q :=
  postS.shift (R1 := R) (A1 := A) tt sl (postS.mono (fun j m => (List.mem_append.mp m).elim id id) (fun j m => (List.mem_append.mp m).elim id id) h)
theorem SS.for_ (hp : PassesOwn (model X.prog X.w) X.A X.env X.xe) (hc : X.calm = true) (hi : SI X cm W R1 B tg it fi) (hg : SG X cm A1 tg g) (hb : SB X cm W n R2 A2 body fb) (nb : ∀ j ∈ R2, j ∉ B)
    (hs : ∀ x, foldedSetIterable it X.env x = Pure.pure x := by intro _; rfl) : SS X cm W n (R1 ++ R2) (A1 ++ A2) (.For tg it body [] pos) (sFor fi g fb) := .of (ps_for hp hc hi.run hg.run hb.run hs) fun E Z r Fs s H Q S p => by
  refine ⟨E, Z, r, Fs, S, ?_⟩
  unfold sFor at p
  cases q1 : fi r with
  | exc c fs us r1 => rw [q1] at p; exact ExcT.mono (fun j m => List.mem_append_left _ m) (fun _ m => nomatch m) p
  | bad => rw [q1] at p; exact p.elim
  | ok ds r1 =>
    rw [q1, Res.toS_ok] at p
    intro Z1 Fs1 H1 J S1 st1 sr1 itk hB
    have p1 : postS ⟨X.K, cm⟩ W n E Z1 Fs1 H1 s R2 (A1 ++ A2) (forGo g fb ds r1) Q := postS.shift (A1 := []) st1 (fun _ _ => rfl) p
    refine for_it itk.walk (fun i s' Hc => ∃ Z' Fs' r', SR ⟨X.K, cm⟩ E Z' r' Fs' s' Hc ∧ Step Z1 Fs1 H1 R2 (A1 ++ A2) Z' Fs' Hc ∧ (∀ i, i ∉ A1 ++ A2 → s'[i]? = s[i]?) ∧ forGo g fb ds r1 = forGo g fb (ds.drop i) r') ⟨Z1, Fs1, r1, sr1, Step.refl.mono (fun _ m => nomatch m) (fun _ m => nomatch m), fun _ _ => rfl, rfl⟩ (fun i s' Hc _ hP => ?_) (fun i x s' Hc Hc' hi hP y => ?_) fun s' Hc hP => ?_
    · obtain ⟨Z', Fs', r', sr, st, _⟩ := hP
      exact ⟨fun a o sa e => st.keep a o e fun j m z => nb j m (hB a sa j z), fun a o z e => st.keep a o e fun j m q => sr1.nz j a q z⟩
    · obtain ⟨Z', Fs', r', sr, st, sl, el⟩ := hP
      obtain ⟨d, ed, yo⟩ := y Z' st.zi
      have step1 : ∃ Z2, SR ⟨X.K, cm⟩ E Z2 r' Fs' s' Hc' ∧ Step Z' Fs' Hc [] [] Z2 Fs' Hc' ∧ Own ⟨X.K, cm⟩ Z2 Hc' d x [] := by
        rcases yo with ⟨rfl, o⟩ | ⟨p0, ob, hp0, rfl, o⟩
        · exact ⟨Z', sr, Step.refl, o⟩
        · exact ⟨_, sr.alloc hp0 _ _, Step.alloc hp0 _ _, o⟩
      obtain ⟨Z2, sr2, t2, o2⟩ := step1
      have ed' : ds.drop i = d :: ds.drop (i + 1) := by
        rw [List.drop_eq_getElem_cons hi]
        rw [List.getElem?_eq_getElem hi] at ed
        cases ed; rfl
      rw [ed', forGo_cons] at el
      rw [el] at p1
      cases q2 : g d r' with
      | none => simp only [q2] at p1; exact p1.elim
      | some r3 =>
        simp only [q2] at el p1
        refine ⟨E, Z2, r', Fs', d, [], sr2, o2, Fresh.nil, r3, q2, fun s3 Fs3 T => ?_⟩
        have tt : Step Z1 Fs1 H1 R2 (A1 ++ A2) Z2 Fs3 Hc' := ((st.trans t2).trans T.step0).mono (fun j m => by simpa using m) fun j m => by
          simp only [List.append_nil, List.mem_append] at m ⊢
          rcases m with m | m
          · exact m
          · exact .inl m
        have sl3 : ∀ i, i ∉ A1 ++ A2 → s3[i]? = s[i]? := fun i m => by rw [T.sl i fun z => m (List.mem_append_left _ z), sl i m]
        refine ⟨E, Z2, r3, Fs3, T.sr, ?_⟩
        have again : ∀ {Z4 : AP} {Fs4 : Nat → List Addr} {H4 : Hp} {s4 : St} {r4 : Env}, EvS ⟨X.K, cm⟩ E Z2 Fs3 Hc' s3 R2 A2 Z4 Fs4 H4 s4 r4 → EvS ⟨X.K, cm⟩ E Z1 Fs1 H1 s R2 (A1 ++ A2) Z4 Fs4 H4 s4 r4 := fun {Z4 Fs4 H4 s4 r4} ev =>
          (ev.after tt sl3).mono (fun j m => (List.mem_append.mp m).elim id id) fun j m => (List.mem_append.mp m).elim id fun m => List.mem_append_right _ m
        cases q3 : fb r3 with
        | next r4 =>
          simp only [q3] at el
          exact fun Z4 Fs4 H4 s4 ev => ⟨Z4, Fs4, r4, ev.sr, (again ev).st, (again ev).sl, el⟩
        | cont r4 =>
          simp only [q3] at el
          exact fun Z4 Fs4 H4 s4 ev => ⟨Z4, Fs4, r4, ev.sr, (again ev).st, (again ev).sl, el⟩
        | brk r4 =>
          simp only [q3] at p1
          exact fun Z4 Fs4 H4 s4 ev => p1 Z4 Fs4 H4 s4 (again ev)
        | ret v r4 =>
          simp only [q3] at p1
          exact fun Z4 Fs4 H4 s4 v F ev => p1 Z4 Fs4 H4 s4 v F (again ev)
        | exc c fs us r4 =>
          simp only [q3] at p1
          exact ExcT.mono (fun j m => m) (fun j m => List.mem_append_right _ m) (postS.self tt sl3 p1)
        | bad => simp only [q3] at p1; exact p1.elim
    · obtain ⟨Z', Fs', r', sr, st, sl, el⟩ := hP
      rw [List.drop_length, forGo_nil] at el
      rw [el] at p1
      exact p1 Z' Fs' Hc s' ⟨st, sl, sr⟩
theorem SS.while_ (fuel : Env → Nat) (hp : PassesOwn (model X.prog X.w) X.A X.env X.xe) (hc : ST X cm W R1 c t) (hb : SB X cm W n R2 A2 body fb) : SS X cm W n (R1 ++ R2) A2 (.While c body [] pos) (sWhile fuel t fb) := .of (ps_while hp hc.run hb.run) fun E Z r Fs s H Q S p => by
  unfold sWhile at p
  refine ⟨fun m s' Hc => ∃ Z' Fs' r', SR ⟨X.K, cm⟩ E Z' r' Fs' s' Hc ∧ Step Z Fs H (R1 ++ R2) A2 Z' Fs' Hc ∧ (∀ i, i ∉ A2 → s'[i]? = s[i]?) ∧ whileGo t fb (fuel r) r = whileGo t fb m r', ⟨fuel r, Z, Fs, r, S, Step.refl.mono (fun _ m => nomatch m) (fun _ m => nomatch m), fun _ _ => rfl, rfl⟩, fun m s' Hc hP => ?_⟩
  obtain ⟨Z', Fs', r', sr, st, sl, el⟩ := hP
  rw [el] at p
  cases m with
  | zero => exact p.elim
  | succ m =>
    rw [whileGo_succ] at el p
    refine ⟨E, Z', r', Fs', sr, ?_⟩
    have p1 := postS.self st sl p
    cases q1 : t r' with
    | exc c fs us r1 => simp only [q1] at p1; exact ExcT.mono (fun j m => List.mem_append_left _ m) (fun _ m => nomatch m) p1
    | bad => simp only [q1] at p1; exact p1.elim
    | ok b r1 =>
      intro Z1 Fs1 H1 t1 S1
      have tt : Step Z Fs H (R1 ++ R2) A2 Z1 Fs1 H1 := (st.trans t1).mono (fun j m => by
        simp only [List.mem_append] at m ⊢
        rcases m with m | m
        · exact m
        · exact .inl m) fun j m => by simpa using m
      cases b with
      | false =>
        rw [if_neg Bool.false_ne_true]
        simp only [q1] at p
        exact p Z1 Fs1 H1 s' ⟨tt, sl, S1⟩
      | true =>
        rw [if_pos rfl]
        simp only [q1] at el p
        refine ⟨fun s4 H4 => ∃ Z4 Fs4 r4, SR ⟨X.K, cm⟩ E Z4 r4 Fs4 s4 H4 ∧ Step Z Fs H (R1 ++ R2) A2 Z4 Fs4 H4 ∧ (∀ i, i ∉ A2 → s4[i]? = s[i]?) ∧ whileGo t fb (fuel r) r = whileGo t fb m r4, fun s4 H4 h => ⟨m, Nat.lt_succ_self m, h⟩, E, Z1, r1, Fs1, S1, ?_⟩
        have again : ∀ {Z4 : AP} {Fs4 : Nat → List Addr} {H4 : Hp} {s4 : St} {r4 : Env}, EvS ⟨X.K, cm⟩ E Z1 Fs1 H1 s' R2 A2 Z4 Fs4 H4 s4 r4 → EvS ⟨X.K, cm⟩ E Z Fs H s (R1 ++ R2) A2 Z4 Fs4 H4 s4 r4 := fun {Z4 Fs4 H4 s4 r4} ev =>
          (ev.after tt sl).mono (fun j m => by
            simp only [List.mem_append] at m ⊢
            rcases m with m | m
            · exact m
            · exact .inr m) fun j m => (List.mem_append.mp m).elim id id
        cases q3 : fb r1 with
        | next r4 =>
          simp only [q3] at el
          exact fun Z4 Fs4 H4 s4 ev => ⟨Z4, Fs4, r4, ev.sr, (again ev).st, (again ev).sl, el⟩
        | cont r4 =>
          simp only [q3] at el
          exact fun Z4 Fs4 H4 s4 ev => ⟨Z4, Fs4, r4, ev.sr, (again ev).st, (again ev).sl, el⟩
        | brk r4 =>
          simp only [q3] at p
          exact fun Z4 Fs4 H4 s4 ev => p Z4 Fs4 H4 s4 (again ev)
        | ret v r4 =>
          simp only [q3] at p
          exact fun Z4 Fs4 H4 s4 v F ev => p Z4 Fs4 H4 s4 v F (again ev)
        | exc c fs us r4 =>
          simp only [q3] at p
          exact ExcT.mono (fun j m => List.mem_append_right _ m) (fun j m => m) (postS.self tt sl p)
        | bad => simp only [q3] at p; exact p.elim
end

/-! ### defs -/
inductive FRes where
  | ok (d : D) (outs : List D)
  | exc (c : Str) (fs : List Str) (vs : List D) (outs : List D)
  | bad
def outsOf (r : Env) : List Nat → Option (List D)
  | [] => some []
  | j :: js => match r[j]?, outsOf r js with
    | some (some d), some ds => some (d :: ds)
    | _, _ => none
def initE (m : Nat) (ds : List D) : Env := ds.map some ++ List.replicate (m - ds.length) none
def retF (Rm : List Nat) (d : D) (r : Env) : FRes := match outsOf r Rm with
  | some os => .ok d os
  | none => .bad
/-- what a body does, as a function of the arguments; m: how many slots; A: the slots that it stores -/
def argPure (A : List Nat) (ds : List D) : Bool := A.all fun j => match ds[j]? with
  | some d => d.pure
  | none => true
def endF (Rm : List Nat) (x : SRes) : FRes := match x with
  | .ret d r => retF Rm d r
  | .next r => retF Rm .non r
  | .exc c fs vs r => match outsOf r Rm with
    | some os => .exc c fs vs os
    | none => .bad
  | _ => .bad
def fnF (Rm : List Nat) (m n : Nat) (A : List Nat) (fb : Env → SRes) : List D → FRes := fun ds =>
  if (ds.length == n && argPure A ds) then endF Rm (fb (initE m ds)) else .bad
/-- the arguments stand, apart from one another -/
def ArgL (U : Gd) (Z : AP) (H : Hp) : List D → List V → List (List Addr) → Prop
  | [], vs, Fl => vs = [] ∧ Fl = []
  | d :: ds, vs, Fl => ∃ v ws F Gl, vs = v :: ws ∧ Fl = F :: Gl ∧ Own U Z H d v F ∧ (∀ a ∈ F, ¬ Z a) ∧ (∀ a ∈ F, ∀ G ∈ Gl, a ∉ G) ∧ ArgL U Z H ds ws Gl
def flAt (Fl : List (List Addr)) (i : Nat) : List Addr := (Fl[i]?).getD []
/-- what stands behind a call: H' keeps all but what the arguments Rm hold -/
structure FnEnd (U : Gd) (Z : AP) (H : Hp) (Fl : List (List Addr)) (vs : List V) (Rm : List Nat) (outs : List D) (Z' : AP) (H' : Hp) (Fo : List (List Addr)) : Prop where
  keep : ∀ a o, H a = some o → (∀ i ∈ Rm, a ∉ flAt Fl i) → H' a = some o
  zi : ∀ a, Z a → Z' a
  zo : ∀ a, Z' a → Z a ∨ H a = none ∨ ∃ i ∈ Rm, a ∈ flAt Fl i
  zd : ∀ a, Z' a → ∃ o, H' a = some o
  dm : ∀ a, H' a = none → H a = none
  outs : ∀ (k : Nat) (i : Nat) (d : D), Rm[k]? = some i → outs[k]? = some d → ∃ v, vs[i]? = some v ∧ Own U Z' H' d v (flAt Fo k)
  fo : ∀ k a, a ∈ flAt Fo k → ¬ Z' a ∧ (H a = none ∨ ∃ i ∈ Rm, a ∈ flAt Fl i)
  dj : ∀ k l a, a ∈ flAt Fo k → a ∈ flAt Fo l → k = l
def postF (U : Gd) (Z : AP) (H : Hp) (Fl : List (List Addr)) (vs : List V) (Rm : List Nat) (x : FRes) (Q : VK) (E' : XK) : Prop := match x with
  | .ok d outs => ∀ Z' H' v G Fo, FnEnd U Z H Fl vs Rm outs Z' H' Fo → Own U Z' H' d v G → (∀ a ∈ G, ¬ Z' a ∧ (H a = none ∨ ∃ i ∈ Rm, a ∈ flAt Fl i) ∧ ∀ k, a ∉ flAt Fo k) → Q v H'
  | .exc c fs xs outs => ∀ Z' H' Fo C dd, FnEnd U Z H Fl vs Rm outs Z' H' Fo → U.cm c = some C → XdAt U Z' H' dd fs xs → E' (.ref C) dd H'
  | .bad => False
def spD (U : Gd) (Rm : List Nat) (n : Nat) (F : List D → FRes) : Sp := fun vs H Q E' => ∃ Z ds Fl, ArgL U Z H ds vs Fl ∧ ds.length = n ∧ (∀ a, Z a → ∃ o, H a = some o) ∧ postF U Z H Fl vs Rm (F ds) Q E'
theorem ArgL.len {U : Gd} {Z : AP} {H : Hp} : ∀ {ds : List D} {vs : List V} {Fl : List (List Addr)}, ArgL U Z H ds vs Fl → vs.length = ds.length ∧ Fl.length = ds.length
  | [], _, _, h => by unfold ArgL at h; rw [h.1, h.2]; exact ⟨rfl, rfl⟩
  | d :: ds, vs, Fl, h => by
    unfold ArgL at h
    obtain ⟨v, ws, F, Gl, rfl, rfl, _, _, _, t⟩ := h
    rw [List.length_cons, List.length_cons, List.length_cons, t.len.1, t.len.2]
    exact ⟨rfl, rfl⟩
theorem ArgL.get {U : Gd} {Z : AP} {H : Hp} : ∀ {ds : List D} {vs : List V} {Fl : List (List Addr)} {i : Nat} {d : D}, ArgL U Z H ds vs Fl → ds[i]? = some d → ∃ v, vs[i]? = some v ∧ Own U Z H d v (flAt Fl i)
  | [], _, _, _, _, _, e => by cases e
  | d0 :: ds, vs, Fl, i, d, h, e => by
    unfold ArgL at h
    obtain ⟨v, ws, F, Gl, rfl, rfl, o, _, _, t⟩ := h
    cases i with
    | zero => cases e; exact ⟨v, rfl, o⟩
    | succ i =>
      obtain ⟨v', e1, o1⟩ := t.get (i := i) (d := d) (by simpa using e)
      exact ⟨v', by simpa using e1, by unfold flAt at o1 ⊢; simpa using o1⟩
theorem ArgL.nz {U : Gd} {Z : AP} {H : Hp} : ∀ {ds : List D} {vs : List V} {Fl : List (List Addr)} {i : Nat} {a : Addr}, ArgL U Z H ds vs Fl → a ∈ flAt Fl i → ¬ Z a
  | [], vs, Fl, i, a, h, m => by unfold ArgL at h; rw [h.2] at m; unfold flAt at m; simp at m
  | d0 :: ds, vs, Fl, i, a, h, m => by
    unfold ArgL at h
    obtain ⟨v, ws, F, Gl, rfl, rfl, o, nz, _, t⟩ := h
    cases i with
    | zero => exact nz a m
    | succ i => exact t.nz (i := i) (by unfold flAt at m ⊢; simpa using m)
theorem flAt_mem {Fl : List (List Addr)} {i : Nat} {a : Addr} (m : a ∈ flAt Fl i) : ∃ G ∈ Fl, a ∈ G := by
  unfold flAt at m
  cases e : Fl[i]? with
  | none => rw [e] at m; cases m
  | some G => rw [e] at m; exact ⟨G, List.mem_of_getElem? e, m⟩
theorem ArgL.dj {U : Gd} {Z : AP} {H : Hp} : ∀ {ds : List D} {vs : List V} {Fl : List (List Addr)} {i j : Nat} {a : Addr}, ArgL U Z H ds vs Fl → a ∈ flAt Fl i → a ∈ flAt Fl j → i = j
  | [], vs, Fl, i, j, a, h, m, _ => by unfold ArgL at h; rw [h.2] at m; unfold flAt at m; simp at m
  | d0 :: ds, vs, Fl, i, j, a, h, m1, m2 => by
    unfold ArgL at h
    obtain ⟨v, ws, F, Gl, rfl, rfl, o, nz, dj, t⟩ := h
    have sh : ∀ k, flAt (F :: Gl) (k + 1) = flAt Gl k := fun k => by unfold flAt; simp
    cases i with
    | zero =>
      cases j with
      | zero => rfl
      | succ j =>
        rw [sh] at m2
        obtain ⟨G, mG, q⟩ := flAt_mem m2
        exact (dj a m1 G mG q).elim
    | succ i =>
      cases j with
      | zero =>
        rw [sh] at m1
        obtain ⟨G, mG, q⟩ := flAt_mem m1
        exact (dj a m2 G mG q).elim
      | succ j =>
        rw [sh] at m1 m2
        rw [t.dj m1 m2]
theorem spD.imp {U : Gd} {Rm : List Nat} {n : Nat} {F M : List D → FRes} (h : ∀ ds, M ds ≠ .bad → F ds = M ds) : ∀ vs H Q E, spD U Rm n M vs H Q E → spD U Rm n F vs H Q E := fun vs H Q E ⟨Z, ds, Fl, a, l, zd, k⟩ => by
  refine ⟨Z, ds, Fl, a, l, zd, ?_⟩
  have nb : M ds ≠ .bad := fun e => by rw [e] at k; exact k
  rw [h ds nb]
  exact k
/-- the entry -/
theorem SR.start {U : Gd} {Z : AP} {H : Hp} {ds : List D} {vs : List V} {Fl : List (List Addr)} {N : List Str} (a : ArgL U Z H ds vs Fl) (zd : ∀ a, Z a → ∃ o, H a = some o) :
    SR U ⟨H, Z, fun b => (∃ i, b ∈ flAt Fl i) ∨ H b = none⟩ Z (initE N.length ds) (flAt Fl) (start N vs) H where
  len := by unfold initE L2.start; rw [List.length_append, List.length_append, List.length_map, List.length_map, List.length_replicate, List.length_replicate, a.len.1]
  own := fun i d e => by
    have hi : i < ds.length := by
      by_cases hi : i < ds.length
      · exact hi
      · unfold initE at e
        rw [List.getElem?_append_right (by simpa using hi), List.getElem?_replicate] at e
        split at e <;> cases e
    unfold initE at e
    rw [List.getElem?_append_left (by simpa using hi), List.getElem?_map] at e
    have ed : ds[i]? = some d := by
      cases q : ds[i]? with
      | none => rw [q] at e; cases e
      | some d' => rw [q] at e; cases e; rfl
    obtain ⟨v, e1, o⟩ := a.get ed
    refine ⟨v, ?_, o⟩
    unfold L2.start
    rw [List.getElem?_append_left (by simp [a.len.1]; exact hi), List.getElem?_map, e1]
    rfl
  emp := fun i h => by
    by_cases hi : i < ds.length
    · exfalso
      refine h ds[i] ?_
      unfold initE
      rw [List.getElem?_append_left (by simpa using hi), List.getElem?_map, List.getElem?_eq_getElem hi]
      rfl
    · unfold flAt
      rw [List.getElem?_eq_none (by rw [a.len.2]; omega)]
      rfl
  dis := fun i j b m1 m2 => a.dj m1 m2
  nz := fun i b m => a.nz m
  zd := zd
  al := fun i b m => .inl ⟨i, m⟩
  kp := fun b o e _ => e
  zi := fun _ z => z
  zo := fun _ z => .inl z
  dm := fun _ z => z
  fr := fun _ z => .inr z
end DL

set_option Elab.async false
set_option linter.all false
set_option maxRecDepth 100000
namespace DL
open PySem PySem.Spec L2

theorem outsOf_get {r : Env} : ∀ {Rm : List Nat} {os : List D} {k i : Nat} {d : D}, outsOf r Rm = some os → Rm[k]? = some i → os[k]? = some d → r[i]? = some (some d)
  | [], _, _, _, _, _, e, _ => by cases e
  | j :: js, os, k, i, d, h, e1, e2 => by
    unfold outsOf at h
    split at h
    · rename_i d0 ds q1 q2
      cases h
      cases k with
      | zero => cases e1; cases e2; exact q1
      | succ k => exact outsOf_get (k := k) q2 (by simpa using e1) (by simpa using e2)
    · cases h
section
variable {P : Program} {w : World} {K : PySem.W.Frag} {mg : Str → Option Value} {base : Heap} {cm : Str → Option Addr}
/-- THE RULE: a def by its body -/
theorem fnD {x qual : Str} {st : Stmt} {f : Addr} {fd : FuncData} {N ps : List Str} {k n : Nat} {Rm A R : List Nat} {fb : Env → SRes} (Fn : Fun K x qual st f fd) (S : FnScope N ps (defScope st)) (hn : ps.length = n)
    (hb : ∀ (cdv : Value) (A0 : Around) (outer : List PySem.Env) (s : Shared) (H : Hp) (E : XK), Room k (A0.deeper (PyProof.Rows.envOfC qual (defScope st) s.heap.objs.size f cdv)) →
      SB (cxOf (L2.CX P w) P w K mg base N qual (defScope st) f cdv A0 outer s H E) cm (fun c d _ H => E c d H) n R A (defBody st) fb)
    (hR : ∀ j ∈ R, j < n → j ∈ Rm) (hA : ∀ j ∈ Rm, j ∉ A) (hm : ∀ j ∈ Rm, j < n) (nd : Rm.Nodup) :
    FnOk P w K mg base (L2.CX P w) (k + 1) f fd ps (spD ⟨K, cm⟩ Rm n (fnF Rm N.length n A fb)) := by
  refine Fn.okX S (fun vs H Q E h => ?_) fun cdv A0 outer s H vs Q E hr h => ?_
  · obtain ⟨Z, ds, Fl, a, l, _⟩ := h
    rw [a.len.1, l, hn]
  obtain ⟨Z, ds, Fl, al, l, zd, kk⟩ := h
  refine ⟨_, (hb cdv A0 outer s H E hr).run, ⟨H, Z, fun b => (∃ i, b ∈ flAt Fl i) ∨ H b = none⟩, Z, initE N.length ds, flAt Fl, SR.start al zd, ?_⟩
  unfold fnF at kk
  by_cases hc : (ds.length == n && argPure A ds) = true
  · rw [if_pos hc] at kk
    rw [Bool.and_eq_true] at hc
    have fln : ∀ {i : Nat} {a : Addr}, a ∈ flAt Fl i → i < n := fun {i a} m => by
      by_cases hi : i < n
      · exact hi
      · unfold flAt at m
        rw [List.getElem?_eq_none (by rw [al.len.2, l]; omega)] at m
        cases m
    have toRm : ∀ {a : Addr}, (∃ j ∈ R, a ∈ flAt Fl j) → ∃ i ∈ Rm, a ∈ flAt Fl i := fun {a} ⟨j, mj, q⟩ => ⟨j, hR j mj (fln q), q⟩
    have hfo : ∀ {Fs' : Nat → List Addr} {k : Nat} {a : Addr}, a ∈ flAt (Rm.map Fs') k → ∃ i, Rm[k]? = some i ∧ a ∈ Fs' i := fun {Fs' k a} m => by
      unfold flAt at m
      rw [List.getElem?_map] at m
      cases e : Rm[k]? with
      | none => rw [e] at m; cases m
      | some i => rw [e] at m; exact ⟨i, rfl, m⟩
    have fin : ∀ {Z' : AP} {Fs' : Nat → List Addr} {H' : Hp} {s' : St} {r' : Env} {os : List D}, Step Z (flAt Fl) H R A Z' Fs' H' → (∀ i, i ∉ A → s'[i]? = (L2.start N vs)[i]?) → SR ⟨K, cm⟩ ⟨H, Z, fun b => (∃ i, b ∈ flAt Fl i) ∨ H b = none⟩ Z' r' Fs' s' H' → outsOf r' Rm = some os →
        FnEnd ⟨K, cm⟩ Z H Fl vs Rm os Z' H' (Rm.map Fs') := fun {Z' Fs' H' s' r' os} st sl sr ho => by
      refine ⟨fun a o e m => st.keep a o e fun j mj q => m j (hR j mj (fln q)) q, st.zi, fun a z => ?_, sr.zd, st.dm, fun k i d e1 e2 => ?_, fun k a m => ?_, fun k l a m1 m2 => ?_⟩
      · rcases st.zo a z with z | z | z
        · exact .inl z
        · exact .inr (.inl z)
        · exact .inr (.inr (toRm z))
      · have er := outsOf_get ho e1 e2
        obtain ⟨v, es, o⟩ := sr.own i d er
        have mi : i ∈ Rm := List.mem_of_getElem? e1
        rw [sl i (hA i mi)] at es
        refine ⟨v, ?_, ?_⟩
        · unfold L2.start at es
          have hi : i < vs.length := by rw [al.len.1, l]; exact hm i mi
          rw [List.getElem?_append_left (by simpa using hi), List.getElem?_map] at es
          cases q : vs[i]? with
          | none => rw [q] at es; cases es
          | some u => rw [q] at es; cases es; rfl
        · unfold flAt
          rw [List.getElem?_map, e1]
          exact o
      · obtain ⟨i, e1, m⟩ := hfo m
        refine ⟨sr.nz i a m, ?_⟩
        rcases st.fw i a m with z | z | z
        · exact .inr ⟨i, List.mem_of_getElem? e1, z⟩
        · exact .inl z
        · exact .inr (toRm z)
      · obtain ⟨i, e1, m1⟩ := hfo m1
        obtain ⟨j, e2, m2⟩ := hfo m2
        have eij := sr.dis i j a m1 m2
        subst eij
        have hk : k < Rm.length := (List.getElem?_eq_some_iff.mp e1).1
        have hl : l < Rm.length := (List.getElem?_eq_some_iff.mp e2).1
        exact (List.getElem?_inj hk nd).mp (by rw [e1, e2])
    have res : ∀ {Z' : AP} {Fs' : Nat → List Addr} {H' : Hp} {G : List Addr}, Step Z (flAt Fl) H R A Z' Fs' H' → (∀ a ∈ G, ¬ Z' a ∧ ((∃ i, a ∈ flAt Fl i) ∨ H a = none) ∧ ∀ k, k < n → a ∉ Fs' k) →
        ∀ a ∈ G, ¬ Z' a ∧ (H a = none ∨ ∃ i ∈ Rm, a ∈ flAt Fl i) ∧ ∀ k, a ∉ flAt (Rm.map Fs') k := fun {Z' Fs' H' G} st hG a m => by
      obtain ⟨h1, h2, h3⟩ := hG a m
      refine ⟨h1, ?_, fun k q => ?_⟩
      · rcases h2 with ⟨i, q⟩ | h2
        · have hi := fln q
          by_cases c1 : i ∈ Rm
          · exact .inr ⟨i, c1, q⟩
          · by_cases c2 : i ∈ A
            · have hp := List.all_eq_true.mp hc.2 i c2
              have hd : ds[i]? = some (ds[i]'(by rw [l]; exact hi)) := List.getElem?_eq_getElem _
              rw [hd] at hp
              obtain ⟨v, _, o⟩ := al.get hd
              rw [o.pureF hp] at q
              cases q
            · exact (h3 i hi (by rw [st.fs i (fun z => c1 (hR i z hi)) c2]; exact q)).elim
        · exact .inl h2
      · obtain ⟨i, e1, q⟩ := hfo q
        exact h3 i (hm i (List.mem_of_getElem? e1)) q
    cases hf : fb (initE N.length ds) with
    | ret d r' =>
      rw [hf] at kk
      intro Z' Fs' H' s' v F ev o cond
      have kk : postF ⟨K, cm⟩ Z H Fl vs Rm (retF Rm d r') Q E := kk
      unfold retF at kk
      cases ho : outsOf r' Rm with
      | none => rw [ho] at kk; exact kk.elim
      | some os =>
        rw [ho] at kk
        exact kk Z' H' v F _ (fin ev.st ev.sl ev.sr ho) o (res ev.st cond)
    | next r' =>
      rw [hf] at kk
      intro Z' Fs' H' s' ev
      have kk : postF ⟨K, cm⟩ Z H Fl vs Rm (retF Rm .non r') Q E := kk
      unfold retF at kk
      cases ho : outsOf r' Rm with
      | none => rw [ho] at kk; exact kk.elim
      | some os =>
        rw [ho] at kk
        exact kk Z' H' .non [] _ (fin ev.st ev.sl ev.sr ho) Own.non fun _ m => nomatch m
    | exc c fs xs r' =>
      rw [hf] at kk
      intro Z' Fs' s' H' C dd st sl sr hcm hx
      have kk : postF ⟨K, cm⟩ Z H Fl vs Rm (match outsOf r' Rm with | some os => .exc c fs xs os | none => .bad) Q E := kk
      cases ho : outsOf r' Rm with
      | none => rw [ho] at kk; exact kk.elim
      | some os =>
        rw [ho] at kk
        exact kk Z' H' _ C dd (fin st sl sr ho) hcm hx
    | brk r' => rw [hf] at kk; exact kk.elim
    | cont r' => rw [hf] at kk; exact kk.elim
    | bad => rw [hf] at kk; exact kk.elim
  · rw [if_neg hc] at kk; exact kk.elim
end

/-! ### calls -/
def oneImp : List D → Bool
  | [] => true
  | d :: ds => if d.pure then oneImp ds else pureL ds
theorem ValL.pureG {U : Gd} {E : En} {Z : AP} {Fs : Nat → List Addr} {H : Hp} {B : List Nat} : ∀ {ds : List D} {ws : List V} {Gl : List (List Addr)}, ValL U E Z H Fs B ds ws Gl → pureL ds = true → (∀ G ∈ Gl, G = []) ∧ oneImp ds = true := by
  intro ds
  induction ds with
  | nil => intro ws Gl h _; unfold ValL at h; rw [h.2]; exact ⟨fun _ m => (nomatch m), rfl⟩
  | cons x xs ih =>
    intro ws Gl h hp
    unfold ValL at h
    obtain ⟨u, us, F1, Gl1, rfl, rfl, hu, hus, _⟩ := h
    have hp' : (x.pure && pureL xs) = true := hp
    rw [Bool.and_eq_true] at hp'
    obtain ⟨k1, k2⟩ := ih hus hp'.2
    have e := hu.own.pureF hp'.1
    subst e
    refine ⟨fun G m => ?_, by unfold oneImp; rw [if_pos hp'.1]; exact k2⟩
    rcases List.mem_cons.mp m with rfl | m
    · rfl
    · exact k1 G m
theorem ValL.args {U : Gd} {E : En} {Z : AP} {Fs : Nat → List Addr} {H : Hp} {B : List Nat} : ∀ {ds : List D} {vs : List V} {Fl : List (List Addr)}, ValL U E Z H Fs B ds vs Fl → oneImp ds = true → ArgL U Z H ds vs Fl
  | [], _, _, h, _ => by unfold ValL at h; unfold ArgL; exact h
  | d :: ds, vs, Fl, h, hi => by
    unfold ValL at h
    obtain ⟨v, ws, F, Gl, rfl, rfl, hv, ht, hc⟩ := h
    unfold oneImp at hi
    unfold ArgL
    by_cases c : d.pure = true
    · rw [if_pos c] at hi
      have e := hv.own.pureF c
      subst e
      exact ⟨v, ws, [], Gl, rfl, rfl, hv.own, fun _ m => (nomatch m), fun _ m => (nomatch m), ht.args hi⟩
    · rw [if_neg c] at hi
      obtain ⟨k1, k2⟩ := ht.pureG hi
      exact ⟨v, ws, F, Gl, rfl, rfl, hv.own, hv.nz, (fun a _ G mG q => by rw [k1 G mG] at q; cases q), ht.args k2⟩
/-- a call that changes nothing of ours -/
theorem SR.call0 {U : Gd} {E : En} {Z Z' : AP} {r : Env} {Fs : Nat → List Addr} {s : St} {H H' : Hp} (S : SR U E Z r Fs s H) (keep : ∀ a o, H a = some o → H' a = some o) (zi : ∀ a, Z a → Z' a) (zo : ∀ a, Z' a → Z a ∨ H a = none) (zd : ∀ a, Z' a → ∃ o, H' a = some o) (dm : ∀ a, H' a = none → H a = none) :
    SR U E Z' r Fs s H' ∧ Step Z Fs H [] [] Z' Fs H' :=
  ⟨⟨S.len, fun i d e => by
    obtain ⟨v, e1, o⟩ := S.own i d e
    exact ⟨v, e1, o.mono zi fun a u q _ => keep a u q⟩, S.emp, S.dis, fun i a m z => by
    rcases zo a z with z | z
    · exact S.nz i a m z
    · obtain ⟨o, e⟩ := S.dom i a m
      exact some_none e z, zd, S.al, fun a o e n => keep a o (S.kp a o e n), fun a z => zi a (S.zi a z), fun a z => by
    rcases zo a z with z | z
    · exact S.zo a z
    · exact .inr (S.fr a (S.dm a z)), fun a e => S.dm a (dm a e), S.fr⟩,
   ⟨fun a o e _ => keep a o e, zi, fun a z => (zo a z).elim .inl fun z => .inr (.inl z), dm, fun _ _ _ => rfl, fun _ _ m => .inl m⟩⟩
def fUser (n : Nat) (F : List D → FRes) (fs : Env → Res (List D)) : Env → Res D := fun r => (fs r).bind fun ds r1 => if (oneImp ds && ds.length == n) then match F ds with
  | .ok d _ => .ok d r1
  | .exc c xs vs _ => .exc c xs vs r1
  | .bad => .bad
  else .bad
/-- .. with the first argument, the thing in slot i, changed -/
def fUserM (i n : Nat) (F : List D → FRes) (fs : Env → Res (List D)) : Env → Res D := fun r => match r[i]? with
  | some (some _) => (fs r).bind fun ds r1 => match r1[i]? with
    | some (some d0) => if (pureL ds && ds.length + 1 == n) then match F (d0 :: ds) with
      | .ok d [d1] => .ok d (r1.set i (some d1))
      | .exc c xs vs [d1] => .exc c xs vs (r1.set i (some d1))
      | _ => .bad
      else .bad
    | _ => .bad
  | _ => .bad
section
variable {X : Cx} {cm : Str → Option Addr} {W : WX} {R B : List Nat} {e : Expr} {es : List Expr} {fs : Env → Res (List D)} {x y : Str} {p pos py : Pos} {k n : Nat} {f : Addr} {fd : FuncData} {ps : List Str} {F : List D → FRes}
theorem SX.user (G : FnOk X.prog X.w X.K X.mg X.base (L2.CX X.prog X.w) k f fd ps (spD ⟨X.K, cm⟩ [] n F)) (hr : Room k X.A) (hm : X.mg x = some (.ref f)) (hk : PySem.W.keepIn X.K (.ref f) = true) (hb : Binds X.K fd ps []) (tk : Takes X W) (ha : SA X cm W R B (e :: es) fs) (hg : Gl X x := by rfl)
    (hdb : (x == ("__debug__" : Str)) = false := by decide) (he : starEach (e :: es) X.env = (false, eval e X.env) :: starEach es X.env := by rfl) (hpl : (backTo pos (starEach es X.env)).any (·.1) = false := by rfl) :
    SX X cm W R [] (.Call (.Name x p) (e :: es) [] pos) (fUser n F fs) :=
  .of (pe_callSD (E := fun s => WE W s) G hr hg hm hk hb .nil (fun s => passAt tk s) ha.run hdb he hpl) fun E Z r Fs s H Q S p => by
    refine ⟨E, Z, r, Fs, S, bindL (R2 := []) (B := []) (by rw [List.append_nil]; exact p) fun ds r1 Z1 Fs1 H1 vs Fl q1 e1 p1 => ?_⟩
    unfold fUser at p
    rw [q1, Res.bind_ok] at p
    by_cases c : (oneImp ds && ds.length == n) = true
    · rw [if_pos c] at p
      rw [Bool.and_eq_true] at c
      have al := e1.val.args c.1
      rw [List.append_nil]
      have hn : ds.length = n := by simpa using c.2
      refine ⟨Z1, ds, Fl, al, hn, e1.sr.zd, ?_⟩
      have key : ∀ {outs : List D} {Z' : AP} {H' : Hp} {Fo : List (List Addr)}, FnEnd ⟨X.K, cm⟩ Z1 H1 Fl vs [] outs Z' H' Fo → SR ⟨X.K, cm⟩ E Z' r1 Fs1 s H' ∧ Step Z1 Fs1 H1 [] [] Z' Fs1 H' := fun {outs Z' H' Fo} fe =>
        e1.sr.call0 (fun a o e => fe.keep a o e fun _ m => nomatch m) fe.zi (fun a z => (fe.zo a z).imp_right fun z => z.elim id fun ⟨_, m, _⟩ => nomatch m) fe.zd fe.dm
      have t0 : ∀ {Z' : AP} {H' : Hp}, Step Z1 Fs1 H1 [] [] Z' Fs1 H' → Step Z Fs H R [] Z' Fs1 H' := fun {Z' H'} t => by
        have := e1.st.trans t
        rw [List.append_nil] at this
        exact this
      cases hF : F ds with
      | bad => rw [hF] at p; exact p.elim
      | ok d outs =>
        rw [hF] at p
        intro Z' H' v G' Fo fe o cond
        obtain ⟨sr, st⟩ := key fe
        have fr : ∀ a ∈ G', H1 a = none := fun a m => (cond a m).2.1.elim id fun ⟨_, q, _⟩ => nomatch q
        exact p Z' Fs1 H' v G' ⟨t0 st, sr, ⟨o, fun a m => (cond a m).1, fun a m => e1.sr.fr a (e1.sr.dm a (fr a m)), fun a m k q => by
          obtain ⟨u, eu⟩ := e1.sr.dom k a q
          exact (some_none eu (fr a m)).elim⟩, fun a m => .inr (.inl (e1.st.dm a (fr a m)))⟩
      | exc c xs us outs =>
        rw [hF] at p
        intro Z' H' Fo C dd fe hc hx
        obtain ⟨sr, st⟩ := key fe
        exact p Z' Fs1 s H' C dd (t0 st) (fun _ _ => rfl) sr hc hx
    · rw [if_neg c] at p; exact p.elim
theorem SX.userM (i : Nat) (G : FnOk X.prog X.w X.K X.mg X.base (L2.CX X.prog X.w) k f fd ps (spD ⟨X.K, cm⟩ [0] n F)) (hr : Room k X.A) (hm : X.mg x = some (.ref f)) (hk : PySem.W.keepIn X.K (.ref f) = true) (hb : Binds X.K fd ps []) (tk : Takes X W) (ha : SA X cm W R B es fs)
    (hN : X.N[i]? = some y := by rfl) (hv : Vis X.env.scope y := by first | exact Or.inl rfl | exact Or.inr (Or.inl rfl) | exact Or.inr (Or.inr rfl)) (hdy : (y == ("__debug__" : Str)) = false := by decide)
    (hcd : (y == ("__classdict__" : Str)) = false := by decide) (hg : Gl X x := by rfl)
    (hdb : (x == ("__debug__" : Str)) = false := by decide) (he : starEach (.Name y py :: es) X.env = (false, eval (.Name y py) X.env) :: starEach es X.env := by rfl) (hpl : (backTo pos (starEach es X.env)).any (·.1) = false := by rfl) :
    SX X cm W (R ++ [i]) [] (.Call (.Name x p) (.Name y py :: es) [] pos) (fUserM i n F fs) :=
  .of (pe_callSD (E := fun s => WE W s) G hr hg hm hk hb .nil (fun s => passAt tk s) (pa_cons (pe_var hN hv hdy hcd) ha.run he) hdb he hpl) fun E Z r Fs s H Q S p => by
    unfold fUserM at p
    cases h : r[i]? with
    | none => rw [h] at p; exact p.elim
    | some o =>
      cases o with
      | none => rw [h] at p; exact p.elim
      | some dz =>
        rw [h] at p
        obtain ⟨v0, h0, _⟩ := S.own i dz h
        refine ⟨v0, h0, E, Z, r, Fs, S, bindL (R2 := [i]) (B := []) p fun ds r1 Z1 Fs1 H1 vs Fl q1 e1 p1 => ?_⟩
        cases h1 : r1[i]? with
        | none => simp only [h1] at p1; exact p1.elim
        | some o1 =>
          cases o1 with
          | none => simp only [h1] at p1; exact p1.elim
          | some d0 =>
            simp only [h1] at p1
            by_cases c : (pureL ds && ds.length + 1 == n) = true
            · rw [if_pos c] at p1
              rw [Bool.and_eq_true] at c
              obtain ⟨k1, k2⟩ := e1.val.pureG c.1
              obtain ⟨v1, h01, o0⟩ := e1.sr.own i d0 h1
              have ev : v1 = v0 := by rw [h0] at h01; cases h01; rfl
              subst ev
              have al : ArgL ⟨X.K, cm⟩ Z1 H1 (d0 :: ds) (v1 :: vs) (Fs1 i :: Fl) := by
                unfold ArgL
                exact ⟨v1, vs, Fs1 i, Fl, rfl, rfl, o0, fun a m => e1.sr.nz i a m, (fun a _ G mG q => by rw [k1 G mG] at q; cases q), e1.val.args k2⟩
              rw [List.append_nil]
              have hn : (d0 :: ds).length = n := by simpa using c.2
              refine ⟨Z1, d0 :: ds, Fs1 i :: Fl, al, hn, e1.sr.zd, ?_⟩
              have key : ∀ {d1 : D} {Z' : AP} {H' : Hp} {Fo : List (List Addr)}, FnEnd ⟨X.K, cm⟩ Z1 H1 (Fs1 i :: Fl) (v1 :: vs) [0] [d1] Z' H' Fo → SR ⟨X.K, cm⟩ E Z' (r1.set i (some d1)) (fun k => if k = i then flAt Fo 0 else Fs1 k) s H' ∧ Step Z1 Fs1 H1 [i] [] Z' (fun k => if k = i then flAt Fo 0 else Fs1 k) H' := fun {d1 Z' H' Fo} fe => by
                have keep : ∀ a u, H1 a = some u → a ∉ Fs1 i → H' a = some u := fun a u e m => fe.keep a u e fun j mj q => by
                  rw [List.mem_singleton.mp mj] at q
                  exact m q
                have zo : ∀ a, Z' a → Z1 a ∨ H1 a = none ∨ a ∈ Fs1 i := fun a z => (fe.zo a z).imp_right fun z => z.imp_right fun ⟨j, mj, q⟩ => by
                  rw [List.mem_singleton.mp mj] at q
                  exact q
                have fo : ∀ a, a ∈ flAt Fo 0 → ¬ Z' a ∧ (H1 a = none ∨ a ∈ Fs1 i) := fun a m => ⟨(fe.fo 0 a m).1, (fe.fo 0 a m).2.imp_right fun ⟨j, mj, q⟩ => by
                  rw [List.mem_singleton.mp mj] at q
                  exact q⟩
                obtain ⟨v2, ev2, o2⟩ := fe.outs 0 0 d1 rfl rfl
                cases ev2
                have nk : ∀ {k : Nat} {a : Addr}, k ≠ i → a ∈ Fs1 k → a ∉ flAt Fo 0 := fun {k a} ck m q => by
                  rcases (fo a q).2 with z | z
                  · obtain ⟨u, eu⟩ := e1.sr.dom k a m
                    exact some_none eu z
                  · exact ck (e1.sr.dis k i a m z)
                refine ⟨⟨by rw [List.length_set]; exact e1.sr.len, fun j d e => ?_, fun j hj => ?_, fun j l a m1 m2 => ?_, fun j a m => ?_, fe.zd, fun j a m => ?_, fun a u e n => keep a u (e1.sr.kp a u e n) fun m => n (e1.sr.al i a m), fun a z => fe.zi a (e1.sr.zi a z), fun a z => ?_, fun a e => e1.sr.dm a (fe.dm a e), e1.sr.fr⟩, ⟨fun a u e m => keep a u e (m i List.mem_cons_self), fe.zi, fun a z => (zo a z).imp_right fun z => z.imp_right fun z => ⟨i, List.mem_cons_self, z⟩, fe.dm, fun j m1 _ => ?_, fun j a m => ?_⟩⟩
                · show ∃ v, s[j]? = some (some v) ∧ Own ⟨X.K, cm⟩ Z' H' d v (if j = i then flAt Fo 0 else Fs1 j)
                  by_cases cj : j = i
                  · subst cj
                    rw [List.getElem?_set_self (List.getElem?_eq_some_iff.mp h1).1] at e
                    cases e
                    rw [if_pos rfl]
                    exact ⟨_, h0, o2⟩
                  · rw [List.getElem?_set_ne (Ne.symm cj)] at e
                    rw [if_neg cj]
                    obtain ⟨v, ee, oo⟩ := e1.sr.own j d e
                    exact ⟨v, ee, oo.mono fe.zi fun a u q z => keep a u q fun m => z.elim (e1.sr.nz i a m) fun z => cj (e1.sr.dis j i a z m)⟩
                · show (if j = i then flAt Fo 0 else Fs1 j) = []
                  by_cases cj : j = i
                  · subst cj
                    exact absurd (List.getElem?_set_self (List.getElem?_eq_some_iff.mp h1).1) (hj d1)
                  · rw [if_neg cj]
                    exact e1.sr.emp j fun d e => hj d (by rw [List.getElem?_set_ne (Ne.symm cj)]; exact e)
                · have m1' : a ∈ (if j = i then flAt Fo 0 else Fs1 j) := m1
                  have m2' : a ∈ (if l = i then flAt Fo 0 else Fs1 l) := m2
                  by_cases c1 : j = i
                  · by_cases c2 : l = i
                    · rw [c1, c2]
                    · rw [if_pos c1] at m1'; rw [if_neg c2] at m2'
                      exact (nk c2 m2' m1').elim
                  · by_cases c2 : l = i
                    · rw [if_neg c1] at m1'; rw [if_pos c2] at m2'
                      exact (nk c1 m1' m2').elim
                    · rw [if_neg c1] at m1'; rw [if_neg c2] at m2'
                      exact e1.sr.dis j l a m1' m2'
                · have m' : a ∈ (if j = i then flAt Fo 0 else Fs1 j) := m
                  by_cases cj : j = i
                  · rw [if_pos cj] at m'; exact (fo a m').1
                  · rw [if_neg cj] at m'
                    intro z
                    rcases zo a z with z | z | z
                    · exact e1.sr.nz j a m' z
                    · obtain ⟨u, eu⟩ := e1.sr.dom j a m'
                      exact some_none eu z
                    · exact cj (e1.sr.dis j i a m' z)
                · have m' : a ∈ (if j = i then flAt Fo 0 else Fs1 j) := m
                  by_cases cj : j = i
                  · rw [if_pos cj] at m'
                    rcases (fo a m').2 with z | z
                    · exact e1.sr.fr a (e1.sr.dm a z)
                    · exact e1.sr.al i a z
                  · rw [if_neg cj] at m'; exact e1.sr.al j a m'
                · rcases zo a z with z | z | z
                  · exact e1.sr.zo a z
                  · exact .inr (e1.sr.fr a (e1.sr.dm a z))
                  · exact .inr (e1.sr.al i a z)
                · show (if j = i then flAt Fo 0 else Fs1 j) = Fs1 j
                  rw [if_neg (fun q => m1 (by rw [q]; exact List.mem_cons_self))]
                · have m' : a ∈ (if j = i then flAt Fo 0 else Fs1 j) := m
                  by_cases cj : j = i
                  · rw [if_pos cj] at m'
                    rcases (fo a m').2 with z | z
                    · exact .inr (.inl z)
                    · rw [cj]; exact .inl z
                  · rw [if_neg cj] at m'; exact .inl m'
              cases hF : F (d0 :: ds) with
              | bad => simp only [hF] at p1; exact p1.elim
              | ok d outs =>
                simp only [hF] at p1
                match outs, p1 with
                | [d1], p1 =>
                  intro Z' H' v G' Fo fe o cond
                  obtain ⟨sr, st⟩ := key fe
                  refine p1 Z' _ H' v G' ⟨st, sr, ⟨o, fun a m => (cond a m).1, fun a m => ?_, fun a m k q => ?_⟩, fun a m => ?_⟩
                  · rcases (cond a m).2.1 with z | ⟨j, mj, z⟩
                    · exact e1.sr.fr a (e1.sr.dm a z)
                    · rw [List.mem_singleton.mp mj] at z; exact e1.sr.al i a z
                  · have q' : a ∈ (if k = i then flAt Fo 0 else Fs1 k) := q
                    exfalso
                    by_cases ck : k = i
                    · rw [if_pos ck] at q'; exact (cond a m).2.2 0 q'
                    · rw [if_neg ck] at q'
                      rcases (cond a m).2.1 with z | ⟨j, mj, z⟩
                      · obtain ⟨u, eu⟩ := e1.sr.dom k a q'
                        exact some_none eu z
                      · rw [List.mem_singleton.mp mj] at z; exact ck (e1.sr.dis k i a q' z)
                  · rcases (cond a m).2.1 with z | ⟨j, mj, z⟩
                    · exact .inr (.inl z)
                    · rw [List.mem_singleton.mp mj] at z; exact .inr (.inr ⟨i, List.mem_cons_self, z⟩)
                | [], p1 => exact p1.elim
                | _ :: _ :: _, p1 => exact p1.elim
              | exc cc xs us outs =>
                simp only [hF] at p1
                match outs, p1 with
                | [d1], p1 =>
                  intro Z' H' Fo C dd fe hcm hx
                  obtain ⟨sr, st⟩ := key fe
                  exact p1 Z' _ s H' C dd st (fun _ _ => rfl) sr hcm hx
                | [], p1 => exact p1.elim
                | _ :: _ :: _, p1 => exact p1.elim
            · rw [if_neg c] at p1; exact p1.elim
end
end DL

set_option Elab.async false
set_option linter.all false
set_option maxRecDepth 100000
namespace DL
open PySem PySem.Spec L2

/-! ### dicts of the module: written keys, flat values -/
def keyVal : Key → Tok → Value
  | .inl i, t => .int i t
  | .inr x, t => .str x t
def WTabL (w : World) : List DictEntry → List (Key × D) → Prop
  | [], [] => True
  | e :: es, p :: ps => (∃ t, e.key = keyVal p.1 t) ∧ e.hash = keyH w p.1 ∧ RelV (vOf p.2) e.val ∧ flatD p.2 = true ∧ WTabL w es ps
  | _, _ => False
structure WTab (K : PySem.W.Frag) (w : World) (a : Addr) (T : List (Key × D)) : Prop where
  at_ : ∃ es n, K.lookup a = some ⟨.type "dict", none, .dict es n, #[]⟩ ∧ WTabL w es.toList T
  low : (a == sysModules) = false
def wGet : List (Key × D) → Key → Option D
  | [], _ => none
  | p :: ps, k => if p.1 = k then some p.2 else wGet ps k
def keyD : D → Option Key
  | .int i => some (.inl i)
  | .str x => some (.inr x)
  | _ => none
theorem keyIs_val (k : Key) (t : Tok) : keyIs k (keyVal k t) = true := by
  cases k with
  | inl i => exact keyIs_int i t
  | inr x => exact keyIs_str x t
theorem keyIs_dec (prog : Program) (w : World) (k j : Key) (t : Tok) : keyIs j (keyVal k t) = decide (k = j) := by
  by_cases h : k = j
  · subst h; rw [keyIs_val]; simp
  · rw [decide_eq_false h]
    cases q : keyIs j (keyVal k t) with
    | false => rfl
    | true => exact absurd ((mixKind prog w).inj _ _ _ (keyIs_val k t) q) h
section
variable {P : Program} {w : World}
theorem wtab_find : ∀ {es : List DictEntry} {T : List (Key × D)}, WTabL w es T → ∀ k : Key, (match wGet T k with
    | some d => ∃ u, findBy (mixKind P w).is es.toArray k = some u ∧ RelV (vOf d) u ∧ flatD d = true
    | none => findBy (mixKind P w).is es.toArray k = none)
  | [], [], _, k => by show findBy _ _ _ = none; unfold findBy; simp
  | [], _ :: _, h, _ => h.elim
  | _ :: _, [], h, _ => h.elim
  | e :: es, p :: ps, h, k => by
    obtain ⟨⟨t, ek⟩, _, rv, fl, hr⟩ := h
    have hi : (mixKind P w).is k e.key = decide (p.1 = k) := by rw [ek]; exact keyIs_dec P w p.1 k t
    have ih := wtab_find hr k
    have ff : findBy (mixKind P w).is (e :: es).toArray k = if p.1 = k then some e.val else findBy (mixKind P w).is es.toArray k := by
      unfold findBy
      rw [List.find?_toArray, List.find?_toArray, List.find?_cons, hi]
      by_cases c : p.1 = k
      · rw [if_pos c, decide_eq_true c]; rfl
      · rw [if_neg c, decide_eq_false c]
    by_cases c : p.1 = k
    · have e1 : wGet (p :: ps) k = some p.2 := by show (if p.1 = k then some p.2 else wGet ps k) = _; rw [if_pos c]
      rw [e1]
      rw [if_pos c] at ff
      exact ⟨e.val, ff, rv, fl⟩
    · have e1 : wGet (p :: ps) k = wGet ps k := by show (if p.1 = k then some p.2 else wGet ps k) = _; rw [if_neg c]
      rw [e1]
      rw [if_neg c] at ff
      rw [ff]
      exact ih
theorem wtab_keys : ∀ {es : List DictEntry} {T : List (Key × D)}, WTabL w es T → ∀ e ∈ es, ∃ k, (mixKind P w).is k e.key = true ∧ e.hash = (mixKind P w).hash k
  | [], _, _, _, m => nomatch m
  | _ :: _, [], h, _, _ => h.elim
  | e :: es, p :: ps, h, d, m => by
    obtain ⟨⟨t, ek⟩, eh, rv, fl, hr⟩ := h
    rcases List.mem_cons.mp m with rfl | m
    · exact ⟨p.1, by rw [ek]; exact keyIs_val p.1 t, eh⟩
    · exact wtab_keys hr d m
end
section
variable {X : Cx} {cm : Str → Option Addr} {W : WX} {a : Addr} {T : List (Key × D)}
theorem WTab.map {pins : List (Addr × Obj)} {s : St} {H : Hp} {sh : Shared} (D : WTab X.K X.w a T) (I : L2.Inv X pins s H sh) : ∃ f, sh.heap.MapOf (mixKind X.prog X.w) a f ∧ ∀ k : Key, (match wGet T k with
    | some d => ∃ u, f k = some u ∧ RelV (vOf d) u ∧ flatD d = true
    | none => f k = none) := by
  obtain ⟨es, n, hl, ht⟩ := D.at_
  obtain ⟨l⟩ := es
  refine ⟨fun k => findBy (mixKind X.prog X.w).is l.toArray k, ⟨_, l.toArray, n, I.kIn _ _ hl, ⟨rfl, rfl, rfl⟩, rfl, fun e m => wtab_keys ht e (by simpa using m), fun _ => rfl⟩, fun k => wtab_find ht k⟩
def rWIx (a : Addr) (T : List (Key × D)) : L2.R2 := fun x y H Q => ∃ k d, x = .ref a ∧ y = kV k ∧ wGet T k = some d ∧ Q (vOf d) H
theorem kV_rel {k : Key} {u : Value} (r : RelV (kV k) u) : keyIs k u = true := by
  cases k with
  | inl i => obtain ⟨t, rfl⟩ := r; exact keyIs_int i t
  | inr x => obtain ⟨t, rfl⟩ := r; exact keyIs_str x t
theorem ix_wt (D : WTab X.K X.w a T) : IxR X (rWIx a T) := by
  intro value slice pins s H0 H x y v u Q I rx ry h hs
  obtain ⟨k, d, rfl, rfl, e, q⟩ := h
  cases rx
  obtain ⟨f, hm, hf⟩ := D.map I
  have hk := hf k
  rw [e] at hk
  obtain ⟨u0, fk, rv, fl⟩ := hk
  exact PyProof.Rows.tail_any hm.typeIs slot_dict_getitem.lookup (wpAny_getItem_of (knd := mixKind X.prog X.w) (kV_rel ry) hm fk ⟨vOf d, H, I.tok _, rv, q⟩) hs
def rWIn (a : Addr) (T : List (Key × D)) (neg : Bool) : L2.R2 := fun x y H Q => ∃ k, x = kV k ∧ y = .ref a ∧ Q (.bl (if neg then !(wGet T k).isSome else (wGet T k).isSome)) H
theorem f_some {f : Key → Option Value} {k : Key} (h : match wGet T k with
    | some d => ∃ u, f k = some u ∧ RelV (vOf d) u ∧ flatD d = true
    | none => f k = none) : (f k).isSome = (wGet T k).isSome := by
  cases e : wGet T k with
  | none => rw [e] at h; rw [h]; rfl
  | some d => rw [e] at h; obtain ⟨u, fu, _⟩ := h; rw [fu]; rfl
theorem op_in_wt (D : WTab X.K X.w a T) : OpR X (compareOp .In) (rWIn a T false) := by
  intro pins s H0 H x y v u Q I rx ry h
  obtain ⟨k, rfl, rfl, q⟩ := h
  cases ry
  obtain ⟨f, hm, hf⟩ := D.map I
  exact wpAny_in_of (knd := mixKind X.prog X.w) (kV_rel rx) D.low hm ⟨.bl _, H, I.tok _, rfl, by rw [f_some (hf k)]; exact q⟩
theorem op_notIn_wt (D : WTab X.K X.w a T) : OpR X (compareOp .NotIn) (rWIn a T true) := by
  intro pins s H0 H x y v u Q I rx ry h
  obtain ⟨k, rfl, rfl, q⟩ := h
  cases ry
  obtain ⟨f, hm, hf⟩ := D.map I
  exact wpAny_notIn_of (knd := mixKind X.prog X.w) (kV_rel rx) D.low hm ⟨.bl _, H, I.tok _, rfl, by rw [f_some (hf k)]; exact q⟩
theorem keyD_own {U : Gd} {Z : AP} {H : Hp} {d : D} {v : V} {F : List Addr} {k : Key} (o : Own U Z H d v F) (h : keyD d = some k) : v = kV k := by
  cases d <;> first
    | (cases h; obtain ⟨rfl, _⟩ := Own.int_iff.mp o; rfl)
    | (cases h; obtain ⟨rfl, _⟩ := Own.str_iff.mp o; rfl)
    | cases h
theorem flat_own {U : Gd} {Z : AP} {H : Hp} {d : D} (h : flatD d = true) : Own U Z H d (vOf d) [] ∧ d.pure = true := by
  cases d <;> first
    | exact ⟨Own.non, rfl⟩
    | exact ⟨Own.bl, rfl⟩
    | exact ⟨Own.int, rfl⟩
    | exact ⟨Own.str, rfl⟩
    | cases h
theorem wGet_flat {w : World} : ∀ {es : List DictEntry} {T : List (Key × D)} {k : Key} {d : D}, WTabL w es T → wGet T k = some d → flatD d = true
  | [], [], _, _, _, e => nomatch e
  | [], _ :: _, _, _, h, _ => h.elim
  | _ :: _, [], _, _, h, _ => h.elim
  | e :: es, p :: ps, k, d, h, q => by
    obtain ⟨_, _, _, fl, hr⟩ := h
    have q' : (if p.1 = k then some p.2 else wGet ps k) = some d := q
    by_cases c : p.1 = k
    · rw [if_pos c] at q'; cases q'; exact fl
    · rw [if_neg c] at q'; exact wGet_flat hr q'
def fWIx (T : List (Key × D)) (f : Env → Res D) : Env → Res D := fun r => (f r).bind fun d r1 => optR ((keyD d).bind (wGet T)) r1
def wIn (T : List (Key × D)) (neg : Bool) (d : D) (r : Env) : Res D := match keyD d with
  | some k => .ok (.bl (if neg then !(wGet T k).isSome else (wGet T k).isSome)) r
  | none => .bad
def fWIn (T : List (Key × D)) (neg : Bool) (f : Env → Res D) : Env → Res D := fun r => (f r).bind (wIn T neg)
variable {R B : List Nat} {b : Expr} {f : Env → Res D} {x : Str} {p pos : Pos}
theorem SX.wix (D : WTab X.K X.w a T) (hm : X.mg x = some (.ref a)) (hb : SX X cm W R B b f) (hg : Gl X x := by rfl) (hd : (x == ("__debug__" : Str)) = false := by decide) (hs : PlainIx b := by intro _ _; rfl) : SX X cm W R [] (.Subscript (.Name x p) b pos) (fWIx T f) :=
  .of (pe_ix (ix_wt D) (pe_glob (v := .ref a) hg hm rfl hd) hb.run hs) fun E Z r Fs s H Q S p => by
    refine ⟨E, Z, r, Fs, S, bindE (R2 := []) (by rw [List.append_nil]; exact p) fun d r1 Z1 Fs1 H1 v F q1 e1 p1 => ?_⟩
    unfold fWIx at p
    rw [q1, Res.bind_ok] at p
    cases hk : keyD d with
    | none => rw [hk] at p; exact p.elim
    | some k =>
      rw [hk] at p
      cases hw : wGet T k with
      | none =>
        have p' : postE ⟨X.K, cm⟩ W E Z Fs H s R [] (optR (wGet T k) r1) Q := p
        rw [hw] at p'; exact p'.elim
      | some z =>
        have p' : postE ⟨X.K, cm⟩ W E Z Fs H s R [] (optR (wGet T k) r1) Q := p
        rw [hw] at p'
        obtain ⟨es, n, _, ht⟩ := D.at_
        obtain ⟨o, pu⟩ := flat_own (U := ⟨X.K, cm⟩) (Z := Z1) (H := H1) (wGet_flat ht hw)
        exact ⟨k, z, rfl, keyD_own e1.val.own hk, hw, p' Z1 Fs1 H1 _ [] (e1.afterP o pu)⟩
theorem wIn_post {neg : Bool} {E : En} {Z : AP} {r : Env} {Fs : Nat → List Addr} {s : St} {H : Hp} {Q : VK} (S : SR ⟨X.K, cm⟩ E Z r Fs s H) (p : postE ⟨X.K, cm⟩ W E Z Fs H s R [] (fWIn T neg f r) Q) : tOp (rWIn a T neg) (tX ⟨X.K, cm⟩ W R B f) (tC (.ref a)) s H Q := by
  refine ⟨E, Z, r, Fs, S, bindE (R2 := []) (by rw [List.append_nil]; exact p) fun d r1 Z1 Fs1 H1 v F q1 e1 p1 => ?_⟩
  unfold fWIn at p
  rw [q1, Res.bind_ok] at p
  unfold wIn at p
  cases hk : keyD d with
  | none => rw [hk] at p; exact p.elim
  | some k =>
    rw [hk] at p
    exact ⟨k, keyD_own e1.val.own hk, rfl, p Z1 Fs1 H1 _ [] (e1.afterP Own.bl rfl)⟩
theorem SX.win (D : WTab X.K X.w a T) (hm : X.mg x = some (.ref a)) (hb : SX X cm W R B b f) (hg : Gl X x := by rfl) (hd : (x == ("__debug__" : Str)) = false := by decide) (hk : behindInMarks .In (.Name x p) = false := by rfl) : SX X cm W R [] (.Compare b [.In] [.Name x p] pos) (fWIn T false f) :=
  .of (pe_cmpR (op_in_wt D) hb.run (pe_glob (v := .ref a) hg hm rfl hd) hk) fun E Z r Fs s H Q S p => wIn_post S p
theorem SX.wnotIn (D : WTab X.K X.w a T) (hm : X.mg x = some (.ref a)) (hb : SX X cm W R B b f) (hg : Gl X x := by rfl) (hd : (x == ("__debug__" : Str)) = false := by decide) (hk : behindInMarks .NotIn (.Name x p) = false := by rfl) : SX X cm W R [] (.Compare b [.NotIn] [.Name x p] pos) (fWIn T true f) :=
  .of (pe_cmpR (op_notIn_wt D) hb.run (pe_glob (v := .ref a) hg hm rfl hd) hk) fun E Z r Fs s H Q S p => wIn_post S p
theorem ST.win (D : WTab X.K X.w a T) (hm : X.mg x = some (.ref a)) (hb : SX X cm W R B b f) (hg : Gl X x := by rfl) (hd : (x == ("__debug__" : Str)) = false := by decide) (hk : behindInMarks .In (.Name x p) = false := by rfl) : ST X cm W R (.Compare b [.In] [.Name x p] pos) (fBl (fWIn T false f)) :=
  .of (pt_cmpR (op_in_wt D) hb.run (pe_glob (v := .ref a) hg hm rfl hd) hk) fun E Z r Fs s H Q S p => wIn_post (B := B) S (fBl_post p)
theorem ST.wnotIn (D : WTab X.K X.w a T) (hm : X.mg x = some (.ref a)) (hb : SX X cm W R B b f) (hg : Gl X x := by rfl) (hd : (x == ("__debug__" : Str)) = false := by decide) (hk : behindInMarks .NotIn (.Name x p) = false := by rfl) : ST X cm W R (.Compare b [.NotIn] [.Name x p] pos) (fBl (fWIn T true f)) :=
  .of (pt_cmpR (op_notIn_wt D) hb.run (pe_glob (v := .ref a) hg hm rfl hd) hk) fun E Z r Fs s H Q S p => wIn_post (B := B) S (fBl_post p)
end
end DL

set_option Elab.async false
set_option linter.all false
set_option maxRecDepth 100000
namespace DL
open PySem PySem.Spec L2

/-! ### slot i stays -/
def fHold (i : Nat) (f : Env → Res D) : Env → Res D := fun r => (f r).bind fun y r1 => match r[i]? with
  | some o => if i < r1.length then .ok y (r1.set i o) else .bad
  | none => .bad
theorem fHold_keeps {i : Nat} {f : Env → Res D} : ∀ r y r1, fHold i f r = .ok y r1 → r1[i]? = r[i]? := fun r y r1 h => by
  unfold fHold at h
  cases q : f r with
  | exc c fs vs r2 => rw [q] at h; cases h
  | bad => rw [q] at h; cases h
  | ok y2 r2 =>
    rw [q, Res.bind_ok] at h
    cases e : r[i]? with
    | none => rw [e] at h; cases h
    | some o =>
      rw [e] at h
      by_cases c : i < r2.length
      · have h' : (if i < r2.length then Res.ok y2 (r2.set i o) else .bad) = .ok y r1 := h
        rw [if_pos c] at h'
        cases h'
        rw [List.getElem?_set_self c]
      · have h' : (if i < r2.length then Res.ok y2 (r2.set i o) else .bad) = .ok y r1 := h
        rw [if_neg c] at h'
        cases h'
theorem SR.held {U : Gd} {E : En} {Z Z1 : AP} {r r1 : Env} {Fs Fs1 : Nat → List Addr} {s : St} {H H1 : Hp} {R : List Nat} (S : SR U E Z r Fs s H) (t : Step Z Fs H R [] Z1 Fs1 H1) (S1 : SR U E Z1 r1 Fs1 s H1) {i : Nat} (hi : i ∉ R) {o : Option D} (e : r[i]? = some o) : SR U E Z1 (r1.set i o) Fs1 s H1 where
  len := by rw [List.length_set]; exact S1.len
  own := fun j d q => by
    by_cases c : i = j
    · subst c
      have hl : i < r1.length := by
        rw [S1.len, ← S.len]
        exact (List.getElem?_eq_some_iff.mp e).1
      rw [List.getElem?_set_self hl] at q
      cases q
      obtain ⟨v, e1, o1⟩ := S.own i d e
      refine ⟨v, e1, ?_⟩
      rw [t.fs i hi (fun m => nomatch m)]
      exact o1.step S t fun a m j mj z => hi (by rw [S.dis i j a m z]; exact mj)
    · rw [List.getElem?_set_ne c] at q
      exact S1.own j d q
  emp := fun j q => by
    by_cases c : i = j
    · subst c
      rw [t.fs i hi (fun m => nomatch m)]
      refine S.emp i fun d e1 => ?_
      have hl : i < r1.length := by
        rw [S1.len, ← S.len]
        exact (List.getElem?_eq_some_iff.mp e).1
      refine q d ?_
      rw [List.getElem?_set_self hl, ← e, e1]
    · refine S1.emp j fun d e1 => q d ?_
      rw [List.getElem?_set_ne c]
      exact e1
  dis := S1.dis
  nz := S1.nz
  zd := S1.zd
  al := S1.al
  kp := S1.kp
  zi := S1.zi
  zo := S1.zo
  dm := S1.dm
  fr := S1.fr
section
variable {X : Cx} {cm : Str → Option Addr} {W : WX} {R B : List Nat} {e o : Expr} {f fe : Env → Res D} {i : Nat} {pf : Env → Option (List Nat)} {apos cpos : Pos}
theorem SX.hold (i : Nat) (h : SX X cm W R B e f) (hi : i ∉ R) : SX X cm W R B e (fHold i f) :=
  ⟨⟨fun pins sh s H Q I ⟨E, Z, r, Fs, S, p⟩ => h.run.run pins sh s H Q I ⟨E, Z, r, Fs, S, by
    unfold fHold at p
    cases q : f r with
    | bad => rw [q] at p; exact p.elim
    | exc c fs vs r1 => rw [q] at p; exact p
    | ok y r1 =>
      rw [q, Res.bind_ok] at p
      intro Z' Fs' H' v F ev
      cases eo : r[i]? with
      | none => rw [eo] at p; exact p.elim
      | some oo =>
        rw [eo] at p
        by_cases c : i < r1.length
        · have p' : postE ⟨X.K, cm⟩ W E Z Fs H s R B (if i < r1.length then .ok y (r1.set i oo) else .bad) Q := p
          rw [if_pos c] at p'
          exact p' Z' Fs' H' v F ⟨ev.st, S.held ev.st ev.sr hi eo, ev.val, ev.src⟩
        · have p' : postE ⟨X.K, cm⟩ W E Z Fs H s R B (if i < r1.length then .ok y (r1.set i oo) else .bad) Q := p
          rw [if_neg c] at p'
          exact p'.elim⟩⟩⟩
theorem SX.appendH (i : Nat) (ho : SPl X cm i o pf) (he : SX X cm W R [] e fe) (hi : i ∉ R)
    (hbase : attributeBase o "append" X.env (eval o X.env) = eval o X.env := by rfl)
    (hfew : ((backTo cpos (starEach [e] X.env)).all (fun x => !x.1) && (backToKw cpos (keywordEach [] X.env)).all (fun x => x.1.isSome)
      && decide ([e].length + ([] : List Keyword).length + (if ([] : List Keyword).isEmpty then 0 else 1) < 30)) = true := by rfl)
    (hline : (apos.endLine == cpos.line) = true := by rfl) (hs : starEach [e] X.env = (false, eval e X.env) :: starEach [] X.env := by rfl) (hplain : (backTo cpos (starEach [] X.env)).any (·.1) = false := by rfl) :
    SX X cm W (R ++ [i]) [] (.Call (.Attribute o "append" apos) [e] [] cpos) (fApp i pf (fHold i fe)) :=
  SX.append ho (he.hold i hi) hi fHold_keeps hbase hfew hline hs hplain
theorem SX.extendH (i : Nat) (ho : SPl X cm i o pf) (he : SX X cm W R [] e fe) (hi : i ∉ R)
    (hbase : attributeBase o "extend" X.env (eval o X.env) = eval o X.env := by rfl)
    (hfew : ((backTo cpos (starEach [e] X.env)).all (fun x => !x.1) && (backToKw cpos (keywordEach [] X.env)).all (fun x => x.1.isSome)
      && decide ([e].length + ([] : List Keyword).length + (if ([] : List Keyword).isEmpty then 0 else 1) < 30)) = true := by rfl)
    (hline : (apos.endLine == cpos.line) = true := by rfl) (hs : starEach [e] X.env = (false, eval e X.env) :: starEach [] X.env := by rfl) (hplain : (backTo cpos (starEach [] X.env)).any (·.1) = false := by rfl) :
    SX X cm W (R ++ [i]) [] (.Call (.Attribute o "extend" apos) [e] [] cpos) (fExt i pf (fHold i fe)) :=
  SX.extend ho (he.hold i hi) hi fHold_keeps hbase hfew hline hs hplain
end

/-! ### x = y, where y is a list that goes over: y is forgotten -/
def sMove (i j : Nat) : Env → SRes := fun r => match r[j]? with
  | some (some d) => if i < r.length && i != j then .next ((r.set j none).set i (some d)) else .bad
  | _ => .bad
section
variable {X : Cx} {cm : Str → Option Addr} {W : WX} {n : Nat} {pos p1 p2 : Pos} {x y : Str}
theorem SS.move (i j : Nat) (hN : X.N.Nodup) (hj : X.N[j]? = some y := by rfl) (hi : X.N[i]? = some x := by rfl) (hv : Vis X.env.scope y := by first | exact Or.inl rfl | exact Or.inr (Or.inl rfl) | exact Or.inr (Or.inr rfl)) (hd : (y == ("__debug__" : Str)) = false := by decide)
    (hcd : (y == ("__classdict__" : Str)) = false := by decide) (hx : Loc X.env.scope x := by first | exact .inl rfl | exact .inr rfl) (hf : X.fn x = true ∨ X.env.scope.names.lookup x = some .local := by first | exact .inl rfl | exact .inr rfl)
    (hs : swapsWithSole [Expr.Name x p1] (.Name y p2) pos.line X.env = Pure.pure false := by rfl) (hw : swappedStores [Expr.Name x p1] (.Name y p2) X.env = Pure.pure none := by rfl) (h1 : (assignEach [Expr.Name x p1] X.env).map (·.2) = [assign (Expr.Name x p1) X.env] := by rfl) :
    SS X cm W n [j] [i, j] (.Assign [.Name x p1] (.Name y p2) pos) (sMove i j) :=
  .of (ps_asg (pe_var hj hv hd hcd) (pg_name hN hi hx hf) hs hw h1) fun E Z r Fs s H Q S p => by
    unfold sMove at p
    cases e : r[j]? with
    | none => rw [e] at p; exact p.elim
    | some o =>
      cases o with
      | none => rw [e] at p; exact p.elim
      | some d =>
        rw [e] at p
        by_cases c : (decide (i < r.length) && i != j) = true
        · have p' : postS ⟨X.K, cm⟩ W n E Z Fs H s [j] [i, j] (if (decide (i < r.length) && i != j) = true then .next ((r.set j none).set i (some d)) else .bad) Q := p
          rw [if_pos c] at p'
          rw [Bool.and_eq_true, decide_eq_true_eq, bne_iff_ne] at c
          obtain ⟨hl, ne⟩ := c
          obtain ⟨v, e1, o1⟩ := S.own j d e
          have hls : i < s.length := by rw [← S.len]; exact hl
          refine ⟨v, e1, p' Z (fun k => if k = i then Fs j else if k = j then [] else Fs k) H _ ⟨?_, fun k m => ?_, ?_⟩⟩
          · exact {
              keep := fun a o h _ => h
              zi := fun a z => z
              zo := fun a z => .inl z
              dm := fun a h => h
              fs := fun k m1 m2 => by
                have k1 : k ≠ i := fun z => m2 (by rw [z]; exact List.mem_cons_self)
                have k2 : k ≠ j := fun z => m2 (by rw [z]; exact List.mem_cons_of_mem _ List.mem_cons_self)
                show (if k = i then Fs j else if k = j then [] else Fs k) = Fs k
                rw [if_neg k1, if_neg k2]
              fw := fun k a m => by
                have m' : a ∈ (if k = i then Fs j else if k = j then [] else Fs k) := m
                by_cases k1 : k = i
                · rw [if_pos k1] at m'; exact .inr (.inr ⟨j, List.mem_cons_self, m'⟩)
                · rw [if_neg k1] at m'
                  by_cases k2 : k = j
                  · rw [if_pos k2] at m'; cases m'
                  · rw [if_neg k2] at m'; exact .inl m' }
          · exact List.getElem?_set_ne fun z => m (by rw [z]; exact List.mem_cons_self)
          · have src : ∀ k a, a ∈ (if k = i then Fs j else if k = j then [] else Fs k) → ∃ k', a ∈ Fs k' ∧ (k = i ∧ k' = j ∨ k ≠ i ∧ k ≠ j ∧ k' = k) := fun k a m' => by
              by_cases k1 : k = i
              · rw [if_pos k1] at m'; exact ⟨j, m', .inl ⟨k1, rfl⟩⟩
              · rw [if_neg k1] at m'
                by_cases k2 : k = j
                · rw [if_pos k2] at m'; cases m'
                · rw [if_neg k2] at m'; exact ⟨k, m', .inr ⟨k1, k2, rfl⟩⟩
            exact {
              len := by rw [List.length_set, List.length_set, List.length_set]; exact S.len
              own := fun k d' q => by
                by_cases k1 : i = k
                · subst k1
                  rw [List.getElem?_set_self (by rw [List.length_set]; exact hl)] at q
                  cases q
                  refine ⟨v, List.getElem?_set_self hls, ?_⟩
                  show Own _ Z H d v (if i = i then Fs j else _)
                  rw [if_pos rfl]; exact o1
                · rw [List.getElem?_set_ne k1] at q
                  by_cases k2 : j = k
                  · subst k2
                    have hjl : j < r.length := (List.getElem?_eq_some_iff.mp e).1
                    rw [List.getElem?_set_self hjl] at q
                    cases q
                  · rw [List.getElem?_set_ne k2] at q
                    obtain ⟨v', e2, o2⟩ := S.own k d' q
                    refine ⟨v', by rw [List.getElem?_set_ne k1]; exact e2, ?_⟩
                    show Own _ Z H d' v' (if k = i then Fs j else if k = j then [] else Fs k)
                    rw [if_neg (fun z => k1 z.symm), if_neg (fun z => k2 z.symm)]; exact o2
              emp := fun k q => by
                show (if k = i then Fs j else if k = j then [] else Fs k) = []
                by_cases k1 : k = i
                · subst k1
                  exact absurd (List.getElem?_set_self (by rw [List.length_set]; exact hl)) (q d)
                · rw [if_neg k1]
                  by_cases k2 : k = j
                  · rw [if_pos k2]
                  · rw [if_neg k2]
                    refine S.emp k fun d' e' => q d' ?_
                    rw [List.getElem?_set_ne (fun z => k1 z.symm), List.getElem?_set_ne (fun z => k2 z.symm)]
                    exact e'
              dis := fun a b x m1 m2 => by
                obtain ⟨k1, q1, c1⟩ := src a x m1
                obtain ⟨k2, q2, c2⟩ := src b x m2
                have ek := S.dis k1 k2 x q1 q2
                rcases c1 with ⟨a1, a2⟩ | ⟨a1, a2, a3⟩ <;> rcases c2 with ⟨b1, b2⟩ | ⟨b1, b2, b3⟩
                · rw [a1, b1]
                · exact absurd (by rw [← b3, ← ek, a2]) b2
                · exact absurd (by rw [← a3, ek, b2]) a2
                · rw [← a3, ← b3, ek]
              nz := fun k a m => by obtain ⟨k', q, _⟩ := src k a m; exact S.nz k' a q
              zd := S.zd
              al := fun k a m => by obtain ⟨k', q, _⟩ := src k a m; exact S.al k' a q
              kp := S.kp
              zi := S.zi
              zo := S.zo
              dm := S.dm
              fr := S.fr }
        · have p' : postS ⟨X.K, cm⟩ W n E Z Fs H s [j] [i, j] (if (decide (i < r.length) && i != j) = true then .next ((r.set j none).set i (some d)) else .bad) Q := p
          rw [if_neg c] at p'
          exact p'.elim
end
theorem units65 {k : Nat} {A : Around} (r : Room k A) : A.units + 65 < cLine := by have := r.un; omega

/-! abs -/
def rAbs : List V → Hp → VK → Prop := fun xs H Q => ∃ i, xs = [.int i] ∧ Q (.int (if i < 0 then -i else i)) H
theorem callr_abs {X : Cx} : CallR X (.builtin "abs") rAbs := call_abs
theorem calld_abs {U : Gd} : CallD U rAbs dAbs := .ofPure fun Z H ds vs z hO e => by
  match ds, e with
  | [.int i], e =>
    obtain ⟨v, F, rfl, o⟩ := hO.one
    obtain ⟨rfl, _⟩ := Own.int_iff.mp o
    cases e
    exact ⟨_, rfl, Own.int, fun Q q => ⟨i, rfl, q⟩⟩

/-! ### what is built in, by name -/
theorem bb_int : bootBuiltins "int" = some (.type "int") := by decide +kernel
theorem bb_bool : bootBuiltins "bool" = some (.type "bool") := by decide +kernel
theorem bb_str : bootBuiltins "str" = some (.type "str") := by decide +kernel
theorem bb_list : bootBuiltins "list" = some (.type "list") := by decide +kernel
theorem bb_dict : bootBuiltins "dict" = some (.type "dict") := by decide +kernel
theorem bb_tuple : bootBuiltins "tuple" = some (.type "tuple") := by decide +kernel
theorem bb_all : bootBuiltins "all" = some (.builtin "all") := by decide +kernel
theorem bb_any : bootBuiltins "any" = some (.builtin "any") := by decide +kernel
theorem bb_sum : bootBuiltins "sum" = some (.builtin "sum") := by decide +kernel
theorem bb_sorted : bootBuiltins "sorted" = some (.builtin "sorted") := by decide +kernel
theorem bb_abs : bootBuiltins "abs" = some (.builtin "abs") := by decide +kernel

/-! ### the defs of the top -/
def DefIn (K : PySem.W.Frag) (mg : Str → Option Value) (x qual : Str) (ps : List Str) (st : Stmt) : Prop :=
  ∃ f fd, mg x = some (.ref f) ∧ PySem.W.keepIn K (.ref f) = true ∧ Binds K fd ps [] ∧ Fun K x qual st f fd
structure Cal (P : Program) (w : World) (K : PySem.W.Frag) (mg : Str → Option Value) (base : Heap) (cm : Str → Option Addr) (k : Nat) (x : Str) (ps : List Str) (Rm : List Nat) (n : Nat) (M : List D → FRes) : Prop where
  ex : ∃ f fd, mg x = some (.ref f) ∧ PySem.W.keepIn K (.ref f) = true ∧ Binds K fd ps [] ∧ FnOk P w K mg base (L2.CX P w) k f fd ps (spD ⟨K, cm⟩ Rm n M)
section
variable {P : Program} {w : World} {K : PySem.W.Frag} {mg : Str → Option Value} {base : Heap} {cm : Str → Option Addr} {j k : Nat} {x qual : Str} {ps : List Str} {Rm : List Nat} {n : Nat} {F M : List D → FRes} {st : Stmt}
theorem Cal.imp (C : Cal P w K mg base cm k x ps Rm n F) (h : ∀ ds, M ds ≠ .bad → F ds = M ds) : Cal P w K mg base cm k x ps Rm n M := by
  obtain ⟨f, fd, a, b, c, d⟩ := C.ex
  exact ⟨f, fd, a, b, c, d.imp (spD.imp h)⟩
theorem Cal.mono (C : Cal P w K mg base cm j x ps Rm n F) (h : j ≤ k) : Cal P w K mg base cm k x ps Rm n F := by
  obtain ⟨f, fd, a, b, c, d⟩ := C.ex
  exact ⟨f, fd, a, b, c, d.mono h⟩
theorem Cal.zero (C : DefIn K mg x qual ps st) : Cal P w K mg base cm k x ps Rm n fun _ => .bad := by
  obtain ⟨f, fd, a, b, c, d⟩ := C
  have no : ∀ vs H Q E, ¬ spD ⟨K, cm⟩ Rm n (fun _ => .bad) vs H Q E := fun vs H Q E ⟨_, _, _, _, _, _, h⟩ => h
  exact ⟨f, fd, a, b, c, ⟨fun vs H Q E h => absurd h (no vs H Q E), fun A outer s H args us vs Q E _ _ _ _ h => absurd h (no vs H Q E)⟩⟩
theorem Cal.mk' (C : DefIn K mg x qual ps st) (h : ∀ f fd, Fun K x qual st f fd → FnOk P w K mg base (L2.CX P w) k f fd ps (spD ⟨K, cm⟩ Rm n M)) : Cal P w K mg base cm k x ps Rm n M := by
  obtain ⟨f, fd, a, b, c, d⟩ := C
  exact ⟨f, fd, a, b, c, h f fd d⟩
end
section
variable {X : Cx} {cm : Str → Option Addr} {W : WX} {R B : List Nat} {e : Expr} {es : List Expr} {fs : Env → Res (List D)} {x y : Str} {p pos py : Pos} {k n : Nat} {ps : List Str} {F : List D → FRes}
theorem SX.userC (G : Cal X.prog X.w X.K X.mg X.base cm k x ps [] n F) (hr : Room k X.A) (tk : Takes X W) (ha : SA X cm W R B (e :: es) fs) (hg : Gl X x := by rfl)
    (hdb : (x == ("__debug__" : Str)) = false := by decide) (he : starEach (e :: es) X.env = (false, eval e X.env) :: starEach es X.env := by rfl) (hpl : (backTo pos (starEach es X.env)).any (·.1) = false := by rfl) :
    SX X cm W R [] (.Call (.Name x p) (e :: es) [] pos) (fUser n F fs) := by
  obtain ⟨f, fd, a, b, c, d⟩ := G.ex
  exact SX.user d hr a b c tk ha hg hdb he hpl
theorem SX.userMC (i : Nat) (G : Cal X.prog X.w X.K X.mg X.base cm k x ps [0] n F) (hr : Room k X.A) (tk : Takes X W) (ha : SA X cm W R B es fs)
    (hN : X.N[i]? = some y := by rfl) (hv : Vis X.env.scope y := by first | exact Or.inl rfl | exact Or.inr (Or.inl rfl) | exact Or.inr (Or.inr rfl)) (hdy : (y == ("__debug__" : Str)) = false := by decide)
    (hcd : (y == ("__classdict__" : Str)) = false := by decide) (hg : Gl X x := by rfl)
    (hdb : (x == ("__debug__" : Str)) = false := by decide) (he : starEach (.Name y py :: es) X.env = (false, eval (.Name y py) X.env) :: starEach es X.env := by rfl) (hpl : (backTo pos (starEach es X.env)).any (·.1) = false := by rfl) :
    SX X cm W (R ++ [i]) [] (.Call (.Name x p) (.Name y py :: es) [] pos) (fUserM i n F fs) := by
  obtain ⟨f, fd, a, b, c, d⟩ := G.ex
  exact SX.userM i d hr a b c tk ha hN hv hdy hcd hg hdb he hpl
end
end DL

set_option Elab.async false
set_option linter.all false
set_option maxRecDepth 100000
set_option maxHeartbeats 4000000
namespace DL
open PySem PySem.Spec L2
def top (i : Nat) : Stmt := PySem.Challenge.pw_willinglift_k85_whole_log_texts_there_an.main.body.getD i (.Pass ⟨0, 0, 0, 0⟩)
def t_SIGNS : List (Key × D) := [(.inl 1, .str "+"), (.inl (-1), .str "-")]
def t_WAYS : List (Key × D) := [(.inr "+", .int 1), (.inr "-", .int (-1))]
structure Glob (w : World) (K : PySem.W.Frag) (mg : Str → Option Value) : Prop where
  k_DIGITS : ∃ t, mg "DIGITS" = some (.str "0123456789" t)
  k_DOWN : ∃ t, mg "DOWN" = some (.int (-1) t)
  k_MOST_DEPTH : ∃ t, mg "MOST_DEPTH" = some (.int 3 t)
  k_MOST_DIGITS : ∃ t, mg "MOST_DIGITS" = some (.int 31 t)
  k_MOST_TIMES : ∃ t, mg "MOST_TIMES" = some (.int 1000000000000000000000000000000 t)
  k_MOST_WRITTEN : ∃ t, mg "MOST_WRITTEN" = some (.int 200 t)
  k_TIMES : ∃ t, mg "TIMES" = some (.str "times" t)
  k_UP : ∃ t, mg "UP" = some (.int 1 t)
  n_abs : mg "abs" = none
  n_all : mg "all" = none
  n_bool : mg "bool" = none
  n_enumerate : mg "enumerate" = none
  n_int : mg "int" = none
  n_isinstance : mg "isinstance" = none
  n_len : mg "len" = none
  n_list : mg "list" = none
  n_range : mg "range" = none
  n_sorted : mg "sorted" = none
  n_str : mg "str" = none
  n_tuple : mg "tuple" = none
  n_zip : mg "zip" = none
  w_SIGNS : ∃ a, mg "SIGNS" = some (.ref a) ∧ WTab K w a t_SIGNS
  w_WAYS : ∃ a, mg "WAYS" = some (.ref a) ∧ WTab K w a t_WAYS
section
variable {P : Program} {w : World} {K : PySem.W.Frag} {mg : Str → Option Value} {base : Heap} {cm : Str → Option Addr}
abbrev s__law_deck : Stmt := top 38
theorem sc__law_deck : FnScope ["_law_script", "_law_state", "_law_cell"] ["_law_script"] (defScope s__law_deck) := ⟨rfl, rfl, rfl, by decide +kernel, rfl, by decide +kernel, by decide +kernel⟩
def lb__law_deck_1 : Env → SRes :=
    (sSeq (sAsg (fBin dMod (fCall dInt (fCons (fBin dAdd (fBin dAdd (fBin dMul (fVar 1) (fC (.int 48271))) (fBin dMul (fCall dInt (fCons (fVar 2) fNil)) (fC (.int 69621)))) (fC (.int 7))) fNil)) (fC (.int 2147483647))) (gN 1))
    sNil)
def le__law_deck_1 : Env → Res D :=
    (fCall dAbs (fCons (fCall dInt (fCons (fVar 2) fNil)) fNil))
def fb__law_deck : Env → SRes :=
    (sSeq (sAsg (fBin dAdd (fCall dLen (fCons (fVar 0) fNil)) (fC (.int 1))) (gN 1))
    (sSeq (sFor (fSeq (fSl (fVar 0) fNoP (fSomeP (fC (.int 63))))) (gN 2) (lb__law_deck_1))
    (sSeq (sRet (fLst (fCons (fLc (fSeq (fSl (fVar 0) fNoP (fSomeP (fC (.int 63))))) (gN 2) tTrue (le__law_deck_1) [2]) (fCons (fC (.int 0)) (fCons (fC (.int 0)) (fCons (fC (.int 0)) (fCons (fPure (fVar 1)) fNil)))))))
    sNil)))
def F__law_deck : List D → FRes := fnF [] 3 1 [1, 2] (fb__law_deck)
theorem fn__law_deck {k : Nat} {f : Addr} {fd : FuncData} (G : Glob w K mg) (Fn : Fun K "_law_deck" "_law_deck" s__law_deck f fd) : FnOk P w K mg base (L2.CX P w) (k + 1) f fd ["_law_script"] (spD ⟨K, cm⟩ [] 1 (F__law_deck)) := by
  have n_abs : mg "abs" = none := G.n_abs
  have n_int : mg "int" = none := G.n_int
  have n_len : mg "len" = none := G.n_len
  refine fnD (R := []) (A := [1, 2]) Fn sc__law_deck rfl (fun cdv A0 outer s H E hr => ?_) (by decide) (by decide) (by decide) (by decide)
  have hu := hr.units
  have hu0 := hr.units0
  have hu65 := units65 hr
  have tk := L2.takes_of (X := cxOf (L2.CX P w) P w K mg base ["_law_script", "_law_state", "_law_cell"] "_law_deck" (defScope s__law_deck) f cdv A0 outer s H E) rfl rfl rfl rfl
  exact SB.mono
    (SB.cons (SS.asg (SX.binop op_addD opd_add (SX.callB call_len calld_len n_len (SA.cons (SX.var 0) SA.nil (by decide)) PySem.boot_len) SX.int (by decide)) (SG.name 1 sc__law_deck.nd))
    (SB.cons (SS.for_ (L2.passes_of rfl) rfl (SI.seq (SX.slice (SX.var 0) SP'.none (SP'.some SX.int))) (SG.name 2 sc__law_deck.nd) (SB.cons (SS.asg (SX.binop op_mod opd_mod (SX.callTy callr_int calld_int n_int (SA.cons (SX.binop op_addD opd_add (SX.binop op_addD opd_add (SX.binop op_mulD opd_mul (SX.var 1) SX.int (by decide)) (SX.binop op_mulD opd_mul (SX.callTy callr_int calld_int n_int (SA.cons (SX.var 2) SA.nil (by decide)) bb_int) SX.int (by decide)) (by decide)) SX.int (by decide)) SA.nil (by decide)) bb_int) SX.int (by decide)) (SG.name 1 sc__law_deck.nd))
    SB.nil) (by decide))
    (SB.cons (SS.ret (SX.lst (SA.cons (SX.lc [("_law_cell", 2)] rfl sc__law_deck.nd (SI.seq (SX.slice (SX.var 0) SP'.none (SP'.some SX.int))) (show BlkOk ["_law_script", "_law_state", "_law_cell"] (defScope s__law_deck) _ [("_law_cell", 2)] from ⟨rfl, by decide +kernel, by decide +kernel, by decide +kernel, by decide +kernel⟩) (fun _ _ _ _ _ => (SG.name 2 sc__law_deck.nd)) (fun _ _ _ _ _ => STs.nil) (fun _ _ _ _ _ => (SX.callB callr_abs calld_abs n_abs (SA.cons (SX.callTy callr_int calld_int n_int (SA.cons (SX.var 2) SA.nil (by decide)) bb_int) SA.nil (by decide)) bb_abs)) (by decide) (by decide) (by decide)) (SA.cons SX.int (SA.cons SX.int (SA.cons SX.int (SA.cons (SX.pure (SX.var 1)) SA.nil (by decide)) (by decide)) (by decide)) (by decide)) (by decide))) (by decide))
    SB.nil))) (by decide) (by decide)
theorem ok__law_deck {k : Nat} (G : Glob w K mg) (T : DefIn K mg "_law_deck" "_law_deck" ["_law_script"] s__law_deck) : Cal P w K mg base cm (k + 1) "_law_deck" ["_law_script"] [] 1 (F__law_deck) := .mk' T fun f fd Fn => fn__law_deck G Fn
abbrev s__law_take : Stmt := top 39
theorem sc__law_take : FnScope ["_law_deck_here", "_law_many", "_law_digit", "_law_one"] ["_law_deck_here", "_law_many"] (defScope s__law_take) := ⟨rfl, rfl, rfl, by decide +kernel, rfl, by decide +kernel, by decide +kernel⟩
def fb__law_take : Env → SRes :=
    (sSeq (sSet 0 pR (qC 3) (fBin dAdd (fBin dIx (fVar 0) (fC (.int 3))) (fC (.int 1))))
    (sSeq (sIf (fAnd (fBl (fBin dEq (fBin dIx (fVar 0) (fC (.int 2))) (fC (.int 0)))) (fBl (fBin dLt (fBin dIx (fVar 0) (fC (.int 1))) (fCall dLen (fCons (fBin dIx (fVar 0) (fC (.int 0))) fNil))))) (sSeq (sSet 0 pR (qC 1) (fBin dAdd (fBin dIx (fVar 0) (fC (.int 1))) (fC (.int 1))))
    (sSeq (sSet 0 pR (qC 2) (fPure (fBin dIx (fBin dIx (fVar 0) (fC (.int 0))) (fBin dSub (fBin dIx (fVar 0) (fC (.int 1))) (fC (.int 1))))))
    (sSeq (sIf (fBl (fBin dLt (fBin dIx (fVar 0) (fC (.int 2))) (fBin dPow (fC (.int 10)) (fC (.int 18))))) (sSeq (sSet 0 pR (qC 4) (fBin dMod (fCall dInt (fCons (fBin dAdd (fBin dAdd (fBin dMul (fBin dIx (fVar 0) (fC (.int 4))) (fC (.int 69621))) (fBin dIx (fVar 0) (fC (.int 2)))) (fC (.int 1))) fNil)) (fC (.int 2147483647))))
    (sSeq (sSet 0 pR (qC 2) (fC (.int 0)))
    sNil)) sNil)
    sNil))) sNil)
    (sSeq (sIf (fBl (fBin dGt (fBin dIx (fVar 0) (fC (.int 2))) (fC (.int 0)))) (sSeq (sAsg (fBin dMod (fCall dInt (fCons (fBin dIx (fVar 0) (fC (.int 2))) fNil)) (fVar 1)) (gN 2))
    (sSeq (sSet 0 pR (qC 2) (fBin dDiv (fBin dIx (fVar 0) (fC (.int 2))) (fVar 1)))
    (sSeq (sRet (fVar 2))
    sNil))) sNil)
    (sSeq (sAsg (fBin dMod (fCall dInt (fCons (fBin dMul (fBin dAdd (fBin dAdd (fBin dIx (fVar 0) (fC (.int 4))) (fBin dMul (fC (.int 7919)) (fBin dIx (fVar 0) (fC (.int 3))))) (fC (.int 1))) (fC (.int 48271))) fNil)) (fC (.int 2147483647))) (gN 3))
    (sSeq (sAsg (fBin dMod (fCall dInt (fCons (fBin dMul (fVar 3) (fBin dAdd (fBin dDiv (fVar 3) (fC (.int 1009))) (fC (.int 69621)))) fNil)) (fC (.int 2147483647))) (gN 3))
    (sSeq (sAsg (fBin dMod (fCall dInt (fCons (fBin dMul (fVar 3) (fBin dAdd (fBin dDiv (fVar 3) (fC (.int 2003))) (fC (.int 40692)))) fNil)) (fC (.int 2147483399))) (gN 3))
    (sSeq (sRet (fBin dMod (fCall dInt (fCons (fBin dDiv (fVar 3) (fC (.int 32))) fNil)) (fVar 1)))
    sNil)))))))
def F__law_take : List D → FRes := fnF [0] 4 2 [2, 3] (fb__law_take)
theorem fn__law_take {k : Nat} {f : Addr} {fd : FuncData} (G : Glob w K mg) (Fn : Fun K "_law_take" "_law_take" s__law_take f fd) : FnOk P w K mg base (L2.CX P w) (k + 1) f fd ["_law_deck_here", "_law_many"] (spD ⟨K, cm⟩ [0] 2 (F__law_take)) := by
  have n_int : mg "int" = none := G.n_int
  have n_len : mg "len" = none := G.n_len
  refine fnD (R := [0]) (A := [2, 3]) Fn sc__law_take rfl (fun cdv A0 outer s H E hr => ?_) (by decide) (by decide) (by decide) (by decide)
  have hu := hr.units
  have hu0 := hr.units0
  have hu65 := units65 hr
  have tk := L2.takes_of (X := cxOf (L2.CX P w) P w K mg base ["_law_deck_here", "_law_many", "_law_digit", "_law_one"] "_law_take" (defScope s__law_take) f cdv A0 outer s H E) rfl rfl rfl rfl
  exact SB.mono
    (SB.cons (SS.setIx (SX.binop op_addD opd_add (SX.ix ix_seq opd_ix (SX.var 0) SX.int (by intro _ _; rfl) (by decide)) SX.int (by decide)) (SPl.root 0) SQ.int)
    (SB.cons (SS.if_ (SW.st (SW.and (ST.cmp (op_eqA hu) opd_eq (SX.ix ix_seq opd_ix (SX.var 0) SX.int (by intro _ _; rfl) (by decide)) SX.int (nomark _) (by decide)) (SW.and1 (ST.cmp (op_ltA hu0) opd_lt (SX.ix ix_seq opd_ix (SX.var 0) SX.int (by intro _ _; rfl) (by decide)) (SX.callB call_len calld_len n_len (SA.cons (SX.ix ix_seq opd_ix (SX.var 0) SX.int (by intro _ _; rfl) (by decide)) SA.nil (by decide)) PySem.boot_len) (nomark _) (by decide))))) (SB.cons (SS.setIx (SX.binop op_addD opd_add (SX.ix ix_seq opd_ix (SX.var 0) SX.int (by intro _ _; rfl) (by decide)) SX.int (by decide)) (SPl.root 0) SQ.int)
    (SB.cons (SS.setIx (SX.pure (SX.ix ix_seq opd_ix (SX.ix ix_seq opd_ix (SX.var 0) SX.int (by intro _ _; rfl) (by decide)) (SX.binop op_sub opd_sub (SX.ix ix_seq opd_ix (SX.var 0) SX.int (by intro _ _; rfl) (by decide)) SX.int (by decide)) (by intro _ _; rfl) (by decide))) (SPl.root 0) SQ.int)
    (SB.cons (SS.if_ (ST.cmp (op_ltA hu0) opd_lt (SX.ix ix_seq opd_ix (SX.var 0) SX.int (by intro _ _; rfl) (by decide)) (SX.binop op_pow opd_pow SX.int SX.int (by decide)) (nomark _) (by decide)) (SB.cons (SS.setIx (SX.binop op_mod opd_mod (SX.callTy callr_int calld_int n_int (SA.cons (SX.binop op_addD opd_add (SX.binop op_addD opd_add (SX.binop op_mulD opd_mul (SX.ix ix_seq opd_ix (SX.var 0) SX.int (by intro _ _; rfl) (by decide)) SX.int (by decide)) (SX.ix ix_seq opd_ix (SX.var 0) SX.int (by intro _ _; rfl) (by decide)) (by decide)) SX.int (by decide)) SA.nil (by decide)) bb_int) SX.int (by decide)) (SPl.root 0) SQ.int)
    (SB.cons (SS.setIx SX.int (SPl.root 0) SQ.int)
    SB.nil)) SB.nil)
    SB.nil))) SB.nil)
    (SB.cons (SS.if_ (ST.cmp op_gt opd_gt (SX.ix ix_seq opd_ix (SX.var 0) SX.int (by intro _ _; rfl) (by decide)) SX.int (nomark _) (by decide)) (SB.cons (SS.asg (SX.binop op_mod opd_mod (SX.callTy callr_int calld_int n_int (SA.cons (SX.ix ix_seq opd_ix (SX.var 0) SX.int (by intro _ _; rfl) (by decide)) SA.nil (by decide)) bb_int) (SX.var 1) (by decide)) (SG.name 2 sc__law_take.nd))
    (SB.cons (SS.setIx (SX.binop op_fdivW opd_div (SX.ix ix_seq opd_ix (SX.var 0) SX.int (by intro _ _; rfl) (by decide)) (SX.var 1) (by decide)) (SPl.root 0) SQ.int)
    (SB.cons (SS.ret (SX.var 2) (by decide))
    SB.nil))) SB.nil)
    (SB.cons (SS.asg (SX.binop op_mod opd_mod (SX.callTy callr_int calld_int n_int (SA.cons (SX.binop op_mulD opd_mul (SX.binop op_addD opd_add (SX.binop op_addD opd_add (SX.ix ix_seq opd_ix (SX.var 0) SX.int (by intro _ _; rfl) (by decide)) (SX.binop op_mulD opd_mul SX.int (SX.ix ix_seq opd_ix (SX.var 0) SX.int (by intro _ _; rfl) (by decide)) (by decide)) (by decide)) SX.int (by decide)) SX.int (by decide)) SA.nil (by decide)) bb_int) SX.int (by decide)) (SG.name 3 sc__law_take.nd))
    (SB.cons (SS.asg (SX.binop op_mod opd_mod (SX.callTy callr_int calld_int n_int (SA.cons (SX.binop op_mulD opd_mul (SX.var 3) (SX.binop op_addD opd_add (SX.binop op_fdivW opd_div (SX.var 3) SX.int (by decide)) SX.int (by decide)) (by decide)) SA.nil (by decide)) bb_int) SX.int (by decide)) (SG.name 3 sc__law_take.nd))
    (SB.cons (SS.asg (SX.binop op_mod opd_mod (SX.callTy callr_int calld_int n_int (SA.cons (SX.binop op_mulD opd_mul (SX.var 3) (SX.binop op_addD opd_add (SX.binop op_fdivW opd_div (SX.var 3) SX.int (by decide)) SX.int (by decide)) (by decide)) SA.nil (by decide)) bb_int) SX.int (by decide)) (SG.name 3 sc__law_take.nd))
    (SB.cons (SS.ret (SX.binop op_mod opd_mod (SX.callTy callr_int calld_int n_int (SA.cons (SX.binop op_fdivW opd_div (SX.var 3) SX.int (by decide)) SA.nil (by decide)) bb_int) (SX.var 1) (by decide)) (by decide))
    SB.nil))))))) (by decide) (by decide)
theorem ok__law_take {k : Nat} (G : Glob w K mg) (T : DefIn K mg "_law_take" "_law_take" ["_law_deck_here", "_law_many"] s__law_take) : Cal P w K mg base cm (k + 1) "_law_take" ["_law_deck_here", "_law_many"] [0] 2 (F__law_take) := .mk' T fun f fd Fn => fn__law_take G Fn
abbrev s__law_amount : Stmt := top 40
theorem sc__law_amount : FnScope ["_law_deck_here", "_law_sort"] ["_law_deck_here"] (defScope s__law_amount) := ⟨rfl, rfl, rfl, by decide +kernel, rfl, by decide +kernel, by decide +kernel⟩
def fb__law_amount (M__law_take : List D → FRes) : Env → SRes :=
    (sSeq (sAsg (fUserM 0 2 M__law_take (fCons (fC (.int 12)) fNil)) (gN 1))
    (sSeq (sIf (fBl (fBin dEq (fVar 1) (fC (.int 0)))) (sSeq (sRet (fBin dSub (fBin dPow (fC (.int 10)) (fC (.int 30))) (fUserM 0 2 M__law_take (fCons (fC (.int 1000)) fNil))))
    sNil) sNil)
    (sSeq (sIf (fBl (fBin dEq (fVar 1) (fC (.int 1)))) (sSeq (sRet (fBin dAdd (fC (.int 1)) (fUserM 0 2 M__law_take (fCons (fC (.int 200)) fNil))))
    sNil) sNil)
    (sSeq (sRet (fBin dAdd (fC (.int 1)) (fUserM 0 2 M__law_take (fCons (fC (.int 4)) fNil))))
    sNil))))
def F__law_amount (M__law_take : List D → FRes) : List D → FRes := fnF [0] 2 1 [1] (fb__law_amount M__law_take)
theorem fn__law_amount {k : Nat} {M__law_take : List D → FRes} {f : Addr} {fd : FuncData} (G : Glob w K mg) (Fn : Fun K "_law_amount" "_law_amount" s__law_amount f fd) (c__law_take : Cal P w K mg base cm k "_law_take" ["_law_deck_here", "_law_many"] [0] 2 M__law_take) : FnOk P w K mg base (L2.CX P w) (k + 1) f fd ["_law_deck_here"] (spD ⟨K, cm⟩ [0] 1 (F__law_amount M__law_take)) := by
  refine fnD (R := [0]) (A := [1]) Fn sc__law_amount rfl (fun cdv A0 outer s H E hr => ?_) (by decide) (by decide) (by decide) (by decide)
  have hu := hr.units
  have hu0 := hr.units0
  have hu65 := units65 hr
  have tk := L2.takes_of (X := cxOf (L2.CX P w) P w K mg base ["_law_deck_here", "_law_sort"] "_law_amount" (defScope s__law_amount) f cdv A0 outer s H E) rfl rfl rfl rfl
  exact SB.mono
    (SB.cons (SS.asg (SX.userMC 0 c__law_take hr tk (SA.cons SX.int SA.nil (by decide))) (SG.name 1 sc__law_amount.nd))
    (SB.cons (SS.if_ (ST.cmp (op_eqA hu) opd_eq (SX.var 1) SX.int (nomark _) (by decide)) (SB.cons (SS.ret (SX.binop op_sub opd_sub (SX.binop op_pow opd_pow SX.int SX.int (by decide)) (SX.userMC 0 c__law_take hr tk (SA.cons SX.int SA.nil (by decide))) (by decide)) (by decide))
    SB.nil) SB.nil)
    (SB.cons (SS.if_ (ST.cmp (op_eqA hu) opd_eq (SX.var 1) SX.int (nomark _) (by decide)) (SB.cons (SS.ret (SX.binop op_addD opd_add SX.int (SX.userMC 0 c__law_take hr tk (SA.cons SX.int SA.nil (by decide))) (by decide)) (by decide))
    SB.nil) SB.nil)
    (SB.cons (SS.ret (SX.binop op_addD opd_add SX.int (SX.userMC 0 c__law_take hr tk (SA.cons SX.int SA.nil (by decide))) (by decide)) (by decide))
    SB.nil)))) (by decide) (by decide)
theorem ok__law_amount {k : Nat} {M__law_take : List D → FRes} (G : Glob w K mg) (T : DefIn K mg "_law_amount" "_law_amount" ["_law_deck_here"] s__law_amount) (c__law_take : Cal P w K mg base cm k "_law_take" ["_law_deck_here", "_law_many"] [0] 2 M__law_take) : Cal P w K mg base cm (k + 1) "_law_amount" ["_law_deck_here"] [0] 1 (F__law_amount M__law_take) := .mk' T fun f fd Fn => fn__law_amount G Fn c__law_take
abbrev s__law_built_move : Stmt := top 46
theorem sc__law_built_move : FnScope ["_law_deck_here", "_law_found", "_law_step", "_law_wants", "_law_at", "_law_want"] ["_law_deck_here"] (defScope s__law_built_move) := ⟨rfl, rfl, rfl, by decide +kernel, rfl, by decide +kernel, by decide +kernel⟩
def lb__law_built_move_1 (M__law_take : List D → FRes) (M__law_amount : List D → FRes) : Env → SRes :=
    (sSeq (sExpr (fApp 1 pR (fHold 1 (fUserM 0 2 M__law_take (fCons (fC (.int 41)) fNil)))))
    sNil)
def le__law_built_move_1 (M__law_take : List D → FRes) (M__law_amount : List D → FRes) : Env → Res D :=
    (fBin dIx (fVar 1) (fVar 4))
def lt__law_built_move_1 (M__law_take : List D → FRes) (M__law_amount : List D → FRes) : Env → Res Bool :=
    (fBl (fBin dNotIn (fBin dIx (fVar 1) (fVar 4)) (fSl (fVar 1) fNoP (fSomeP (fVar 4)))))
def le__law_built_move_2 (M__law_take : List D → FRes) (M__law_amount : List D → FRes) : Env → Res D :=
    (fTup (fCons (fPure (fVar 5)) (fCons (fUserM 0 1 M__law_amount fNil) fNil)))
def fb__law_built_move (M__law_take : List D → FRes) (M__law_amount : List D → FRes) : Env → SRes :=
    (sSeq (sAsg (fLst fNil) (gN 1))
    (sSeq (sFor (fArgL gRange1 (fCons (fUserM 0 2 M__law_take (fCons (fC (.int 4)) fNil)) fNil)) (gN 2) (lb__law_built_move_1 M__law_take M__law_amount))
    (sSeq (sAsg (fLc (fArgL gRange1 (fCons (fCall dLen (fCons (fVar 1) fNil)) fNil)) (gN 4) (lt__law_built_move_1 M__law_take M__law_amount) (le__law_built_move_1 M__law_take M__law_amount) [4]) (gN 3))
    (sSeq (sRet (fTup (fCons (fBin dIx (fTup (fCons (fC (.int 1)) (fCons (fNeg (fC (.int 1))) fNil))) (fUserM 0 2 M__law_take (fCons (fC (.int 2)) fNil))) (fCons (fCall dTuple (fCons (fLc (fSeq (fCall dSorted (fCons (fVar 3) fNil))) (gN 5) tTrue (le__law_built_move_2 M__law_take M__law_amount) [5]) fNil)) fNil))))
    sNil))))
def F__law_built_move (M__law_take : List D → FRes) (M__law_amount : List D → FRes) : List D → FRes := fnF [0] 6 1 [1, 2, 3] (fb__law_built_move M__law_take M__law_amount)
theorem fn__law_built_move {k : Nat} {M__law_take : List D → FRes} {M__law_amount : List D → FRes} {f : Addr} {fd : FuncData} (G : Glob w K mg) (Fn : Fun K "_law_built_move" "_law_built_move" s__law_built_move f fd) (c__law_take : Cal P w K mg base cm k "_law_take" ["_law_deck_here", "_law_many"] [0] 2 M__law_take) (c__law_amount : Cal P w K mg base cm k "_law_amount" ["_law_deck_here"] [0] 1 M__law_amount) : FnOk P w K mg base (L2.CX P w) (k + 1) f fd ["_law_deck_here"] (spD ⟨K, cm⟩ [0] 1 (F__law_built_move M__law_take M__law_amount)) := by
  have n_len : mg "len" = none := G.n_len
  have n_range : mg "range" = none := G.n_range
  have n_sorted : mg "sorted" = none := G.n_sorted
  have n_tuple : mg "tuple" = none := G.n_tuple
  refine fnD (R := [0, 1]) (A := [1, 2, 3]) Fn sc__law_built_move rfl (fun cdv A0 outer s H E hr => ?_) (by decide) (by decide) (by decide) (by decide)
  have hu := hr.units
  have hu0 := hr.units0
  have hu65 := units65 hr
  have tk := L2.takes_of (X := cxOf (L2.CX P w) P w K mg base ["_law_deck_here", "_law_found", "_law_step", "_law_wants", "_law_at", "_law_want"] "_law_built_move" (defScope s__law_built_move) f cdv A0 outer s H E) rfl rfl rfl rfl
  exact SB.mono
    (SB.cons (SS.asg (SX.lst SA.nil) (SG.name 1 sc__law_built_move.nd))
    (SB.cons (SS.for_ (L2.passes_of rfl) rfl (SI.range1 n_range (SA.cons (SX.userMC 0 c__law_take hr tk (SA.cons SX.int SA.nil (by decide))) SA.nil (by decide))) (SG.name 2 sc__law_built_move.nd) (SB.cons (SS.expr (SX.appendH 1 (SPl.root 1) (SX.userMC 0 c__law_take hr tk (SA.cons SX.int SA.nil (by decide))) (by decide)))
    SB.nil) (by decide))
    (SB.cons (SS.asgLc 3 [("_law_at", 4)] rfl sc__law_built_move.nd (SI.range1 n_range (SA.cons (SX.callB call_len calld_len n_len (SA.cons (SX.var 1) SA.nil (by decide)) PySem.boot_len) SA.nil (by decide))) (show BlkOk ["_law_deck_here", "_law_found", "_law_step", "_law_wants", "_law_at", "_law_want"] (defScope s__law_built_move) _ [("_law_at", 4)] from ⟨rfl, by decide +kernel, by decide +kernel, by decide +kernel, by decide +kernel⟩) (fun _ _ _ _ _ => (SG.name 4 sc__law_built_move.nd)) (fun _ _ _ _ _ => (STs.one (ST.cmp (op_notInA hu65) opd_notIn (SX.ix ix_seq opd_ix (SX.var 1) (SX.var 4) (by intro _ _; rfl) (by decide)) (SX.slice (SX.var 1) SP'.none (SP'.some (SX.var 4))) (by rfl) (by decide)))) (fun _ _ _ _ _ => (SX.ix ix_seq opd_ix (SX.var 1) (SX.var 4) (by intro _ _; rfl) (by decide))) (by decide) (by decide) (by decide) (sw_true rfl rfl rfl (by decide +kernel)) rfl)
    (SB.cons (SS.ret (SX.tup (SA.cons (SX.ix ix_seq opd_ix (SX.tup (SA.cons SX.int (SA.cons (SX.neg SX.int) SA.nil (by decide)) (by decide))) (SX.userMC 0 c__law_take hr tk (SA.cons SX.int SA.nil (by decide))) (by intro _ _; rfl) (by decide)) (SA.cons (SX.callTy callr_tuple calld_tuple n_tuple (SA.cons (SX.lc [("_law_want", 5)] rfl sc__law_built_move.nd (SI.seq (SX.callB cr_sorted calld_sorted n_sorted (SA.cons (SX.var 3) SA.nil (by decide)) bb_sorted)) (show BlkOk ["_law_deck_here", "_law_found", "_law_step", "_law_wants", "_law_at", "_law_want"] (defScope s__law_built_move) _ [("_law_want", 5)] from ⟨rfl, by decide +kernel, by decide +kernel, by decide +kernel, by decide +kernel⟩) (fun _ _ _ _ _ => (SG.name 5 sc__law_built_move.nd)) (fun _ _ _ _ _ => STs.nil) (fun _ _ _ _ _ => (SX.tup (SA.cons (SX.pure (SX.var 5)) (SA.cons (SX.userMC 0 c__law_amount hr L2.takes0 SA.nil) SA.nil (by decide)) (by decide)))) (by decide) (by decide) (by decide)) SA.nil (by decide)) bb_tuple) SA.nil (by decide)) (by decide))) (by decide))
    SB.nil)))) (by decide) (by decide)
theorem ok__law_built_move {k : Nat} {M__law_take : List D → FRes} {M__law_amount : List D → FRes} (G : Glob w K mg) (T : DefIn K mg "_law_built_move" "_law_built_move" ["_law_deck_here"] s__law_built_move) (c__law_take : Cal P w K mg base cm k "_law_take" ["_law_deck_here", "_law_many"] [0] 2 M__law_take) (c__law_amount : Cal P w K mg base cm k "_law_amount" ["_law_deck_here"] [0] 1 M__law_amount) : Cal P w K mg base cm (k + 1) "_law_built_move" ["_law_deck_here"] [0] 1 (F__law_built_move M__law_take M__law_amount) := .mk' T fun f fd Fn => fn__law_built_move G Fn c__law_take c__law_amount
abbrev s__law_built_log : Stmt := top 47
theorem sc__law_built_log : FnScope ["_law_deck_here", "_law_deep", "_law_most", "_law_found", "_law_step", "_law_inner"] ["_law_deck_here", "_law_deep", "_law_most"] (defScope s__law_built_log) := ⟨rfl, rfl, rfl, by decide +kernel, rfl, by decide +kernel, by decide +kernel⟩
def lb__law_built_log_1 (M__law_take : List D → FRes) (M__law_built_log : List D → FRes) (M__law_built_move : List D → FRes) (M__law_amount : List D → FRes) : Env → SRes :=
    (sSeq (sIf (fAnd (fBl (fBin dGt (fVar 1) (fC (.int 0)))) (fBl (fBin dEq (fUserM 0 2 M__law_take (fCons (fC (.int 3)) fNil)) (fC (.int 0))))) (sSeq (sAsg (fUserM 0 3 M__law_built_log (fCons (fBin dSub (fVar 1) (fC (.int 1))) (fCons (fC (.int 3)) fNil))) (gN 5))
    (sSeq (sIf (fBl (fBin dEq (fCall dLen (fCons (fVar 5) fNil)) (fC (.int 0)))) (sSeq (sAsg (fTup (fCons (fUserM 0 1 M__law_built_move fNil) fNil)) (gN 5))
    sNil) sNil)
    (sSeq (sExpr (fApp 3 pR (fHold 3 (fTup (fCons (fC (.str "times")) (fCons (fUserM 0 1 M__law_amount fNil) (fCons (fPure (fVar 5)) fNil)))))))
    sNil))) (sSeq (sExpr (fApp 3 pR (fHold 3 (fUserM 0 1 M__law_built_move fNil))))
    sNil))
    sNil)
def fb__law_built_log (M__law_take : List D → FRes) (M__law_built_log : List D → FRes) (M__law_built_move : List D → FRes) (M__law_amount : List D → FRes) : Env → SRes :=
    (sSeq (sAsg (fLst fNil) (gN 3))
    (sSeq (sFor (fArgL gRange1 (fCons (fUserM 0 2 M__law_take (fCons (fBin dAdd (fVar 2) (fC (.int 1))) fNil)) fNil)) (gN 4) (lb__law_built_log_1 M__law_take M__law_built_log M__law_built_move M__law_amount))
    (sSeq (sRet (fCall dTuple (fCons (fVar 3) fNil)))
    sNil)))
def F__law_built_log (M__law_take : List D → FRes) (M__law_built_log : List D → FRes) (M__law_built_move : List D → FRes) (M__law_amount : List D → FRes) : List D → FRes := fnF [0] 6 3 [3, 4, 5] (fb__law_built_log M__law_take M__law_built_log M__law_built_move M__law_amount)
theorem fn__law_built_log {k : Nat} {M__law_take : List D → FRes} {M__law_built_log : List D → FRes} {M__law_built_move : List D → FRes} {M__law_amount : List D → FRes} {f : Addr} {fd : FuncData} (G : Glob w K mg) (Fn : Fun K "_law_built_log" "_law_built_log" s__law_built_log f fd) (c__law_take : Cal P w K mg base cm k "_law_take" ["_law_deck_here", "_law_many"] [0] 2 M__law_take) (c__law_built_log : Cal P w K mg base cm k "_law_built_log" ["_law_deck_here", "_law_deep", "_law_most"] [0] 3 M__law_built_log) (c__law_built_move : Cal P w K mg base cm k "_law_built_move" ["_law_deck_here"] [0] 1 M__law_built_move) (c__law_amount : Cal P w K mg base cm k "_law_amount" ["_law_deck_here"] [0] 1 M__law_amount) : FnOk P w K mg base (L2.CX P w) (k + 1) f fd ["_law_deck_here", "_law_deep", "_law_most"] (spD ⟨K, cm⟩ [0] 3 (F__law_built_log M__law_take M__law_built_log M__law_built_move M__law_amount)) := by
  have n_len : mg "len" = none := G.n_len
  have n_range : mg "range" = none := G.n_range
  have n_tuple : mg "tuple" = none := G.n_tuple
  refine fnD (R := [0, 3]) (A := [3, 4, 5]) Fn sc__law_built_log rfl (fun cdv A0 outer s H E hr => ?_) (by decide) (by decide) (by decide) (by decide)
  have hu := hr.units
  have hu0 := hr.units0
  have hu65 := units65 hr
  have tk := L2.takes_of (X := cxOf (L2.CX P w) P w K mg base ["_law_deck_here", "_law_deep", "_law_most", "_law_found", "_law_step", "_law_inner"] "_law_built_log" (defScope s__law_built_log) f cdv A0 outer s H E) rfl rfl rfl rfl
  exact SB.mono
    (SB.cons (SS.asg (SX.lst SA.nil) (SG.name 3 sc__law_built_log.nd))
    (SB.cons (SS.for_ (L2.passes_of rfl) rfl (SI.range1 n_range (SA.cons (SX.userMC 0 c__law_take hr tk (SA.cons (SX.binop op_addD opd_add (SX.var 2) SX.int (by decide)) SA.nil (by decide))) SA.nil (by decide))) (SG.name 4 sc__law_built_log.nd) (SB.cons (SS.if_ (SW.st (SW.and (ST.cmp op_gt opd_gt (SX.var 1) SX.int (nomark _) (by decide)) (SW.and1 (ST.cmp (op_eqA hu) opd_eq (SX.userMC 0 c__law_take hr tk (SA.cons SX.int SA.nil (by decide))) SX.int (nomark _) (by decide))))) (SB.cons (SS.asg (SX.userMC 0 c__law_built_log hr tk (SA.cons (SX.binop op_sub opd_sub (SX.var 1) SX.int (by decide)) (SA.cons SX.int SA.nil (by decide)) (by decide))) (SG.name 5 sc__law_built_log.nd))
    (SB.cons (SS.if_ (ST.cmp (op_eqA hu) opd_eq (SX.callB call_len calld_len n_len (SA.cons (SX.var 5) SA.nil (by decide)) PySem.boot_len) SX.int (nomark _) (by decide)) (SB.cons (SS.asg (SX.tup (SA.cons (SX.userMC 0 c__law_built_move hr tk SA.nil) SA.nil (by decide))) (SG.name 5 sc__law_built_log.nd))
    SB.nil) SB.nil)
    (SB.cons (SS.expr (SX.appendH 3 (SPl.root 3) (SX.tup (SA.cons SX.str (SA.cons (SX.userMC 0 c__law_amount hr tk SA.nil) (SA.cons (SX.pure (SX.var 5)) SA.nil (by decide)) (by decide)) (by decide))) (by decide)))
    SB.nil))) (SB.cons (SS.expr (SX.appendH 3 (SPl.root 3) (SX.userMC 0 c__law_built_move hr tk SA.nil) (by decide)))
    SB.nil))
    SB.nil) (by decide))
    (SB.cons (SS.ret (SX.callTy callr_tuple calld_tuple n_tuple (SA.cons (SX.var 3) SA.nil (by decide)) bb_tuple) (by decide))
    SB.nil))) (by decide) (by decide)
theorem ok__law_built_log {k : Nat} {M__law_take : List D → FRes} {M__law_built_log : List D → FRes} {M__law_built_move : List D → FRes} {M__law_amount : List D → FRes} (G : Glob w K mg) (T : DefIn K mg "_law_built_log" "_law_built_log" ["_law_deck_here", "_law_deep", "_law_most"] s__law_built_log) (c__law_take : Cal P w K mg base cm k "_law_take" ["_law_deck_here", "_law_many"] [0] 2 M__law_take) (c__law_built_log : Cal P w K mg base cm k "_law_built_log" ["_law_deck_here", "_law_deep", "_law_most"] [0] 3 M__law_built_log) (c__law_built_move : Cal P w K mg base cm k "_law_built_move" ["_law_deck_here"] [0] 1 M__law_built_move) (c__law_amount : Cal P w K mg base cm k "_law_amount" ["_law_deck_here"] [0] 1 M__law_amount) : Cal P w K mg base cm (k + 1) "_law_built_log" ["_law_deck_here", "_law_deep", "_law_most"] [0] 3 (F__law_built_log M__law_take M__law_built_log M__law_built_move M__law_amount) := .mk' T fun f fd Fn => fn__law_built_log G Fn c__law_take c__law_built_log c__law_built_move c__law_amount
abbrev s_move_word : Stmt := top 30
theorem sc_move_word : FnScope ["move", "want", "many"] ["move"] (defScope s_move_word) := ⟨rfl, rfl, rfl, by decide +kernel, rfl, by decide +kernel, by decide +kernel⟩
def le_move_word_1 : Env → Res D :=
    (fBin dAdd (fBin dAdd (fCall dStr (fCons (fVar 1) fNil)) (fC (.str "x"))) (fCall dStr (fCons (fVar 2) fNil)))
def fb_move_word : Env → SRes :=
    (sSeq (sRet (fBin dAdd (fWIx t_SIGNS (fBin dIx (fVar 0) (fC (.int 0)))) (fM1 gJoin (fC (.str ",")) (fLc (fSeq (fBin dIx (fVar 0) (fC (.int 1)))) (gTp 2 (gsCons (gN 1) (gsCons (gN 2) gsNil))) tTrue (le_move_word_1) [1, 2]))))
    sNil)
def F_move_word : List D → FRes := fnF [] 3 1 [] (fb_move_word)
theorem fn_move_word {k : Nat} {f : Addr} {fd : FuncData} (G : Glob w K mg) (Fn : Fun K "move_word" "move_word" s_move_word f fd) : FnOk P w K mg base (L2.CX P w) (k + 1) f fd ["move"] (spD ⟨K, cm⟩ [] 1 (F_move_word)) := by
  have n_str : mg "str" = none := G.n_str
  obtain ⟨_, m_SIGNS, w_SIGNS⟩ := G.w_SIGNS
  refine fnD (R := []) (A := []) Fn sc_move_word rfl (fun cdv A0 outer s H E hr => ?_) (by decide) (by decide) (by decide) (by decide)
  have hu := hr.units
  have hu0 := hr.units0
  have hu65 := units65 hr
  have tk := L2.takes_of (X := cxOf (L2.CX P w) P w K mg base ["move", "want", "many"] "move_word" (defScope s_move_word) f cdv A0 outer s H E) rfl rfl rfl rfl
  exact SB.mono
    (SB.cons (SS.ret (SX.binop op_addD opd_add (SX.wix w_SIGNS m_SIGNS (SX.ix ix_seq opd_ix (SX.var 0) SX.int (by intro _ _; rfl) (by decide))) (SX.join SX.str (SX.lc [("want", 1), ("many", 2)] rfl sc_move_word.nd (SI.seq (SX.ix ix_seq opd_ix (SX.var 0) SX.int (by intro _ _; rfl) (by decide))) (show BlkOk ["move", "want", "many"] (defScope s_move_word) _ [("want", 1), ("many", 2)] from ⟨rfl, by decide +kernel, by decide +kernel, by decide +kernel, by decide +kernel⟩) (fun _ _ _ _ _ => (SG.tup rfl (SGs.cons (SG.name 1 sc_move_word.nd) (SGs.cons (SG.name 2 sc_move_word.nd) SGs.nil)))) (fun _ _ _ _ _ => STs.nil) (fun _ _ _ _ _ => (SX.binop op_addD opd_add (SX.binop op_addD opd_add (SX.callTy callr_str calld_str n_str (SA.cons (SX.var 1) SA.nil (by decide)) bb_str) SX.str (by decide)) (SX.callTy callr_str calld_str n_str (SA.cons (SX.var 2) SA.nil (by decide)) bb_str) (by decide))) (by decide) (by decide) (by decide))) (by decide)) (by decide))
    SB.nil) (by decide) (by decide)
theorem ok_move_word {k : Nat} (G : Glob w K mg) (T : DefIn K mg "move_word" "move_word" ["move"] s_move_word) : Cal P w K mg base cm (k + 1) "move_word" ["move"] [] 1 (F_move_word) := .mk' T fun f fd Fn => fn_move_word G Fn
abbrev s_log_words : Stmt := top 31
theorem sc_log_words : FnScope ["log", "found", "item"] ["log"] (defScope s_log_words) := ⟨rfl, rfl, rfl, by decide +kernel, rfl, by decide +kernel, by decide +kernel⟩
def lb_log_words_1 (M_log_words : List D → FRes) (M_move_word : List D → FRes) : Env → SRes :=
    (sSeq (sIf (fBl (fBin dEq (fCall dLen (fCons (fVar 2) fNil)) (fC (.int 3)))) (sSeq (sExpr (fApp 1 pR (fHold 1 (fBin dAdd (fCall dStr (fCons (fBin dIx (fVar 2) (fC (.int 1))) fNil)) (fC (.str "("))))))
    (sSeq (sExpr (fExt 1 pR (fHold 1 (fUser 1 M_log_words (fCons (fBin dIx (fVar 2) (fC (.int 2))) fNil)))))
    (sSeq (sExpr (fApp 1 pR (fHold 1 (fC (.str ")")))))
    sNil))) (sSeq (sExpr (fApp 1 pR (fHold 1 (fUser 1 M_move_word (fCons (fVar 2) fNil)))))
    sNil))
    sNil)
def fb_log_words (M_log_words : List D → FRes) (M_move_word : List D → FRes) : Env → SRes :=
    (sSeq (sAsg (fLst fNil) (gN 1))
    (sSeq (sFor (fSeq (fVar 0)) (gN 2) (lb_log_words_1 M_log_words M_move_word))
    (sSeq (sRet (fVar 1))
    sNil)))
def F_log_words (M_log_words : List D → FRes) (M_move_word : List D → FRes) : List D → FRes := fnF [] 3 1 [1, 2] (fb_log_words M_log_words M_move_word)
theorem fn_log_words {k : Nat} {M_log_words : List D → FRes} {M_move_word : List D → FRes} {f : Addr} {fd : FuncData} (G : Glob w K mg) (Fn : Fun K "log_words" "log_words" s_log_words f fd) (c_log_words : Cal P w K mg base cm k "log_words" ["log"] [] 1 M_log_words) (c_move_word : Cal P w K mg base cm k "move_word" ["move"] [] 1 M_move_word) : FnOk P w K mg base (L2.CX P w) (k + 1) f fd ["log"] (spD ⟨K, cm⟩ [] 1 (F_log_words M_log_words M_move_word)) := by
  have n_len : mg "len" = none := G.n_len
  have n_str : mg "str" = none := G.n_str
  refine fnD (R := [1]) (A := [1, 2]) Fn sc_log_words rfl (fun cdv A0 outer s H E hr => ?_) (by decide) (by decide) (by decide) (by decide)
  have hu := hr.units
  have hu0 := hr.units0
  have hu65 := units65 hr
  have tk := L2.takes_of (X := cxOf (L2.CX P w) P w K mg base ["log", "found", "item"] "log_words" (defScope s_log_words) f cdv A0 outer s H E) rfl rfl rfl rfl
  exact SB.mono
    (SB.cons (SS.asg (SX.lst SA.nil) (SG.name 1 sc_log_words.nd))
    (SB.cons (SS.for_ (L2.passes_of rfl) rfl (SI.seq (SX.var 0)) (SG.name 2 sc_log_words.nd) (SB.cons (SS.if_ (ST.cmp (op_eqA hu) opd_eq (SX.callB call_len calld_len n_len (SA.cons (SX.var 2) SA.nil (by decide)) PySem.boot_len) SX.int (nomark _) (by decide)) (SB.cons (SS.expr (SX.appendH 1 (SPl.root 1) (SX.binop op_addD opd_add (SX.callTy callr_str calld_str n_str (SA.cons (SX.ix ix_seq opd_ix (SX.var 2) SX.int (by intro _ _; rfl) (by decide)) SA.nil (by decide)) bb_str) SX.str (by decide)) (by decide)))
    (SB.cons (SS.expr (SX.extendH 1 (SPl.root 1) (SX.userC c_log_words hr tk (SA.cons (SX.ix ix_seq opd_ix (SX.var 2) SX.int (by intro _ _; rfl) (by decide)) SA.nil (by decide))) (by decide)))
    (SB.cons (SS.expr (SX.appendH 1 (SPl.root 1) SX.str (by decide)))
    SB.nil))) (SB.cons (SS.expr (SX.appendH 1 (SPl.root 1) (SX.userC c_move_word hr tk (SA.cons (SX.var 2) SA.nil (by decide))) (by decide)))
    SB.nil))
    SB.nil) (by decide))
    (SB.cons (SS.ret (SX.var 1) (by decide))
    SB.nil))) (by decide) (by decide)
theorem ok_log_words {k : Nat} {M_log_words : List D → FRes} {M_move_word : List D → FRes} (G : Glob w K mg) (T : DefIn K mg "log_words" "log_words" ["log"] s_log_words) (c_log_words : Cal P w K mg base cm k "log_words" ["log"] [] 1 M_log_words) (c_move_word : Cal P w K mg base cm k "move_word" ["move"] [] 1 M_move_word) : Cal P w K mg base cm (k + 1) "log_words" ["log"] [] 1 (F_log_words M_log_words M_move_word) := .mk' T fun f fd Fn => fn_log_words G Fn c_log_words c_move_word
abbrev s_log_text : Stmt := top 32
theorem sc_log_text : FnScope ["log"] ["log"] (defScope s_log_text) := ⟨rfl, rfl, rfl, by decide +kernel, rfl, by decide +kernel, by decide +kernel⟩
def fb_log_text (M_log_words : List D → FRes) : Env → SRes :=
    (sSeq (sRet (fM1 gJoin (fC (.str " ")) (fUser 1 M_log_words (fCons (fVar 0) fNil))))
    sNil)
def F_log_text (M_log_words : List D → FRes) : List D → FRes := fnF [] 1 1 [] (fb_log_text M_log_words)
theorem fn_log_text {k : Nat} {M_log_words : List D → FRes} {f : Addr} {fd : FuncData} (G : Glob w K mg) (Fn : Fun K "log_text" "log_text" s_log_text f fd) (c_log_words : Cal P w K mg base cm k "log_words" ["log"] [] 1 M_log_words) : FnOk P w K mg base (L2.CX P w) (k + 1) f fd ["log"] (spD ⟨K, cm⟩ [] 1 (F_log_text M_log_words)) := by
  refine fnD (R := []) (A := []) Fn sc_log_text rfl (fun cdv A0 outer s H E hr => ?_) (by decide) (by decide) (by decide) (by decide)
  have hu := hr.units
  have hu0 := hr.units0
  have hu65 := units65 hr
  have tk := L2.takes_of (X := cxOf (L2.CX P w) P w K mg base ["log"] "log_text" (defScope s_log_text) f cdv A0 outer s H E) rfl rfl rfl rfl
  exact SB.mono
    (SB.cons (SS.ret (SX.join SX.str (SX.userC c_log_words hr tk (SA.cons (SX.var 0) SA.nil (by decide)))) (by decide))
    SB.nil) (by decide) (by decide)
theorem ok_log_text {k : Nat} {M_log_words : List D → FRes} (G : Glob w K mg) (T : DefIn K mg "log_text" "log_text" ["log"] s_log_text) (c_log_words : Cal P w K mg base cm k "log_words" ["log"] [] 1 M_log_words) : Cal P w K mg base cm (k + 1) "log_text" ["log"] [] 1 (F_log_text M_log_words) := .mk' T fun f fd Fn => fn_log_text G Fn c_log_words
abbrev s_is_integer : Stmt := top 5
theorem sc_is_integer : FnScope ["thing"] ["thing"] (defScope s_is_integer) := ⟨rfl, rfl, rfl, by decide +kernel, rfl, by decide +kernel, by decide +kernel⟩
def fb_is_integer : Env → SRes :=
    (sSeq (sRet (fAndV (fIsi "int" (fVar 0)) (fNotV (fIsi "bool" (fVar 0)))))
    sNil)
def F_is_integer : List D → FRes := fnF [] 1 1 [] (fb_is_integer)
theorem fn_is_integer {k : Nat} {f : Addr} {fd : FuncData} (G : Glob w K mg) (Fn : Fun K "is_integer" "is_integer" s_is_integer f fd) : FnOk P w K mg base (L2.CX P w) (k + 1) f fd ["thing"] (spD ⟨K, cm⟩ [] 1 (F_is_integer)) := by
  have n_bool : mg "bool" = none := G.n_bool
  have n_int : mg "int" = none := G.n_int
  have n_isinstance : mg "isinstance" = none := G.n_isinstance
  refine fnD (R := []) (A := []) Fn sc_is_integer rfl (fun cdv A0 outer s H E hr => ?_) (by decide) (by decide) (by decide) (by decide)
  have hu := hr.units
  have hu0 := hr.units0
  have hu65 := units65 hr
  have tk := L2.takes_of (X := cxOf (L2.CX P w) P w K mg base ["thing"] "is_integer" (defScope s_is_integer) f cdv A0 outer s H E) rfl rfl rfl rfl
  exact SB.mono
    (SB.cons (SS.ret (SX.and (SX.isi "int" (by decide) n_isinstance n_int bb_int (SX.var 0)) (SX.one (SX.not (SX.isi "bool" (by decide) n_isinstance n_bool bb_bool (SX.var 0))))) (by decide))
    SB.nil) (by decide) (by decide)
theorem ok_is_integer {k : Nat} (G : Glob w K mg) (T : DefIn K mg "is_integer" "is_integer" ["thing"] s_is_integer) : Cal P w K mg base cm (k + 1) "is_integer" ["thing"] [] 1 (F_is_integer) := .mk' T fun f fd Fn => fn_is_integer G Fn
abbrev s_is_within : Stmt := top 6
theorem sc_is_within : FnScope ["thing", "least", "most"] ["thing", "least", "most"] (defScope s_is_within) := ⟨rfl, rfl, rfl, by decide +kernel, rfl, by decide +kernel, by decide +kernel⟩
def fb_is_within (M_is_integer : List D → FRes) : Env → SRes :=
    (sSeq (sRet (fAndV (fUser 1 M_is_integer (fCons (fVar 0) fNil)) (fChain dLe dLe (fVar 1) (fVar 0) (fVar 2))))
    sNil)
def F_is_within (M_is_integer : List D → FRes) : List D → FRes := fnF [] 3 3 [] (fb_is_within M_is_integer)
theorem fn_is_within {k : Nat} {M_is_integer : List D → FRes} {f : Addr} {fd : FuncData} (G : Glob w K mg) (Fn : Fun K "is_within" "is_within" s_is_within f fd) (c_is_integer : Cal P w K mg base cm k "is_integer" ["thing"] [] 1 M_is_integer) : FnOk P w K mg base (L2.CX P w) (k + 1) f fd ["thing", "least", "most"] (spD ⟨K, cm⟩ [] 3 (F_is_within M_is_integer)) := by
  refine fnD (R := []) (A := []) Fn sc_is_within rfl (fun cdv A0 outer s H E hr => ?_) (by decide) (by decide) (by decide) (by decide)
  have hu := hr.units
  have hu0 := hr.units0
  have hu65 := units65 hr
  have tk := L2.takes_of (X := cxOf (L2.CX P w) P w K mg base ["thing", "least", "most"] "is_within" (defScope s_is_within) f cdv A0 outer s H E) rfl rfl rfl rfl
  exact SB.mono
    (SB.cons (SS.ret (SX.and (SX.userC c_is_integer hr tk (SA.cons (SX.var 0) SA.nil (by decide))) (SX.one (SX.chain op_le op_le opd_le opd_le iBin_pure iBin_pure (SX.var 1) (SX.var 0) (SX.var 2)))) (by decide))
    SB.nil) (by decide) (by decide)
theorem ok_is_within {k : Nat} {M_is_integer : List D → FRes} (G : Glob w K mg) (T : DefIn K mg "is_within" "is_within" ["thing", "least", "most"] s_is_within) (c_is_integer : Cal P w K mg base cm k "is_integer" ["thing"] [] 1 M_is_integer) : Cal P w K mg base cm (k + 1) "is_within" ["thing", "least", "most"] [] 3 (F_is_within M_is_integer) := .mk' T fun f fd Fn => fn_is_within G Fn c_is_integer
abbrev s_is_rounds : Stmt := top 18
theorem sc_is_rounds : FnScope ["thing"] ["thing"] (defScope s_is_rounds) := ⟨rfl, rfl, rfl, by decide +kernel, rfl, by decide +kernel, by decide +kernel⟩
def fb_is_rounds (M_is_within : List D → FRes) : Env → SRes :=
    (sSeq (sIf (fOr (fNot (fTru (fIsi "tuple" (fVar 0)))) (fOr (fBl (fBin dNe (fCall dLen (fCons (fVar 0) fNil)) (fC (.int 3)))) (fOr (fNot (fTru (fIsi "str" (fBin dIx (fVar 0) (fC (.int 0)))))) (fBl (fBin dNe (fBin dIx (fVar 0) (fC (.int 0))) (fC (.str "times"))))))) (sSeq (sRet (fC (.bl false)))
    sNil) sNil)
    (sSeq (sRet (fAndV (fUser 3 M_is_within (fCons (fBin dIx (fVar 0) (fC (.int 1))) (fCons (fC (.int 1)) (fCons (fC (.int 1000000000000000000000000000000)) fNil)))) (fAndV (fIsi "tuple" (fBin dIx (fVar 0) (fC (.int 2)))) (fBin dGt (fCall dLen (fCons (fBin dIx (fVar 0) (fC (.int 2))) fNil)) (fC (.int 0))))))
    sNil))
def F_is_rounds (M_is_within : List D → FRes) : List D → FRes := fnF [] 1 1 [] (fb_is_rounds M_is_within)
theorem fn_is_rounds {k : Nat} {M_is_within : List D → FRes} {f : Addr} {fd : FuncData} (G : Glob w K mg) (Fn : Fun K "is_rounds" "is_rounds" s_is_rounds f fd) (c_is_within : Cal P w K mg base cm k "is_within" ["thing", "least", "most"] [] 3 M_is_within) : FnOk P w K mg base (L2.CX P w) (k + 1) f fd ["thing"] (spD ⟨K, cm⟩ [] 1 (F_is_rounds M_is_within)) := by
  obtain ⟨_, k_MOST_TIMES⟩ := G.k_MOST_TIMES
  obtain ⟨_, k_TIMES⟩ := G.k_TIMES
  have n_isinstance : mg "isinstance" = none := G.n_isinstance
  have n_len : mg "len" = none := G.n_len
  have n_str : mg "str" = none := G.n_str
  have n_tuple : mg "tuple" = none := G.n_tuple
  refine fnD (R := []) (A := []) Fn sc_is_rounds rfl (fun cdv A0 outer s H E hr => ?_) (by decide) (by decide) (by decide) (by decide)
  have hu := hr.units
  have hu0 := hr.units0
  have hu65 := units65 hr
  have tk := L2.takes_of (X := cxOf (L2.CX P w) P w K mg base ["thing"] "is_rounds" (defScope s_is_rounds) f cdv A0 outer s H E) rfl rfl rfl rfl
  exact SB.mono
    (SB.cons (SS.if_ (SW.st (SW.or (ST.not (ST.truth (SX.isi "tuple" (by decide) n_isinstance n_tuple bb_tuple (SX.var 0)))) (SW.or (ST.cmp (op_neA hu) opd_ne (SX.callB call_len calld_len n_len (SA.cons (SX.var 0) SA.nil (by decide)) PySem.boot_len) SX.int (nomark _) (by decide)) (SW.or (ST.not (ST.truth (SX.isi "str" (by decide) n_isinstance n_str bb_str (SX.ix ix_seq opd_ix (SX.var 0) SX.int (by intro _ _; rfl) (by decide))))) (SW.or1 (ST.cmp (op_neA hu) opd_ne (SX.ix ix_seq opd_ix (SX.var 0) SX.int (by intro _ _; rfl) (by decide)) (SX.gstr k_TIMES) (nomark _) (by decide))))))) (SB.cons (SS.ret SX.bl (by decide))
    SB.nil) SB.nil)
    (SB.cons (SS.ret (SX.and (SX.userC c_is_within hr tk (SA.cons (SX.ix ix_seq opd_ix (SX.var 0) SX.int (by intro _ _; rfl) (by decide)) (SA.cons SX.int (SA.cons (SX.gint k_MOST_TIMES) SA.nil (by decide)) (by decide)) (by decide))) (SX.and (SX.isi "tuple" (by decide) n_isinstance n_tuple bb_tuple (SX.ix ix_seq opd_ix (SX.var 0) SX.int (by intro _ _; rfl) (by decide))) (SX.one (SX.cmp op_gt opd_gt (SX.callB call_len calld_len n_len (SA.cons (SX.ix ix_seq opd_ix (SX.var 0) SX.int (by intro _ _; rfl) (by decide)) SA.nil (by decide)) PySem.boot_len) SX.int (nomark _) (by decide))))) (by decide))
    SB.nil)) (by decide) (by decide)
theorem ok_is_rounds {k : Nat} {M_is_within : List D → FRes} (G : Glob w K mg) (T : DefIn K mg "is_rounds" "is_rounds" ["thing"] s_is_rounds) (c_is_within : Cal P w K mg base cm k "is_within" ["thing", "least", "most"] [] 3 M_is_within) : Cal P w K mg base cm (k + 1) "is_rounds" ["thing"] [] 1 (F_is_rounds M_is_within) := .mk' T fun f fd Fn => fn_is_rounds G Fn c_is_within
abbrev s_is_way : Stmt := top 10
theorem sc_is_way : FnScope ["thing"] ["thing"] (defScope s_is_way) := ⟨rfl, rfl, rfl, by decide +kernel, rfl, by decide +kernel, by decide +kernel⟩
def fb_is_way (M_is_integer : List D → FRes) : Env → SRes :=
    (sSeq (sRet (fAndV (fUser 1 M_is_integer (fCons (fVar 0) fNil)) (fBin dIn (fVar 0) (fTup (fCons (fC (.int 1)) (fCons (fC (.int (-1))) fNil))))))
    sNil)
def F_is_way (M_is_integer : List D → FRes) : List D → FRes := fnF [] 1 1 [] (fb_is_way M_is_integer)
theorem fn_is_way {k : Nat} {M_is_integer : List D → FRes} {f : Addr} {fd : FuncData} (G : Glob w K mg) (Fn : Fun K "is_way" "is_way" s_is_way f fd) (c_is_integer : Cal P w K mg base cm k "is_integer" ["thing"] [] 1 M_is_integer) : FnOk P w K mg base (L2.CX P w) (k + 1) f fd ["thing"] (spD ⟨K, cm⟩ [] 1 (F_is_way M_is_integer)) := by
  obtain ⟨_, k_DOWN⟩ := G.k_DOWN
  obtain ⟨_, k_UP⟩ := G.k_UP
  refine fnD (R := []) (A := []) Fn sc_is_way rfl (fun cdv A0 outer s H E hr => ?_) (by decide) (by decide) (by decide) (by decide)
  have hu := hr.units
  have hu0 := hr.units0
  have hu65 := units65 hr
  have tk := L2.takes_of (X := cxOf (L2.CX P w) P w K mg base ["thing"] "is_way" (defScope s_is_way) f cdv A0 outer s H E) rfl rfl rfl rfl
  exact SB.mono
    (SB.cons (SS.ret (SX.and (SX.userC c_is_integer hr tk (SA.cons (SX.var 0) SA.nil (by decide))) (SX.one (SX.cmp (op_inA hu65) opd_in (SX.var 0) (SX.tup (SA.cons (SX.gint k_UP) (SA.cons (SX.gint k_DOWN) SA.nil (by decide)) (by decide))) (by rfl) (by decide)))) (by decide))
    SB.nil) (by decide) (by decide)
theorem ok_is_way {k : Nat} {M_is_integer : List D → FRes} (G : Glob w K mg) (T : DefIn K mg "is_way" "is_way" ["thing"] s_is_way) (c_is_integer : Cal P w K mg base cm k "is_integer" ["thing"] [] 1 M_is_integer) : Cal P w K mg base cm (k + 1) "is_way" ["thing"] [] 1 (F_is_way M_is_integer) := .mk' T fun f fd Fn => fn_is_way G Fn c_is_integer
abbrev s_is_aboard : Stmt := top 11
theorem sc_is_aboard : FnScope ["thing", "pair", "one", "other"] ["thing"] (defScope s_is_aboard) := ⟨rfl, rfl, rfl, by decide +kernel, rfl, by decide +kernel, by decide +kernel⟩
def lb_is_aboard_1 (M_is_integer : List D → FRes) : Env → SRes :=
    (sSeq (sIf (fOr (fNot (fTru (fIsi "tuple" (fVar 1)))) (fOr (fBl (fBin dNe (fCall dLen (fCons (fVar 1) fNil)) (fC (.int 2)))) (fOr (fNot (fTru (fUser 1 M_is_integer (fCons (fBin dIx (fVar 1) (fC (.int 0))) fNil)))) (fNot (fTru (fUser 1 M_is_integer (fCons (fBin dIx (fVar 1) (fC (.int 1))) fNil))))))) (sSeq (sRet (fC (.bl false)))
    sNil) sNil)
    (sSeq (sIf (fOr (fBl (fBin dLt (fBin dIx (fVar 1) (fC (.int 0))) (fC (.int 0)))) (fBl (fBin dLt (fBin dIx (fVar 1) (fC (.int 1))) (fC (.int 1))))) (sSeq (sRet (fC (.bl false)))
    sNil) sNil)
    sNil))
def le_is_aboard_1 (M_is_integer : List D → FRes) : Env → Res D :=
    (fBin dLt (fBin dIx (fVar 2) (fC (.int 0))) (fBin dIx (fVar 3) (fC (.int 0))))
def fb_is_aboard (M_is_integer : List D → FRes) : Env → SRes :=
    (sSeq (sIf (fNot (fTru (fIsi "tuple" (fVar 0)))) (sSeq (sRet (fC (.bl false)))
    sNil) sNil)
    (sSeq (sFor (fSeq (fVar 0)) (gN 1) (lb_is_aboard_1 M_is_integer))
    (sSeq (sRet (fCall dAll (fCons (fLc (fArgL gZip (fCons (fVar 0) (fCons (fSl (fVar 0) (fSomeP (fC (.int 1))) fNoP) fNil))) (gTp 2 (gsCons (gN 2) (gsCons (gN 3) gsNil))) tTrue (le_is_aboard_1 M_is_integer) [2, 3]) fNil)))
    sNil)))
def F_is_aboard (M_is_integer : List D → FRes) : List D → FRes := fnF [] 4 1 [1] (fb_is_aboard M_is_integer)
theorem fn_is_aboard {k : Nat} {M_is_integer : List D → FRes} {f : Addr} {fd : FuncData} (G : Glob w K mg) (Fn : Fun K "is_aboard" "is_aboard" s_is_aboard f fd) (c_is_integer : Cal P w K mg base cm k "is_integer" ["thing"] [] 1 M_is_integer) : FnOk P w K mg base (L2.CX P w) (k + 1) f fd ["thing"] (spD ⟨K, cm⟩ [] 1 (F_is_aboard M_is_integer)) := by
  have n_all : mg "all" = none := G.n_all
  have n_isinstance : mg "isinstance" = none := G.n_isinstance
  have n_len : mg "len" = none := G.n_len
  have n_tuple : mg "tuple" = none := G.n_tuple
  have n_zip : mg "zip" = none := G.n_zip
  refine fnD (R := []) (A := [1]) Fn sc_is_aboard rfl (fun cdv A0 outer s H E hr => ?_) (by decide) (by decide) (by decide) (by decide)
  have hu := hr.units
  have hu0 := hr.units0
  have hu65 := units65 hr
  have tk := L2.takes_of (X := cxOf (L2.CX P w) P w K mg base ["thing", "pair", "one", "other"] "is_aboard" (defScope s_is_aboard) f cdv A0 outer s H E) rfl rfl rfl rfl
  exact SB.mono
    (SB.cons (SS.if_ (ST.not (ST.truth (SX.isi "tuple" (by decide) n_isinstance n_tuple bb_tuple (SX.var 0)))) (SB.cons (SS.ret SX.bl (by decide))
    SB.nil) SB.nil)
    (SB.cons (SS.for_ (L2.passes_of rfl) rfl (SI.seq (SX.var 0)) (SG.name 1 sc_is_aboard.nd) (SB.cons (SS.if_ (SW.st (SW.or (ST.not (ST.truth (SX.isi "tuple" (by decide) n_isinstance n_tuple bb_tuple (SX.var 1)))) (SW.or (ST.cmp (op_neA hu) opd_ne (SX.callB call_len calld_len n_len (SA.cons (SX.var 1) SA.nil (by decide)) PySem.boot_len) SX.int (nomark _) (by decide)) (SW.or (ST.not (ST.truth (SX.userC c_is_integer hr tk (SA.cons (SX.ix ix_seq opd_ix (SX.var 1) SX.int (by intro _ _; rfl) (by decide)) SA.nil (by decide))))) (SW.or1 (ST.not (ST.truth (SX.userC c_is_integer hr tk (SA.cons (SX.ix ix_seq opd_ix (SX.var 1) SX.int (by intro _ _; rfl) (by decide)) SA.nil (by decide)))))))))) (SB.cons (SS.ret SX.bl (by decide))
    SB.nil) SB.nil)
    (SB.cons (SS.if_ (SW.st (SW.or (ST.cmp (op_ltA hu0) opd_lt (SX.ix ix_seq opd_ix (SX.var 1) SX.int (by intro _ _; rfl) (by decide)) SX.int (nomark _) (by decide)) (SW.or1 (ST.cmp (op_ltA hu0) opd_lt (SX.ix ix_seq opd_ix (SX.var 1) SX.int (by intro _ _; rfl) (by decide)) SX.int (nomark _) (by decide))))) (SB.cons (SS.ret SX.bl (by decide))
    SB.nil) SB.nil)
    SB.nil)) (by decide))
    (SB.cons (SS.ret (SX.callB (cr_all rfl) calld_all n_all (SA.cons (SX.lc [("one", 2), ("other", 3)] rfl sc_is_aboard.nd (SI.zip n_zip (SA.cons (SX.var 0) (SA.cons (SX.slice (SX.var 0) (SP'.some SX.int) SP'.none) SA.nil (by decide)) (by decide))) (show BlkOk ["thing", "pair", "one", "other"] (defScope s_is_aboard) _ [("one", 2), ("other", 3)] from ⟨rfl, by decide +kernel, by decide +kernel, by decide +kernel, by decide +kernel⟩) (fun _ _ _ _ _ => (SG.tup rfl (SGs.cons (SG.name 2 sc_is_aboard.nd) (SGs.cons (SG.name 3 sc_is_aboard.nd) SGs.nil)))) (fun _ _ _ _ _ => STs.nil) (fun _ _ _ _ _ => (SX.cmp (op_ltA hu0) opd_lt (SX.ix ix_seq opd_ix (SX.var 2) SX.int (by intro _ _; rfl) (by decide)) (SX.ix ix_seq opd_ix (SX.var 3) SX.int (by intro _ _; rfl) (by decide)) (nomark _) (by decide))) (by decide) (by decide) (by decide)) SA.nil (by decide)) bb_all) (by decide))
    SB.nil))) (by decide) (by decide)
theorem ok_is_aboard {k : Nat} {M_is_integer : List D → FRes} (G : Glob w K mg) (T : DefIn K mg "is_aboard" "is_aboard" ["thing"] s_is_aboard) (c_is_integer : Cal P w K mg base cm k "is_integer" ["thing"] [] 1 M_is_integer) : Cal P w K mg base cm (k + 1) "is_aboard" ["thing"] [] 1 (F_is_aboard M_is_integer) := .mk' T fun f fd Fn => fn_is_aboard G Fn c_is_integer
abbrev s_is_built_move : Stmt := top 12
theorem sc_is_built_move : FnScope ["thing"] ["thing"] (defScope s_is_built_move) := ⟨rfl, rfl, rfl, by decide +kernel, rfl, by decide +kernel, by decide +kernel⟩
def fb_is_built_move (M_is_way : List D → FRes) (M_is_aboard : List D → FRes) : Env → SRes :=
    (sSeq (sRet (fAndV (fIsi "tuple" (fVar 0)) (fAndV (fBin dEq (fCall dLen (fCons (fVar 0) fNil)) (fC (.int 2))) (fAndV (fUser 1 M_is_way (fCons (fBin dIx (fVar 0) (fC (.int 0))) fNil)) (fUser 1 M_is_aboard (fCons (fBin dIx (fVar 0) (fC (.int 1))) fNil))))))
    sNil)
def F_is_built_move (M_is_way : List D → FRes) (M_is_aboard : List D → FRes) : List D → FRes := fnF [] 1 1 [] (fb_is_built_move M_is_way M_is_aboard)
theorem fn_is_built_move {k : Nat} {M_is_way : List D → FRes} {M_is_aboard : List D → FRes} {f : Addr} {fd : FuncData} (G : Glob w K mg) (Fn : Fun K "is_built_move" "is_built_move" s_is_built_move f fd) (c_is_way : Cal P w K mg base cm k "is_way" ["thing"] [] 1 M_is_way) (c_is_aboard : Cal P w K mg base cm k "is_aboard" ["thing"] [] 1 M_is_aboard) : FnOk P w K mg base (L2.CX P w) (k + 1) f fd ["thing"] (spD ⟨K, cm⟩ [] 1 (F_is_built_move M_is_way M_is_aboard)) := by
  have n_isinstance : mg "isinstance" = none := G.n_isinstance
  have n_len : mg "len" = none := G.n_len
  have n_tuple : mg "tuple" = none := G.n_tuple
  refine fnD (R := []) (A := []) Fn sc_is_built_move rfl (fun cdv A0 outer s H E hr => ?_) (by decide) (by decide) (by decide) (by decide)
  have hu := hr.units
  have hu0 := hr.units0
  have hu65 := units65 hr
  have tk := L2.takes_of (X := cxOf (L2.CX P w) P w K mg base ["thing"] "is_built_move" (defScope s_is_built_move) f cdv A0 outer s H E) rfl rfl rfl rfl
  exact SB.mono
    (SB.cons (SS.ret (SX.and (SX.isi "tuple" (by decide) n_isinstance n_tuple bb_tuple (SX.var 0)) (SX.and (SX.cmp (op_eqA hu) opd_eq (SX.callB call_len calld_len n_len (SA.cons (SX.var 0) SA.nil (by decide)) PySem.boot_len) SX.int (nomark _) (by decide)) (SX.and (SX.userC c_is_way hr tk (SA.cons (SX.ix ix_seq opd_ix (SX.var 0) SX.int (by intro _ _; rfl) (by decide)) SA.nil (by decide))) (SX.one (SX.userC c_is_aboard hr tk (SA.cons (SX.ix ix_seq opd_ix (SX.var 0) SX.int (by intro _ _; rfl) (by decide)) SA.nil (by decide))))))) (by decide))
    SB.nil) (by decide) (by decide)
theorem ok_is_built_move {k : Nat} {M_is_way : List D → FRes} {M_is_aboard : List D → FRes} (G : Glob w K mg) (T : DefIn K mg "is_built_move" "is_built_move" ["thing"] s_is_built_move) (c_is_way : Cal P w K mg base cm k "is_way" ["thing"] [] 1 M_is_way) (c_is_aboard : Cal P w K mg base cm k "is_aboard" ["thing"] [] 1 M_is_aboard) : Cal P w K mg base cm (k + 1) "is_built_move" ["thing"] [] 1 (F_is_built_move M_is_way M_is_aboard) := .mk' T fun f fd Fn => fn_is_built_move G Fn c_is_way c_is_aboard
abbrev s_written_in : Stmt := top 19
theorem sc_written_in : FnScope ["thing", "waiting", "found", "log", "depth", "item"] ["thing"] (defScope s_written_in) := ⟨rfl, rfl, rfl, by decide +kernel, rfl, by decide +kernel, by decide +kernel⟩
def lb_written_in_1 (M_is_rounds : List D → FRes) (M_is_built_move : List D → FRes) (fu : Nat) : Env → SRes :=
    (sSeq (sIf (fTru (fUser 1 M_is_rounds (fCons (fVar 5) fNil))) (sSeq (sExpr (fApp 1 pR (fHold 1 (fTup (fCons (fPure (fBin dIx (fVar 5) (fC (.int 2)))) (fCons (fBin dAdd (fVar 4) (fC (.int 1))) fNil))))))
    sNil) (sSeq (sIf (fTru (fUser 1 M_is_built_move (fCons (fVar 5) fNil))) (sSeq (sAug 2 augAdd (fC (.int 1)))
    sNil) (sSeq (sRet (fC .non))
    sNil))
    sNil))
    sNil)
def lb_written_in_2 (M_is_rounds : List D → FRes) (M_is_built_move : List D → FRes) (fu : Nat) : Env → SRes :=
    (sSeq (sAsg (fPop 1 pR) (gTp 2 (gsCons (gN 3) (gsCons (gN 4) gsNil))))
    (sSeq (sIf (fOr (fNot (fTru (fIsi "tuple" (fVar 3)))) (fBl (fBin dGt (fVar 4) (fC (.int 3))))) (sSeq (sRet (fC .non))
    sNil) sNil)
    (sSeq (sFor (fSeq (fVar 3)) (gN 5) (lb_written_in_1 M_is_rounds M_is_built_move fu))
    (sSeq (sIf (fOr (fBl (fBin dGt (fVar 2) (fC (.int 200)))) (fBl (fBin dGt (fCall dLen (fCons (fVar 1) fNil)) (fC (.int 200))))) (sSeq (sRet (fC .non))
    sNil) sNil)
    sNil))))
def fb_written_in (M_is_rounds : List D → FRes) (M_is_built_move : List D → FRes) (fu : Nat) : Env → SRes :=
    (sSeq (sAsg (fLst (fCons (fTup (fCons (fPure (fVar 0)) (fCons (fC (.int 0)) fNil))) fNil)) (gN 1))
    (sSeq (sAsg (fC (.int 0)) (gN 2))
    (sSeq (sWhile (fun _ => fu) (fBl (fBin dNe (fVar 1) (fLst fNil))) (lb_written_in_2 M_is_rounds M_is_built_move fu))
    (sSeq (sRet (fVar 2))
    sNil))))
def F_written_in (M_is_rounds : List D → FRes) (M_is_built_move : List D → FRes) (fu : Nat) : List D → FRes := fnF [] 6 1 [1, 2, 3, 4, 5] (fb_written_in M_is_rounds M_is_built_move fu)
theorem fn_written_in {k : Nat} {M_is_rounds : List D → FRes} {M_is_built_move : List D → FRes} (fu : Nat) {f : Addr} {fd : FuncData} (G : Glob w K mg) (Fn : Fun K "written_in" "written_in" s_written_in f fd) (c_is_rounds : Cal P w K mg base cm k "is_rounds" ["thing"] [] 1 M_is_rounds) (c_is_built_move : Cal P w K mg base cm k "is_built_move" ["thing"] [] 1 M_is_built_move) : FnOk P w K mg base (L2.CX P w) (k + 1) f fd ["thing"] (spD ⟨K, cm⟩ [] 1 (F_written_in M_is_rounds M_is_built_move fu)) := by
  obtain ⟨_, k_MOST_DEPTH⟩ := G.k_MOST_DEPTH
  obtain ⟨_, k_MOST_WRITTEN⟩ := G.k_MOST_WRITTEN
  have n_isinstance : mg "isinstance" = none := G.n_isinstance
  have n_len : mg "len" = none := G.n_len
  have n_tuple : mg "tuple" = none := G.n_tuple
  refine fnD (R := [1]) (A := [1, 2, 3, 4, 5]) Fn sc_written_in rfl (fun cdv A0 outer s H E hr => ?_) (by decide) (by decide) (by decide) (by decide)
  have hu := hr.units
  have hu0 := hr.units0
  have hu65 := units65 hr
  have tk := L2.takes_of (X := cxOf (L2.CX P w) P w K mg base ["thing", "waiting", "found", "log", "depth", "item"] "written_in" (defScope s_written_in) f cdv A0 outer s H E) rfl rfl rfl rfl
  exact SB.mono
    (SB.cons (SS.asg (SX.lst (SA.cons (SX.tup (SA.cons (SX.pure (SX.var 0)) (SA.cons SX.int SA.nil (by decide)) (by decide))) SA.nil (by decide))) (SG.name 1 sc_written_in.nd))
    (SB.cons (SS.asg SX.int (SG.name 2 sc_written_in.nd))
    (SB.cons (SS.while_ (fun _ => fu) (L2.passes_of rfl) (ST.cmp (op_neA hu) opd_ne (SX.var 1) (SX.lst SA.nil) (nomark _) (by decide)) (SB.cons (SS.asg (SX.pop (SPl.root 1)) (SG.tup rfl (SGs.cons (SG.name 3 sc_written_in.nd) (SGs.cons (SG.name 4 sc_written_in.nd) SGs.nil))))
    (SB.cons (SS.if_ (SW.st (SW.or (ST.not (ST.truth (SX.isi "tuple" (by decide) n_isinstance n_tuple bb_tuple (SX.var 3)))) (SW.or1 (ST.cmp op_gt opd_gt (SX.var 4) (SX.gint k_MOST_DEPTH) (nomark _) (by decide))))) (SB.cons (SS.ret SX.non (by decide))
    SB.nil) SB.nil)
    (SB.cons (SS.for_ (L2.passes_of rfl) rfl (SI.seq (SX.var 3)) (SG.name 5 sc_written_in.nd) (SB.cons (SS.if_ (ST.truth (SX.userC c_is_rounds hr tk (SA.cons (SX.var 5) SA.nil (by decide)))) (SB.cons (SS.expr (SX.appendH 1 (SPl.root 1) (SX.tup (SA.cons (SX.pure (SX.ix ix_seq opd_ix (SX.var 5) SX.int (by intro _ _; rfl) (by decide))) (SA.cons (SX.binop op_addD opd_add (SX.var 4) SX.int (by decide)) SA.nil (by decide)) (by decide))) (by decide)))
    SB.nil) (SB.cons (SS.if_ (ST.truth (SX.userC c_is_built_move hr tk (SA.cons (SX.var 5) SA.nil (by decide)))) (SB.cons (SS.aug 2 sc_written_in.nd SX.int ip_add ipd_add (.inl rfl))
    SB.nil) (SB.cons (SS.ret SX.non (by decide))
    SB.nil))
    SB.nil))
    SB.nil) (by decide))
    (SB.cons (SS.if_ (SW.st (SW.or (ST.cmp op_gt opd_gt (SX.var 2) (SX.gint k_MOST_WRITTEN) (nomark _) (by decide)) (SW.or1 (ST.cmp op_gt opd_gt (SX.callB call_len calld_len n_len (SA.cons (SX.var 1) SA.nil (by decide)) PySem.boot_len) (SX.gint k_MOST_WRITTEN) (nomark _) (by decide))))) (SB.cons (SS.ret SX.non (by decide))
    SB.nil) SB.nil)
    SB.nil)))))
    (SB.cons (SS.ret (SX.var 2) (by decide))
    SB.nil)))) (by decide) (by decide)
theorem ok_written_in {k : Nat} {M_is_rounds : List D → FRes} {M_is_built_move : List D → FRes} (fu : Nat) (G : Glob w K mg) (T : DefIn K mg "written_in" "written_in" ["thing"] s_written_in) (c_is_rounds : Cal P w K mg base cm k "is_rounds" ["thing"] [] 1 M_is_rounds) (c_is_built_move : Cal P w K mg base cm k "is_built_move" ["thing"] [] 1 M_is_built_move) : Cal P w K mg base cm (k + 1) "written_in" ["thing"] [] 1 (F_written_in M_is_rounds M_is_built_move fu) := .mk' T fun f fd Fn => fn_written_in fu G Fn c_is_rounds c_is_built_move
abbrev s_check_built : Stmt := top 20
theorem sc_check_built : FnScope ["log"] ["log"] (defScope s_check_built) := ⟨rfl, rfl, rfl, by decide +kernel, rfl, by decide +kernel, by decide +kernel⟩
def fb_check_built (M_written_in : List D → FRes) : Env → SRes :=
    (sSeq (sIf (fBl (fBin dIsN (fUser 1 M_written_in (fCons (fVar 0) fNil)) (fC .non))) (sSeq sBad
    sNil) sNil)
    (sSeq (sRet (fPure (fVar 0)))
    sNil))
def F_check_built (M_written_in : List D → FRes) : List D → FRes := fnF [] 1 1 [] (fb_check_built M_written_in)
theorem fn_check_built {k : Nat} {M_written_in : List D → FRes} {f : Addr} {fd : FuncData} (G : Glob w K mg) (Fn : Fun K "check_built" "check_built" s_check_built f fd) (c_written_in : Cal P w K mg base cm k "written_in" ["thing"] [] 1 M_written_in) : FnOk P w K mg base (L2.CX P w) (k + 1) f fd ["log"] (spD ⟨K, cm⟩ [] 1 (F_check_built M_written_in)) := by
  refine fnD (R := []) (A := []) Fn sc_check_built rfl (fun cdv A0 outer s H E hr => ?_) (by decide) (by decide) (by decide) (by decide)
  have hu := hr.units
  have hu0 := hr.units0
  have hu65 := units65 hr
  have tk := L2.takes_of (X := cxOf (L2.CX P w) P w K mg base ["log"] "check_built" (defScope s_check_built) f cdv A0 outer s H E) rfl rfl rfl rfl
  exact SB.mono
    (SB.cons (SS.if_ (ST.cmp op_isN opd_isN (SX.userC c_written_in hr tk (SA.cons (SX.var 0) SA.nil (by decide))) SX.non (nomark _) (by decide)) (SB.cons SS.never
    SB.nil) SB.nil)
    (SB.cons (SS.ret (SX.pure (SX.var 0)) (by decide))
    SB.nil)) (by decide) (by decide)
theorem ok_check_built {k : Nat} {M_written_in : List D → FRes} (G : Glob w K mg) (T : DefIn K mg "check_built" "check_built" ["log"] s_check_built) (c_written_in : Cal P w K mg base cm k "written_in" ["thing"] [] 1 M_written_in) : Cal P w K mg base cm (k + 1) "check_built" ["log"] [] 1 (F_check_built M_written_in) := .mk' T fun f fd Fn => fn_check_built G Fn c_written_in
abbrev s_number_in : Stmt := top 29
theorem sc_number_in : FnScope ["word", "sign"] ["word"] (defScope s_number_in) := ⟨rfl, rfl, rfl, by decide +kernel, rfl, by decide +kernel, by decide +kernel⟩
def le_number_in_1 : Env → Res D :=
    (fBin dIn (fVar 1) (fC (.str "0123456789")))
def fb_number_in : Env → SRes :=
    (sSeq (sIf (fOr (fBl (fBin dEq (fVar 0) (fC (.str "")))) (fOr (fBl (fBin dGt (fCall dLen (fCons (fVar 0) fNil)) (fC (.int 31)))) (fNot (fTru (fCall dAll (fCons (fLc (fSeq (fVar 0)) (gN 1) tTrue (le_number_in_1) [1]) fNil)))))) (sSeq (sRet (fC .non))
    sNil) sNil)
    (sSeq (sRet (fIf (fOr (fBl (fBin dEq (fVar 0) (fC (.str "0")))) (fNot (fTru (fM1 gStarts (fVar 0) (fC (.str "0")))))) (fCall dInt (fCons (fVar 0) fNil)) (fC .non)))
    sNil))
def F_number_in : List D → FRes := fnF [] 2 1 [] (fb_number_in)
theorem fn_number_in {k : Nat} {f : Addr} {fd : FuncData} (G : Glob w K mg) (Fn : Fun K "number_in" "number_in" s_number_in f fd) : FnOk P w K mg base (L2.CX P w) (k + 1) f fd ["word"] (spD ⟨K, cm⟩ [] 1 (F_number_in)) := by
  obtain ⟨_, k_DIGITS⟩ := G.k_DIGITS
  obtain ⟨_, k_MOST_DIGITS⟩ := G.k_MOST_DIGITS
  have n_all : mg "all" = none := G.n_all
  have n_int : mg "int" = none := G.n_int
  have n_len : mg "len" = none := G.n_len
  refine fnD (R := []) (A := []) Fn sc_number_in rfl (fun cdv A0 outer s H E hr => ?_) (by decide) (by decide) (by decide) (by decide)
  have hu := hr.units
  have hu0 := hr.units0
  have hu65 := units65 hr
  have tk := L2.takes_of (X := cxOf (L2.CX P w) P w K mg base ["word", "sign"] "number_in" (defScope s_number_in) f cdv A0 outer s H E) rfl rfl rfl rfl
  exact SB.mono
    (SB.cons (SS.if_ (SW.st (SW.or (ST.cmp (op_eqA hu) opd_eq (SX.var 0) SX.str (nomark _) (by decide)) (SW.or (ST.cmp op_gt opd_gt (SX.callB call_len calld_len n_len (SA.cons (SX.var 0) SA.nil (by decide)) PySem.boot_len) (SX.gint k_MOST_DIGITS) (nomark _) (by decide)) (SW.or1 (ST.not (ST.truth (SX.callB (cr_all rfl) calld_all n_all (SA.cons (SX.lc [("sign", 1)] rfl sc_number_in.nd (SI.seq (SX.var 0)) (show BlkOk ["word", "sign"] (defScope s_number_in) _ [("sign", 1)] from ⟨rfl, by decide +kernel, by decide +kernel, by decide +kernel, by decide +kernel⟩) (fun _ _ _ _ _ => (SG.name 1 sc_number_in.nd)) (fun _ _ _ _ _ => STs.nil) (fun _ _ _ _ _ => (SX.cmp (op_inA hu65) opd_in (SX.var 1) (SX.gstr k_DIGITS) (by rfl) (by decide))) (by decide) (by decide) (by decide)) SA.nil (by decide)) bb_all))))))) (SB.cons (SS.ret SX.non (by decide))
    SB.nil) SB.nil)
    (SB.cons (SS.ret (SX.ifExp (SW.st (SW.or (ST.cmp (op_eqA hu) opd_eq (SX.var 0) SX.str (nomark _) (by decide)) (SW.or1 (ST.not (ST.truth (SX.starts (SX.var 0) SX.str)))))) (SX.callTy callr_int calld_int n_int (SA.cons (SX.var 0) SA.nil (by decide)) bb_int) SX.non) (by decide))
    SB.nil)) (by decide) (by decide)
theorem ok_number_in {k : Nat} (G : Glob w K mg) (T : DefIn K mg "number_in" "number_in" ["word"] s_number_in) : Cal P w K mg base cm (k + 1) "number_in" ["word"] [] 1 (F_number_in) := .mk' T fun f fd Fn => fn_number_in G Fn
abbrev s_times_in : Stmt := top 35
theorem sc_times_in : FnScope ["word"] ["word"] (defScope s_times_in) := ⟨rfl, rfl, rfl, by decide +kernel, rfl, by decide +kernel, by decide +kernel⟩
def fb_times_in (M_number_in : List D → FRes) : Env → SRes :=
    (sSeq (sRet (fIf (fTru (fM1 gEnds (fVar 0) (fC (.str "(")))) (fUser 1 M_number_in (fCons (fSl (fVar 0) fNoP (fSomeP (fNeg (fC (.int 1))))) fNil)) (fC .non)))
    sNil)
def F_times_in (M_number_in : List D → FRes) : List D → FRes := fnF [] 1 1 [] (fb_times_in M_number_in)
theorem fn_times_in {k : Nat} {M_number_in : List D → FRes} {f : Addr} {fd : FuncData} (G : Glob w K mg) (Fn : Fun K "times_in" "times_in" s_times_in f fd) (c_number_in : Cal P w K mg base cm k "number_in" ["word"] [] 1 M_number_in) : FnOk P w K mg base (L2.CX P w) (k + 1) f fd ["word"] (spD ⟨K, cm⟩ [] 1 (F_times_in M_number_in)) := by
  refine fnD (R := []) (A := []) Fn sc_times_in rfl (fun cdv A0 outer s H E hr => ?_) (by decide) (by decide) (by decide) (by decide)
  have hu := hr.units
  have hu0 := hr.units0
  have hu65 := units65 hr
  have tk := L2.takes_of (X := cxOf (L2.CX P w) P w K mg base ["word"] "times_in" (defScope s_times_in) f cdv A0 outer s H E) rfl rfl rfl rfl
  exact SB.mono
    (SB.cons (SS.ret (SX.ifExp (ST.truth (SX.ends (SX.var 0) SX.str)) (SX.userC c_number_in hr tk (SA.cons (SX.slice (SX.var 0) SP'.none (SP'.some (SX.neg SX.int))) SA.nil (by decide))) SX.non) (by decide))
    SB.nil) (by decide) (by decide)
theorem ok_times_in {k : Nat} {M_number_in : List D → FRes} (G : Glob w K mg) (T : DefIn K mg "times_in" "times_in" ["word"] s_times_in) (c_number_in : Cal P w K mg base cm k "number_in" ["word"] [] 1 M_number_in) : Cal P w K mg base cm (k + 1) "times_in" ["word"] [] 1 (F_times_in M_number_in) := .mk' T fun f fd Fn => fn_times_in G Fn c_number_in
abbrev s_pair_in : Stmt := top 33
theorem sc_pair_in : FnScope ["word", "parts", "found"] ["word"] (defScope s_pair_in) := ⟨rfl, rfl, rfl, by decide +kernel, rfl, by decide +kernel, by decide +kernel⟩
def fb_pair_in (M_number_in : List D → FRes) : Env → SRes :=
    (sSeq (sAsg (fM1 gSplit (fVar 0) (fC (.str "x"))) (gN 1))
    (sSeq (sIf (fBl (fBin dNe (fCall dLen (fCons (fVar 1) fNil)) (fC (.int 2)))) (sSeq (sRet (fC .non))
    sNil) sNil)
    (sSeq (sAsg (fTup (fCons (fUser 1 M_number_in (fCons (fBin dIx (fVar 1) (fC (.int 0))) fNil)) (fCons (fUser 1 M_number_in (fCons (fBin dIx (fVar 1) (fC (.int 1))) fNil)) fNil))) (gN 2))
    (sSeq (sRet (fIf (fBl (fBin dIn (fC .non) (fVar 2))) (fC .non) (fVar 2)))
    sNil))))
def F_pair_in (M_number_in : List D → FRes) : List D → FRes := fnF [] 3 1 [1, 2] (fb_pair_in M_number_in)
theorem fn_pair_in {k : Nat} {M_number_in : List D → FRes} {f : Addr} {fd : FuncData} (G : Glob w K mg) (Fn : Fun K "pair_in" "pair_in" s_pair_in f fd) (c_number_in : Cal P w K mg base cm k "number_in" ["word"] [] 1 M_number_in) : FnOk P w K mg base (L2.CX P w) (k + 1) f fd ["word"] (spD ⟨K, cm⟩ [] 1 (F_pair_in M_number_in)) := by
  have n_len : mg "len" = none := G.n_len
  refine fnD (R := []) (A := [1, 2]) Fn sc_pair_in rfl (fun cdv A0 outer s H E hr => ?_) (by decide) (by decide) (by decide) (by decide)
  have hu := hr.units
  have hu0 := hr.units0
  have hu65 := units65 hr
  have tk := L2.takes_of (X := cxOf (L2.CX P w) P w K mg base ["word", "parts", "found"] "pair_in" (defScope s_pair_in) f cdv A0 outer s H E) rfl rfl rfl rfl
  exact SB.mono
    (SB.cons (SS.asg (SX.split (SX.var 0) SX.str) (SG.name 1 sc_pair_in.nd))
    (SB.cons (SS.if_ (ST.cmp (op_neA hu) opd_ne (SX.callB call_len calld_len n_len (SA.cons (SX.var 1) SA.nil (by decide)) PySem.boot_len) SX.int (nomark _) (by decide)) (SB.cons (SS.ret SX.non (by decide))
    SB.nil) SB.nil)
    (SB.cons (SS.asg (SX.tup (SA.cons (SX.userC c_number_in hr tk (SA.cons (SX.ix ix_seq opd_ix (SX.var 1) SX.int (by intro _ _; rfl) (by decide)) SA.nil (by decide))) (SA.cons (SX.userC c_number_in hr tk (SA.cons (SX.ix ix_seq opd_ix (SX.var 1) SX.int (by intro _ _; rfl) (by decide)) SA.nil (by decide))) SA.nil (by decide)) (by decide))) (SG.name 2 sc_pair_in.nd))
    (SB.cons (SS.ret (SX.ifExp (ST.cmp (op_inA hu65) opd_in SX.non (SX.var 2) (by rfl) (by decide)) SX.non (SX.var 2)) (by decide))
    SB.nil)))) (by decide) (by decide)
theorem ok_pair_in {k : Nat} {M_number_in : List D → FRes} (G : Glob w K mg) (T : DefIn K mg "pair_in" "pair_in" ["word"] s_pair_in) (c_number_in : Cal P w K mg base cm k "number_in" ["word"] [] 1 M_number_in) : Cal P w K mg base cm (k + 1) "pair_in" ["word"] [] 1 (F_pair_in M_number_in) := .mk' T fun f fd Fn => fn_pair_in G Fn c_number_in
abbrev s_move_in : Stmt := top 34
theorem sc_move_in : FnScope ["word", "pairs", "part"] ["word"] (defScope s_move_in) := ⟨rfl, rfl, rfl, by decide +kernel, rfl, by decide +kernel, by decide +kernel⟩
def le_move_in_1 (M_pair_in : List D → FRes) : Env → Res D :=
    (fUser 1 M_pair_in (fCons (fVar 2) fNil))
def fb_move_in (M_pair_in : List D → FRes) : Env → SRes :=
    (sSeq (sIf (fOr (fBl (fBin dEq (fVar 0) (fC (.str "")))) (fBl (fWIn t_WAYS true (fBin dIx (fVar 0) (fC (.int 0)))))) (sSeq (sRet (fC .non))
    sNil) sNil)
    (sSeq (sAsg (fIf (fBl (fBin dGt (fCall dLen (fCons (fVar 0) fNil)) (fC (.int 1)))) (fLc (fSeq (fM1 gSplit (fSl (fVar 0) (fSomeP (fC (.int 1))) fNoP) (fC (.str ",")))) (gN 2) tTrue (le_move_in_1 M_pair_in) [2]) (fLst fNil)) (gN 1))
    (sSeq (sRet (fIf (fBl (fBin dIn (fC .non) (fVar 1))) (fC .non) (fTup (fCons (fWIx t_WAYS (fBin dIx (fVar 0) (fC (.int 0)))) (fCons (fCall dTuple (fCons (fVar 1) fNil)) fNil)))))
    sNil)))
def F_move_in (M_pair_in : List D → FRes) : List D → FRes := fnF [] 3 1 [1] (fb_move_in M_pair_in)
theorem fn_move_in {k : Nat} {M_pair_in : List D → FRes} {f : Addr} {fd : FuncData} (G : Glob w K mg) (Fn : Fun K "move_in" "move_in" s_move_in f fd) (c_pair_in : Cal P w K mg base cm k "pair_in" ["word"] [] 1 M_pair_in) : FnOk P w K mg base (L2.CX P w) (k + 1) f fd ["word"] (spD ⟨K, cm⟩ [] 1 (F_move_in M_pair_in)) := by
  have n_len : mg "len" = none := G.n_len
  have n_tuple : mg "tuple" = none := G.n_tuple
  obtain ⟨_, m_WAYS, w_WAYS⟩ := G.w_WAYS
  refine fnD (R := []) (A := [1]) Fn sc_move_in rfl (fun cdv A0 outer s H E hr => ?_) (by decide) (by decide) (by decide) (by decide)
  have hu := hr.units
  have hu0 := hr.units0
  have hu65 := units65 hr
  have tk := L2.takes_of (X := cxOf (L2.CX P w) P w K mg base ["word", "pairs", "part"] "move_in" (defScope s_move_in) f cdv A0 outer s H E) rfl rfl rfl rfl
  exact SB.mono
    (SB.cons (SS.if_ (SW.st (SW.or (ST.cmp (op_eqA hu) opd_eq (SX.var 0) SX.str (nomark _) (by decide)) (SW.or1 (ST.wnotIn w_WAYS m_WAYS (SX.ix ix_seq opd_ix (SX.var 0) SX.int (by intro _ _; rfl) (by decide)))))) (SB.cons (SS.ret SX.non (by decide))
    SB.nil) SB.nil)
    (SB.cons (SS.asg (SX.ifExp (ST.cmp op_gt opd_gt (SX.callB call_len calld_len n_len (SA.cons (SX.var 0) SA.nil (by decide)) PySem.boot_len) SX.int (nomark _) (by decide)) (SX.lc [("part", 2)] rfl sc_move_in.nd (SI.seq (SX.split (SX.slice (SX.var 0) (SP'.some SX.int) SP'.none) SX.str)) (show BlkOk ["word", "pairs", "part"] (defScope s_move_in) _ [("part", 2)] from ⟨rfl, by decide +kernel, by decide +kernel, by decide +kernel, by decide +kernel⟩) (fun _ _ _ _ _ => (SG.name 2 sc_move_in.nd)) (fun _ _ _ _ _ => STs.nil) (fun _ _ _ _ _ => (SX.userC c_pair_in hr L2.takes0 (SA.cons (SX.var 2) SA.nil (by decide)))) (by decide) (by decide) (by decide)) (SX.lst SA.nil)) (SG.name 1 sc_move_in.nd))
    (SB.cons (SS.ret (SX.ifExp (ST.cmp (op_inA hu65) opd_in SX.non (SX.var 1) (by rfl) (by decide)) SX.non (SX.tup (SA.cons (SX.wix w_WAYS m_WAYS (SX.ix ix_seq opd_ix (SX.var 0) SX.int (by intro _ _; rfl) (by decide))) (SA.cons (SX.callTy callr_tuple calld_tuple n_tuple (SA.cons (SX.var 1) SA.nil (by decide)) bb_tuple) SA.nil (by decide)) (by decide)))) (by decide))
    SB.nil))) (by decide) (by decide)
theorem ok_move_in {k : Nat} {M_pair_in : List D → FRes} (G : Glob w K mg) (T : DefIn K mg "move_in" "move_in" ["word"] s_move_in) (c_pair_in : Cal P w K mg base cm k "pair_in" ["word"] [] 1 M_pair_in) : Cal P w K mg base cm (k + 1) "move_in" ["word"] [] 1 (F_move_in M_pair_in) := .mk' T fun f fd Fn => fn_move_in G Fn c_pair_in
abbrev s_check_text : Stmt := top 28
theorem sc_check_text : FnScope ["text"] ["text"] (defScope s_check_text) := ⟨rfl, rfl, rfl, by decide +kernel, rfl, by decide +kernel, by decide +kernel⟩
def fb_check_text : Env → SRes :=
    (sSeq (sIf (fNot (fTru (fIsi "str" (fVar 0)))) (sSeq sBad
    sNil) sNil)
    (sSeq (sRet (fPure (fVar 0)))
    sNil))
def F_check_text : List D → FRes := fnF [] 1 1 [] (fb_check_text)
theorem fn_check_text {k : Nat} {f : Addr} {fd : FuncData} (G : Glob w K mg) (Fn : Fun K "check_text" "check_text" s_check_text f fd) : FnOk P w K mg base (L2.CX P w) (k + 1) f fd ["text"] (spD ⟨K, cm⟩ [] 1 (F_check_text)) := by
  have n_isinstance : mg "isinstance" = none := G.n_isinstance
  have n_str : mg "str" = none := G.n_str
  refine fnD (R := []) (A := []) Fn sc_check_text rfl (fun cdv A0 outer s H E hr => ?_) (by decide) (by decide) (by decide) (by decide)
  have hu := hr.units
  have hu0 := hr.units0
  have hu65 := units65 hr
  have tk := L2.takes_of (X := cxOf (L2.CX P w) P w K mg base ["text"] "check_text" (defScope s_check_text) f cdv A0 outer s H E) rfl rfl rfl rfl
  exact SB.mono
    (SB.cons (SS.if_ (ST.not (ST.truth (SX.isi "str" (by decide) n_isinstance n_str bb_str (SX.var 0)))) (SB.cons SS.never
    SB.nil) SB.nil)
    (SB.cons (SS.ret (SX.pure (SX.var 0)) (by decide))
    SB.nil)) (by decide) (by decide)
theorem ok_check_text {k : Nat} (G : Glob w K mg) (T : DefIn K mg "check_text" "check_text" ["text"] s_check_text) : Cal P w K mg base cm (k + 1) "check_text" ["text"] [] 1 (F_check_text) := .mk' T fun f fd Fn => fn_check_text G Fn
abbrev s_read_log : Stmt := top 36
theorem sc_read_log : FnScope ["text", "words", "stack", "index", "word", "times", "move", "many", "log"] ["text"] (defScope s_read_log) := ⟨rfl, rfl, rfl, by decide +kernel, rfl, by decide +kernel, by decide +kernel⟩
def lb_read_log_1 (M_check_text : List D → FRes) (M_times_in : List D → FRes) (M_move_in : List D → FRes) (M_check_built : List D → FRes) : Env → SRes :=
    (sSeq (sAsg (fUser 1 M_times_in (fCons (fVar 4) fNil)) (gN 5))
    (sSeq (sAsg (fUser 1 M_move_in (fCons (fVar 4) fNil)) (gN 6))
    (sSeq (sIf (fBl (fBin dNotN (fVar 5) (fC .non))) (sSeq (sExpr (fApp 2 pR (fHold 2 (fTup (fCons (fPure (fVar 5)) (fCons (fLst fNil) fNil))))))
    sNil) (sSeq (sIf (fBl (fBin dNotN (fVar 6) (fC .non))) (sSeq (sExpr (fApp 2 (pIx 2 (pIx 2 pR (qC (-1))) (qC 1)) (fHold 2 (fPure (fVar 6)))))
    sNil) (sSeq (sIf (fAnd (fBl (fBin dEq (fVar 4) (fC (.str ")")))) (fAnd (fBl (fBin dGt (fCall dLen (fCons (fVar 2) fNil)) (fC (.int 1)))) (fBl (fBin dGt (fCall dLen (fCons (fBin dIx (fBin dIx (fVar 2) (fNeg (fC (.int 1)))) (fC (.int 1))) fNil)) (fC (.int 0)))))) (sSeq (sAsg (fPop 2 pR) (gTp 2 (gsCons (gN 7) (gsCons (gN 8) gsNil))))
    (sSeq (sExpr (fApp 2 (pIx 2 (pIx 2 pR (qC (-1))) (qC 1)) (fHold 2 (fTup (fCons (fC (.str "times")) (fCons (fPure (fVar 7)) (fCons (fCall dTuple (fCons (fVar 8) fNil)) fNil)))))))
    sNil)) (sSeq sBad
    sNil))
    sNil))
    sNil))
    sNil)))
def fb_read_log (M_check_text : List D → FRes) (M_times_in : List D → FRes) (M_move_in : List D → FRes) (M_check_built : List D → FRes) : Env → SRes :=
    (sSeq (sAsg (fIf (fBl (fBin dNe (fVar 0) (fC (.str "")))) (fM1 gSplit (fUser 1 M_check_text (fCons (fVar 0) fNil)) (fC (.str " "))) (fLst fNil)) (gN 1))
    (sSeq (sAsg (fLst (fCons (fTup (fCons (fC (.int 1)) (fCons (fLst fNil) fNil))) fNil)) (gN 2))
    (sSeq (sFor (fArgL gEnum (fCons (fVar 1) fNil)) (gTp 2 (gsCons (gN 3) (gsCons (gN 4) gsNil))) (lb_read_log_1 M_check_text M_times_in M_move_in M_check_built))
    (sSeq (sIf (fBl (fBin dGt (fCall dLen (fCons (fVar 2) fNil)) (fC (.int 1)))) (sSeq sBad
    sNil) sNil)
    (sSeq (sRet (fUser 1 M_check_built (fCons (fCall dTuple (fCons (fBin dIx (fBin dIx (fVar 2) (fC (.int 0))) (fC (.int 1))) fNil)) fNil)))
    sNil)))))
def F_read_log (M_check_text : List D → FRes) (M_times_in : List D → FRes) (M_move_in : List D → FRes) (M_check_built : List D → FRes) : List D → FRes := fnF [] 9 1 [1, 2, 3, 4, 5, 6, 7, 8] (fb_read_log M_check_text M_times_in M_move_in M_check_built)
theorem fn_read_log {k : Nat} {M_check_text : List D → FRes} {M_times_in : List D → FRes} {M_move_in : List D → FRes} {M_check_built : List D → FRes} {f : Addr} {fd : FuncData} (G : Glob w K mg) (Fn : Fun K "read_log" "read_log" s_read_log f fd) (c_check_text : Cal P w K mg base cm k "check_text" ["text"] [] 1 M_check_text) (c_times_in : Cal P w K mg base cm k "times_in" ["word"] [] 1 M_times_in) (c_move_in : Cal P w K mg base cm k "move_in" ["word"] [] 1 M_move_in) (c_check_built : Cal P w K mg base cm k "check_built" ["log"] [] 1 M_check_built) : FnOk P w K mg base (L2.CX P w) (k + 1) f fd ["text"] (spD ⟨K, cm⟩ [] 1 (F_read_log M_check_text M_times_in M_move_in M_check_built)) := by
  have n_enumerate : mg "enumerate" = none := G.n_enumerate
  have n_len : mg "len" = none := G.n_len
  have n_tuple : mg "tuple" = none := G.n_tuple
  refine fnD (R := [2]) (A := [1, 2, 3, 4, 5, 6, 7, 8]) Fn sc_read_log rfl (fun cdv A0 outer s H E hr => ?_) (by decide) (by decide) (by decide) (by decide)
  have hu := hr.units
  have hu0 := hr.units0
  have hu65 := units65 hr
  have tk := L2.takes_of (X := cxOf (L2.CX P w) P w K mg base ["text", "words", "stack", "index", "word", "times", "move", "many", "log"] "read_log" (defScope s_read_log) f cdv A0 outer s H E) rfl rfl rfl rfl
  exact SB.mono
    (SB.cons (SS.asg (SX.ifExp (ST.cmp (op_neA hu) opd_ne (SX.var 0) SX.str (nomark _) (by decide)) (SX.split (SX.userC c_check_text hr tk (SA.cons (SX.var 0) SA.nil (by decide))) SX.str) (SX.lst SA.nil)) (SG.name 1 sc_read_log.nd))
    (SB.cons (SS.asg (SX.lst (SA.cons (SX.tup (SA.cons SX.int (SA.cons (SX.lst SA.nil) SA.nil (by decide)) (by decide))) SA.nil (by decide))) (SG.name 2 sc_read_log.nd))
    (SB.cons (SS.for_ (L2.passes_of rfl) rfl (SI.enum n_enumerate (SA.cons (SX.var 1) SA.nil (by decide))) (SG.tup rfl (SGs.cons (SG.name 3 sc_read_log.nd) (SGs.cons (SG.name 4 sc_read_log.nd) SGs.nil))) (SB.cons (SS.asg (SX.userC c_times_in hr tk (SA.cons (SX.var 4) SA.nil (by decide))) (SG.name 5 sc_read_log.nd))
    (SB.cons (SS.asg (SX.userC c_move_in hr tk (SA.cons (SX.var 4) SA.nil (by decide))) (SG.name 6 sc_read_log.nd))
    (SB.cons (SS.if_ (ST.cmp op_notN opd_notN (SX.var 5) SX.non (nomark _) (by decide)) (SB.cons (SS.expr (SX.appendH 2 (SPl.root 2) (SX.tup (SA.cons (SX.pure (SX.var 5)) (SA.cons (SX.lst SA.nil) SA.nil (by decide)) (by decide))) (by decide)))
    SB.nil) (SB.cons (SS.if_ (ST.cmp op_notN opd_notN (SX.var 6) SX.non (nomark _) (by decide)) (SB.cons (SS.expr (SX.appendH 2 (SPl.ix (SPl.ix (SPl.root 2) SQ.neg) SQ.int) (SX.pure (SX.var 6)) (by decide)))
    SB.nil) (SB.cons (SS.if_ (SW.st (SW.and (ST.cmp (op_eqA hu) opd_eq (SX.var 4) SX.str (nomark _) (by decide)) (SW.and (ST.cmp op_gt opd_gt (SX.callB call_len calld_len n_len (SA.cons (SX.var 2) SA.nil (by decide)) PySem.boot_len) SX.int (nomark _) (by decide)) (SW.and1 (ST.cmp op_gt opd_gt (SX.callB call_len calld_len n_len (SA.cons (SX.ix ix_seq opd_ix (SX.ix ix_seq opd_ix (SX.var 2) (SX.neg SX.int) (by intro _ _; rfl) (by decide)) SX.int (by intro _ _; rfl) (by decide)) SA.nil (by decide)) PySem.boot_len) SX.int (nomark _) (by decide)))))) (SB.cons (SS.asg (SX.pop (SPl.root 2)) (SG.tup rfl (SGs.cons (SG.name 7 sc_read_log.nd) (SGs.cons (SG.name 8 sc_read_log.nd) SGs.nil))))
    (SB.cons (SS.expr (SX.appendH 2 (SPl.ix (SPl.ix (SPl.root 2) SQ.neg) SQ.int) (SX.tup (SA.cons SX.str (SA.cons (SX.pure (SX.var 7)) (SA.cons (SX.callTy callr_tuple calld_tuple n_tuple (SA.cons (SX.var 8) SA.nil (by decide)) bb_tuple) SA.nil (by decide)) (by decide)) (by decide))) (by decide)))
    SB.nil)) (SB.cons SS.never
    SB.nil))
    SB.nil))
    SB.nil))
    SB.nil))) (by decide))
    (SB.cons (SS.if_ (ST.cmp op_gt opd_gt (SX.callB call_len calld_len n_len (SA.cons (SX.var 2) SA.nil (by decide)) PySem.boot_len) SX.int (nomark _) (by decide)) (SB.cons SS.never
    SB.nil) SB.nil)
    (SB.cons (SS.ret (SX.userC c_check_built hr tk (SA.cons (SX.callTy callr_tuple calld_tuple n_tuple (SA.cons (SX.ix ix_seq opd_ix (SX.ix ix_seq opd_ix (SX.var 2) SX.int (by intro _ _; rfl) (by decide)) SX.int (by intro _ _; rfl) (by decide)) SA.nil (by decide)) bb_tuple) SA.nil (by decide))) (by decide))
    SB.nil))))) (by decide) (by decide)
theorem ok_read_log {k : Nat} {M_check_text : List D → FRes} {M_times_in : List D → FRes} {M_move_in : List D → FRes} {M_check_built : List D → FRes} (G : Glob w K mg) (T : DefIn K mg "read_log" "read_log" ["text"] s_read_log) (c_check_text : Cal P w K mg base cm k "check_text" ["text"] [] 1 M_check_text) (c_times_in : Cal P w K mg base cm k "times_in" ["word"] [] 1 M_times_in) (c_move_in : Cal P w K mg base cm k "move_in" ["word"] [] 1 M_move_in) (c_check_built : Cal P w K mg base cm k "check_built" ["log"] [] 1 M_check_built) : Cal P w K mg base cm (k + 1) "read_log" ["text"] [] 1 (F_read_log M_check_text M_times_in M_move_in M_check_built) := .mk' T fun f fd Fn => fn_read_log G Fn c_check_text c_times_in c_move_in c_check_built
abbrev s__law_like : Stmt := top 44
theorem sc__law_like : FnScope ["_law_told", "_law_due", "_law_at"] ["_law_told", "_law_due"] (defScope s__law_like) := ⟨rfl, rfl, rfl, by decide +kernel, rfl, by decide +kernel, by decide +kernel⟩
def le__law_like_1 (M__law_like : List D → FRes) : Env → Res D :=
    (fUser 2 M__law_like (fCons (fBin dIx (fVar 0) (fVar 2)) (fCons (fBin dIx (fVar 1) (fVar 2)) fNil)))
def fb__law_like (M__law_like : List D → FRes) : Env → SRes :=
    (sSeq (sIf (fTru (fIsi2 "tuple" "list" (fVar 1))) (sSeq (sIf (fOr (fBl (fBin dNe (fIsi "tuple" (fVar 0)) (fIsi "tuple" (fVar 1)))) (fBl (fBin dNe (fIsi "list" (fVar 0)) (fIsi "list" (fVar 1))))) (sSeq (sRet (fC (.bl false)))
    sNil) sNil)
    (sSeq (sRet (fAndV (fBin dEq (fCall dLen (fCons (fVar 0) fNil)) (fCall dLen (fCons (fVar 1) fNil))) (fCall dAll (fCons (fLc (fArgL gRange1 (fCons (fCall dLen (fCons (fVar 1) fNil)) fNil)) (gN 2) tTrue (le__law_like_1 M__law_like) [2]) fNil))))
    sNil)) sNil)
    (sSeq (sRet (fAndV (fBin dEq (fIsi "bool" (fVar 0)) (fIsi "bool" (fVar 1))) (fBin dEq (fVar 0) (fVar 1))))
    sNil))
def F__law_like (M__law_like : List D → FRes) : List D → FRes := fnF [] 3 2 [] (fb__law_like M__law_like)
theorem fn__law_like {k : Nat} {M__law_like : List D → FRes} {f : Addr} {fd : FuncData} (G : Glob w K mg) (Fn : Fun K "_law_like" "_law_like" s__law_like f fd) (c__law_like : Cal P w K mg base cm k "_law_like" ["_law_told", "_law_due"] [] 2 M__law_like) : FnOk P w K mg base (L2.CX P w) (k + 1) f fd ["_law_told", "_law_due"] (spD ⟨K, cm⟩ [] 2 (F__law_like M__law_like)) := by
  have n_all : mg "all" = none := G.n_all
  have n_bool : mg "bool" = none := G.n_bool
  have n_isinstance : mg "isinstance" = none := G.n_isinstance
  have n_len : mg "len" = none := G.n_len
  have n_list : mg "list" = none := G.n_list
  have n_range : mg "range" = none := G.n_range
  have n_tuple : mg "tuple" = none := G.n_tuple
  refine fnD (R := []) (A := []) Fn sc__law_like rfl (fun cdv A0 outer s H E hr => ?_) (by decide) (by decide) (by decide) (by decide)
  have hu := hr.units
  have hu0 := hr.units0
  have hu65 := units65 hr
  have tk := L2.takes_of (X := cxOf (L2.CX P w) P w K mg base ["_law_told", "_law_due", "_law_at"] "_law_like" (defScope s__law_like) f cdv A0 outer s H E) rfl rfl rfl rfl
  exact SB.mono
    (SB.cons (SS.if_ (ST.truth (SX.isi2 (p4 := ⟨0, 0, 0, 0⟩) "tuple" "list" (by decide) (by decide) n_isinstance n_tuple bb_tuple n_list bb_list (SX.var 1))) (SB.cons (SS.if_ (SW.st (SW.or (ST.cmp (op_neA hu) opd_ne (SX.isi "tuple" (by decide) n_isinstance n_tuple bb_tuple (SX.var 0)) (SX.isi "tuple" (by decide) n_isinstance n_tuple bb_tuple (SX.var 1)) (nomark _) (by decide)) (SW.or1 (ST.cmp (op_neA hu) opd_ne (SX.isi "list" (by decide) n_isinstance n_list bb_list (SX.var 0)) (SX.isi "list" (by decide) n_isinstance n_list bb_list (SX.var 1)) (nomark _) (by decide))))) (SB.cons (SS.ret SX.bl (by decide))
    SB.nil) SB.nil)
    (SB.cons (SS.ret (SX.and (SX.cmp (op_eqA hu) opd_eq (SX.callB call_len calld_len n_len (SA.cons (SX.var 0) SA.nil (by decide)) PySem.boot_len) (SX.callB call_len calld_len n_len (SA.cons (SX.var 1) SA.nil (by decide)) PySem.boot_len) (nomark _) (by decide)) (SX.one (SX.callB (cr_all rfl) calld_all n_all (SA.cons (SX.lc [("_law_at", 2)] rfl sc__law_like.nd (SI.range1 n_range (SA.cons (SX.callB call_len calld_len n_len (SA.cons (SX.var 1) SA.nil (by decide)) PySem.boot_len) SA.nil (by decide))) (show BlkOk ["_law_told", "_law_due", "_law_at"] (defScope s__law_like) _ [("_law_at", 2)] from ⟨rfl, by decide +kernel, by decide +kernel, by decide +kernel, by decide +kernel⟩) (fun _ _ _ _ _ => (SG.name 2 sc__law_like.nd)) (fun _ _ _ _ _ => STs.nil) (fun _ _ _ _ _ => (SX.userC c__law_like hr L2.takes0 (SA.cons (SX.ix ix_seq opd_ix (SX.var 0) (SX.var 2) (by intro _ _; rfl) (by decide)) (SA.cons (SX.ix ix_seq opd_ix (SX.var 1) (SX.var 2) (by intro _ _; rfl) (by decide)) SA.nil (by decide)) (by decide)))) (by decide) (by decide) (by decide)) SA.nil (by decide)) bb_all))) (by decide))
    SB.nil)) SB.nil)
    (SB.cons (SS.ret (SX.and (SX.cmp (op_eqA hu) opd_eq (SX.isi "bool" (by decide) n_isinstance n_bool bb_bool (SX.var 0)) (SX.isi "bool" (by decide) n_isinstance n_bool bb_bool (SX.var 1)) (nomark _) (by decide)) (SX.one (SX.cmp (op_eqA hu) opd_eq (SX.var 0) (SX.var 1) (nomark _) (by decide)))) (by decide))
    SB.nil)) (by decide) (by decide)
theorem ok__law_like {k : Nat} {M__law_like : List D → FRes} (G : Glob w K mg) (T : DefIn K mg "_law_like" "_law_like" ["_law_told", "_law_due"] s__law_like) (c__law_like : Cal P w K mg base cm k "_law_like" ["_law_told", "_law_due"] [] 2 M__law_like) : Cal P w K mg base cm (k + 1) "_law_like" ["_law_told", "_law_due"] [] 2 (F__law_like M__law_like) := .mk' T fun f fd Fn => fn__law_like G Fn c__law_like
abbrev s__law_move_word : Stmt := top 48
theorem sc__law_move_word : FnScope ["_law_move", "_law_sign", "_law_want", "_law_many"] ["_law_move"] (defScope s__law_move_word) := ⟨rfl, rfl, rfl, by decide +kernel, rfl, by decide +kernel, by decide +kernel⟩
def le__law_move_word_1 : Env → Res D :=
    (fBin dAdd (fBin dAdd (fCall dStr (fCons (fVar 2) fNil)) (fC (.str "x"))) (fCall dStr (fCons (fVar 3) fNil)))
def fb__law_move_word : Env → SRes :=
    (sSeq (sAsg (fBin dIx (fLst (fCons (fC (.str "-")) (fCons (fC (.str "+")) fNil))) (fCall dInt (fCons (fBin dEq (fBin dIx (fVar 0) (fC (.int 0))) (fC (.int 1))) fNil))) (gN 1))
    (sSeq (sRet (fBin dAdd (fVar 1) (fM1 gJoin (fC (.str ",")) (fLc (fSeq (fBin dIx (fVar 0) (fC (.int 1)))) (gTp 2 (gsCons (gN 2) (gsCons (gN 3) gsNil))) tTrue (le__law_move_word_1) [2, 3]))))
    sNil))
def F__law_move_word : List D → FRes := fnF [] 4 1 [1] (fb__law_move_word)
theorem fn__law_move_word {k : Nat} {f : Addr} {fd : FuncData} (G : Glob w K mg) (Fn : Fun K "_law_move_word" "_law_move_word" s__law_move_word f fd) : FnOk P w K mg base (L2.CX P w) (k + 1) f fd ["_law_move"] (spD ⟨K, cm⟩ [] 1 (F__law_move_word)) := by
  have n_int : mg "int" = none := G.n_int
  have n_str : mg "str" = none := G.n_str
  refine fnD (R := []) (A := [1]) Fn sc__law_move_word rfl (fun cdv A0 outer s H E hr => ?_) (by decide) (by decide) (by decide) (by decide)
  have hu := hr.units
  have hu0 := hr.units0
  have hu65 := units65 hr
  have tk := L2.takes_of (X := cxOf (L2.CX P w) P w K mg base ["_law_move", "_law_sign", "_law_want", "_law_many"] "_law_move_word" (defScope s__law_move_word) f cdv A0 outer s H E) rfl rfl rfl rfl
  exact SB.mono
    (SB.cons (SS.asg (SX.ix ix_seq opd_ix (SX.lst (SA.cons SX.str (SA.cons SX.str SA.nil (by decide)) (by decide))) (SX.callTy callr_int calld_int n_int (SA.cons (SX.cmp (op_eqA hu) opd_eq (SX.ix ix_seq opd_ix (SX.var 0) SX.int (by intro _ _; rfl) (by decide)) SX.int (nomark _) (by decide)) SA.nil (by decide)) bb_int) (by intro _ _; rfl) (by decide)) (SG.name 1 sc__law_move_word.nd))
    (SB.cons (SS.ret (SX.binop op_addD opd_add (SX.var 1) (SX.join SX.str (SX.lc [("_law_want", 2), ("_law_many", 3)] rfl sc__law_move_word.nd (SI.seq (SX.ix ix_seq opd_ix (SX.var 0) SX.int (by intro _ _; rfl) (by decide))) (show BlkOk ["_law_move", "_law_sign", "_law_want", "_law_many"] (defScope s__law_move_word) _ [("_law_want", 2), ("_law_many", 3)] from ⟨rfl, by decide +kernel, by decide +kernel, by decide +kernel, by decide +kernel⟩) (fun _ _ _ _ _ => (SG.tup rfl (SGs.cons (SG.name 2 sc__law_move_word.nd) (SGs.cons (SG.name 3 sc__law_move_word.nd) SGs.nil)))) (fun _ _ _ _ _ => STs.nil) (fun _ _ _ _ _ => (SX.binop op_addD opd_add (SX.binop op_addD opd_add (SX.callTy callr_str calld_str n_str (SA.cons (SX.var 2) SA.nil (by decide)) bb_str) SX.str (by decide)) (SX.callTy callr_str calld_str n_str (SA.cons (SX.var 3) SA.nil (by decide)) bb_str) (by decide))) (by decide) (by decide) (by decide))) (by decide)) (by decide))
    SB.nil)) (by decide) (by decide)
theorem ok__law_move_word {k : Nat} (G : Glob w K mg) (T : DefIn K mg "_law_move_word" "_law_move_word" ["_law_move"] s__law_move_word) : Cal P w K mg base cm (k + 1) "_law_move_word" ["_law_move"] [] 1 (F__law_move_word) := .mk' T fun f fd Fn => fn__law_move_word G Fn
abbrev s__law_log_text : Stmt := top 49
theorem sc__law_log_text : FnScope ["_law_log", "_law_words", "_law_item"] ["_law_log"] (defScope s__law_log_text) := ⟨rfl, rfl, rfl, by decide +kernel, rfl, by decide +kernel, by decide +kernel⟩
def lb__law_log_text_1 (M__law_log_text : List D → FRes) (M__law_move_word : List D → FRes) : Env → SRes :=
    (sSeq (sIf (fBl (fBin dEq (fCall dLen (fCons (fVar 2) fNil)) (fC (.int 3)))) (sSeq (sAsg (fBin dAdd (fVar 1) (fLst (fCons (fBin dAdd (fCall dStr (fCons (fBin dIx (fVar 2) (fC (.int 1))) fNil)) (fC (.str "("))) (fCons (fUser 1 M__law_log_text (fCons (fBin dIx (fVar 2) (fC (.int 2))) fNil)) (fCons (fC (.str ")")) fNil))))) (gN 1))
    sNil) (sSeq (sExpr (fApp 1 pR (fHold 1 (fUser 1 M__law_move_word (fCons (fVar 2) fNil)))))
    sNil))
    sNil)
def fb__law_log_text (M__law_log_text : List D → FRes) (M__law_move_word : List D → FRes) : Env → SRes :=
    (sSeq (sAsg (fLst fNil) (gN 1))
    (sSeq (sFor (fSeq (fVar 0)) (gN 2) (lb__law_log_text_1 M__law_log_text M__law_move_word))
    (sSeq (sRet (fM1 gJoin (fC (.str " ")) (fVar 1)))
    sNil)))
def F__law_log_text (M__law_log_text : List D → FRes) (M__law_move_word : List D → FRes) : List D → FRes := fnF [] 3 1 [1, 2] (fb__law_log_text M__law_log_text M__law_move_word)
theorem fn__law_log_text {k : Nat} {M__law_log_text : List D → FRes} {M__law_move_word : List D → FRes} {f : Addr} {fd : FuncData} (G : Glob w K mg) (Fn : Fun K "_law_log_text" "_law_log_text" s__law_log_text f fd) (c__law_log_text : Cal P w K mg base cm k "_law_log_text" ["_law_log"] [] 1 M__law_log_text) (c__law_move_word : Cal P w K mg base cm k "_law_move_word" ["_law_move"] [] 1 M__law_move_word) : FnOk P w K mg base (L2.CX P w) (k + 1) f fd ["_law_log"] (spD ⟨K, cm⟩ [] 1 (F__law_log_text M__law_log_text M__law_move_word)) := by
  have n_len : mg "len" = none := G.n_len
  have n_str : mg "str" = none := G.n_str
  refine fnD (R := [1]) (A := [1, 2]) Fn sc__law_log_text rfl (fun cdv A0 outer s H E hr => ?_) (by decide) (by decide) (by decide) (by decide)
  have hu := hr.units
  have hu0 := hr.units0
  have hu65 := units65 hr
  have tk := L2.takes_of (X := cxOf (L2.CX P w) P w K mg base ["_law_log", "_law_words", "_law_item"] "_law_log_text" (defScope s__law_log_text) f cdv A0 outer s H E) rfl rfl rfl rfl
  exact SB.mono
    (SB.cons (SS.asg (SX.lst SA.nil) (SG.name 1 sc__law_log_text.nd))
    (SB.cons (SS.for_ (L2.passes_of rfl) rfl (SI.seq (SX.var 0)) (SG.name 2 sc__law_log_text.nd) (SB.cons (SS.if_ (ST.cmp (op_eqA hu) opd_eq (SX.callB call_len calld_len n_len (SA.cons (SX.var 2) SA.nil (by decide)) PySem.boot_len) SX.int (nomark _) (by decide)) (SB.cons (SS.asg (SX.binop op_addD opd_add (SX.var 1) (SX.lst (SA.cons (SX.binop op_addD opd_add (SX.callTy callr_str calld_str n_str (SA.cons (SX.ix ix_seq opd_ix (SX.var 2) SX.int (by intro _ _; rfl) (by decide)) SA.nil (by decide)) bb_str) SX.str (by decide)) (SA.cons (SX.userC c__law_log_text hr tk (SA.cons (SX.ix ix_seq opd_ix (SX.var 2) SX.int (by intro _ _; rfl) (by decide)) SA.nil (by decide))) (SA.cons SX.str SA.nil (by decide)) (by decide)) (by decide))) (by decide)) (SG.name 1 sc__law_log_text.nd))
    SB.nil) (SB.cons (SS.expr (SX.appendH 1 (SPl.root 1) (SX.userC c__law_move_word hr tk (SA.cons (SX.var 2) SA.nil (by decide))) (by decide)))
    SB.nil))
    SB.nil) (by decide))
    (SB.cons (SS.ret (SX.join SX.str (SX.var 1)) (by decide))
    SB.nil))) (by decide) (by decide)
theorem ok__law_log_text {k : Nat} {M__law_log_text : List D → FRes} {M__law_move_word : List D → FRes} (G : Glob w K mg) (T : DefIn K mg "_law_log_text" "_law_log_text" ["_law_log"] s__law_log_text) (c__law_log_text : Cal P w K mg base cm k "_law_log_text" ["_law_log"] [] 1 M__law_log_text) (c__law_move_word : Cal P w K mg base cm k "_law_move_word" ["_law_move"] [] 1 M__law_move_word) : Cal P w K mg base cm (k + 1) "_law_log_text" ["_law_log"] [] 1 (F__law_log_text M__law_log_text M__law_move_word) := .mk' T fun f fd Fn => fn__law_log_text G Fn c__law_log_text c__law_move_word
abbrev s_count_of : Stmt := top 21
theorem sc_count_of : FnScope ["log", "found", "item"] ["log"] (defScope s_count_of) := ⟨rfl, rfl, rfl, by decide +kernel, rfl, by decide +kernel, by decide +kernel⟩
def lb_count_of_1 (M_count_of : List D → FRes) : Env → SRes :=
    (sSeq (sAug 1 augAdd (fIf (fBl (fBin dEq (fCall dLen (fCons (fVar 2) fNil)) (fC (.int 3)))) (fBin dMul (fBin dIx (fVar 2) (fC (.int 1))) (fUser 1 M_count_of (fCons (fBin dIx (fVar 2) (fC (.int 2))) fNil))) (fC (.int 1))))
    sNil)
def fb_count_of (M_count_of : List D → FRes) : Env → SRes :=
    (sSeq (sAsg (fC (.int 0)) (gN 1))
    (sSeq (sFor (fSeq (fVar 0)) (gN 2) (lb_count_of_1 M_count_of))
    (sSeq (sRet (fVar 1))
    sNil)))
def F_count_of (M_count_of : List D → FRes) : List D → FRes := fnF [] 3 1 [1, 2] (fb_count_of M_count_of)
theorem fn_count_of {k : Nat} {M_count_of : List D → FRes} {f : Addr} {fd : FuncData} (G : Glob w K mg) (Fn : Fun K "count_of" "count_of" s_count_of f fd) (c_count_of : Cal P w K mg base cm k "count_of" ["log"] [] 1 M_count_of) : FnOk P w K mg base (L2.CX P w) (k + 1) f fd ["log"] (spD ⟨K, cm⟩ [] 1 (F_count_of M_count_of)) := by
  have n_len : mg "len" = none := G.n_len
  refine fnD (R := []) (A := [1, 2]) Fn sc_count_of rfl (fun cdv A0 outer s H E hr => ?_) (by decide) (by decide) (by decide) (by decide)
  have hu := hr.units
  have hu0 := hr.units0
  have hu65 := units65 hr
  have tk := L2.takes_of (X := cxOf (L2.CX P w) P w K mg base ["log", "found", "item"] "count_of" (defScope s_count_of) f cdv A0 outer s H E) rfl rfl rfl rfl
  exact SB.mono
    (SB.cons (SS.asg SX.int (SG.name 1 sc_count_of.nd))
    (SB.cons (SS.for_ (L2.passes_of rfl) rfl (SI.seq (SX.var 0)) (SG.name 2 sc_count_of.nd) (SB.cons (SS.aug 1 sc_count_of.nd (SX.ifExp (ST.cmp (op_eqA hu) opd_eq (SX.callB call_len calld_len n_len (SA.cons (SX.var 2) SA.nil (by decide)) PySem.boot_len) SX.int (nomark _) (by decide)) (SX.binop op_mulD opd_mul (SX.ix ix_seq opd_ix (SX.var 2) SX.int (by intro _ _; rfl) (by decide)) (SX.userC c_count_of hr tk (SA.cons (SX.ix ix_seq opd_ix (SX.var 2) SX.int (by intro _ _; rfl) (by decide)) SA.nil (by decide))) (by decide)) SX.int) ip_add ipd_add (.inl rfl))
    SB.nil) (by decide))
    (SB.cons (SS.ret (SX.var 1) (by decide))
    SB.nil))) (by decide) (by decide)
theorem ok_count_of {k : Nat} {M_count_of : List D → FRes} (G : Glob w K mg) (T : DefIn K mg "count_of" "count_of" ["log"] s_count_of) (c_count_of : Cal P w K mg base cm k "count_of" ["log"] [] 1 M_count_of) : Cal P w K mg base cm (k + 1) "count_of" ["log"] [] 1 (F_count_of M_count_of) := .mk' T fun f fd Fn => fn_count_of G Fn c_count_of
abbrev s_length_of : Stmt := top 22
theorem sc_length_of : FnScope ["log"] ["log"] (defScope s_length_of) := ⟨rfl, rfl, rfl, by decide +kernel, rfl, by decide +kernel, by decide +kernel⟩
def fb_length_of (M_count_of : List D → FRes) (M_check_built : List D → FRes) : Env → SRes :=
    (sSeq (sRet (fUser 1 M_count_of (fCons (fUser 1 M_check_built (fCons (fVar 0) fNil)) fNil)))
    sNil)
def F_length_of (M_count_of : List D → FRes) (M_check_built : List D → FRes) : List D → FRes := fnF [] 1 1 [] (fb_length_of M_count_of M_check_built)
theorem fn_length_of {k : Nat} {M_count_of : List D → FRes} {M_check_built : List D → FRes} {f : Addr} {fd : FuncData} (G : Glob w K mg) (Fn : Fun K "length_of" "length_of" s_length_of f fd) (c_count_of : Cal P w K mg base cm k "count_of" ["log"] [] 1 M_count_of) (c_check_built : Cal P w K mg base cm k "check_built" ["log"] [] 1 M_check_built) : FnOk P w K mg base (L2.CX P w) (k + 1) f fd ["log"] (spD ⟨K, cm⟩ [] 1 (F_length_of M_count_of M_check_built)) := by
  refine fnD (R := []) (A := []) Fn sc_length_of rfl (fun cdv A0 outer s H E hr => ?_) (by decide) (by decide) (by decide) (by decide)
  have hu := hr.units
  have hu0 := hr.units0
  have hu65 := units65 hr
  have tk := L2.takes_of (X := cxOf (L2.CX P w) P w K mg base ["log"] "length_of" (defScope s_length_of) f cdv A0 outer s H E) rfl rfl rfl rfl
  exact SB.mono
    (SB.cons (SS.ret (SX.userC c_count_of hr tk (SA.cons (SX.userC c_check_built hr tk (SA.cons (SX.var 0) SA.nil (by decide))) SA.nil (by decide))) (by decide))
    SB.nil) (by decide) (by decide)
theorem ok_length_of {k : Nat} {M_count_of : List D → FRes} {M_check_built : List D → FRes} (G : Glob w K mg) (T : DefIn K mg "length_of" "length_of" ["log"] s_length_of) (c_count_of : Cal P w K mg base cm k "count_of" ["log"] [] 1 M_count_of) (c_check_built : Cal P w K mg base cm k "check_built" ["log"] [] 1 M_check_built) : Cal P w K mg base cm (k + 1) "length_of" ["log"] [] 1 (F_length_of M_count_of M_check_built) := .mk' T fun f fd Fn => fn_length_of G Fn c_count_of c_check_built
abbrev s__law_length : Stmt := top 53
theorem sc__law_length : FnScope ["_law_log", "_law_found", "_law_item"] ["_law_log"] (defScope s__law_length) := ⟨rfl, rfl, rfl, by decide +kernel, rfl, by decide +kernel, by decide +kernel⟩
def lb__law_length_1 (M__law_length : List D → FRes) : Env → SRes :=
    (sSeq (sIf (fBl (fBin dEq (fCall dLen (fCons (fVar 2) fNil)) (fC (.int 3)))) (sSeq (sAsg (fBin dAdd (fVar 1) (fBin dMul (fBin dIx (fVar 2) (fC (.int 1))) (fUser 1 M__law_length (fCons (fBin dIx (fVar 2) (fC (.int 2))) fNil)))) (gN 1))
    sNil) (sSeq (sAsg (fBin dAdd (fVar 1) (fC (.int 1))) (gN 1))
    sNil))
    sNil)
def fb__law_length (M__law_length : List D → FRes) : Env → SRes :=
    (sSeq (sAsg (fC (.int 0)) (gN 1))
    (sSeq (sFor (fSeq (fVar 0)) (gN 2) (lb__law_length_1 M__law_length))
    (sSeq (sRet (fVar 1))
    sNil)))
def F__law_length (M__law_length : List D → FRes) : List D → FRes := fnF [] 3 1 [1, 2] (fb__law_length M__law_length)
theorem fn__law_length {k : Nat} {M__law_length : List D → FRes} {f : Addr} {fd : FuncData} (G : Glob w K mg) (Fn : Fun K "_law_length" "_law_length" s__law_length f fd) (c__law_length : Cal P w K mg base cm k "_law_length" ["_law_log"] [] 1 M__law_length) : FnOk P w K mg base (L2.CX P w) (k + 1) f fd ["_law_log"] (spD ⟨K, cm⟩ [] 1 (F__law_length M__law_length)) := by
  have n_len : mg "len" = none := G.n_len
  refine fnD (R := []) (A := [1, 2]) Fn sc__law_length rfl (fun cdv A0 outer s H E hr => ?_) (by decide) (by decide) (by decide) (by decide)
  have hu := hr.units
  have hu0 := hr.units0
  have hu65 := units65 hr
  have tk := L2.takes_of (X := cxOf (L2.CX P w) P w K mg base ["_law_log", "_law_found", "_law_item"] "_law_length" (defScope s__law_length) f cdv A0 outer s H E) rfl rfl rfl rfl
  exact SB.mono
    (SB.cons (SS.asg SX.int (SG.name 1 sc__law_length.nd))
    (SB.cons (SS.for_ (L2.passes_of rfl) rfl (SI.seq (SX.var 0)) (SG.name 2 sc__law_length.nd) (SB.cons (SS.if_ (ST.cmp (op_eqA hu) opd_eq (SX.callB call_len calld_len n_len (SA.cons (SX.var 2) SA.nil (by decide)) PySem.boot_len) SX.int (nomark _) (by decide)) (SB.cons (SS.asg (SX.binop op_addD opd_add (SX.var 1) (SX.binop op_mulD opd_mul (SX.ix ix_seq opd_ix (SX.var 2) SX.int (by intro _ _; rfl) (by decide)) (SX.userC c__law_length hr tk (SA.cons (SX.ix ix_seq opd_ix (SX.var 2) SX.int (by intro _ _; rfl) (by decide)) SA.nil (by decide))) (by decide)) (by decide)) (SG.name 1 sc__law_length.nd))
    SB.nil) (SB.cons (SS.asg (SX.binop op_addD opd_add (SX.var 1) SX.int (by decide)) (SG.name 1 sc__law_length.nd))
    SB.nil))
    SB.nil) (by decide))
    (SB.cons (SS.ret (SX.var 1) (by decide))
    SB.nil))) (by decide) (by decide)
theorem ok__law_length {k : Nat} {M__law_length : List D → FRes} (G : Glob w K mg) (T : DefIn K mg "_law_length" "_law_length" ["_law_log"] s__law_length) (c__law_length : Cal P w K mg base cm k "_law_length" ["_law_log"] [] 1 M__law_length) : Cal P w K mg base cm (k + 1) "_law_length" ["_law_log"] [] 1 (F__law_length M__law_length) := .mk' T fun f fd Fn => fn__law_length G Fn c__law_length
abbrev s__law_digits : Stmt := top 45
theorem sc__law_digits : FnScope ["_law_word", "_law_sign"] ["_law_word"] (defScope s__law_digits) := ⟨rfl, rfl, rfl, by decide +kernel, rfl, by decide +kernel, by decide +kernel⟩
def le__law_digits_1 : Env → Res D :=
    (fBin dIn (fVar 1) (fC (.str "0123456789")))
def fb__law_digits : Env → SRes :=
    (sSeq (sIf (fOr (fNot (fBl (fChain dLe dLe (fC (.int 1)) (fCall dLen (fCons (fVar 0) fNil)) (fC (.int 31))))) (fNot (fTru (fCall dAll (fCons (fLc (fSeq (fVar 0)) (gN 1) tTrue (le__law_digits_1) [1]) fNil))))) (sSeq (sRet (fC .non))
    sNil) sNil)
    (sSeq (sIf (fAnd (fBl (fBin dEq (fBin dIx (fVar 0) (fC (.int 0))) (fC (.str "0")))) (fBl (fBin dNe (fVar 0) (fC (.str "0"))))) (sSeq (sRet (fC .non))
    sNil) sNil)
    (sSeq (sRet (fCall dInt (fCons (fVar 0) fNil)))
    sNil)))
def F__law_digits : List D → FRes := fnF [] 2 1 [] (fb__law_digits)
theorem fn__law_digits {k : Nat} {f : Addr} {fd : FuncData} (G : Glob w K mg) (Fn : Fun K "_law_digits" "_law_digits" s__law_digits f fd) : FnOk P w K mg base (L2.CX P w) (k + 1) f fd ["_law_word"] (spD ⟨K, cm⟩ [] 1 (F__law_digits)) := by
  have n_all : mg "all" = none := G.n_all
  have n_int : mg "int" = none := G.n_int
  have n_len : mg "len" = none := G.n_len
  refine fnD (R := []) (A := []) Fn sc__law_digits rfl (fun cdv A0 outer s H E hr => ?_) (by decide) (by decide) (by decide) (by decide)
  have hu := hr.units
  have hu0 := hr.units0
  have hu65 := units65 hr
  have tk := L2.takes_of (X := cxOf (L2.CX P w) P w K mg base ["_law_word", "_law_sign"] "_law_digits" (defScope s__law_digits) f cdv A0 outer s H E) rfl rfl rfl rfl
  exact SB.mono
    (SB.cons (SS.if_ (SW.st (SW.or (ST.not (ST.chain op_le op_le opd_le opd_le iBin_pure iBin_pure SX.int (SX.callB call_len calld_len n_len (SA.cons (SX.var 0) SA.nil (by decide)) PySem.boot_len) SX.int)) (SW.or1 (ST.not (ST.truth (SX.callB (cr_all rfl) calld_all n_all (SA.cons (SX.lc [("_law_sign", 1)] rfl sc__law_digits.nd (SI.seq (SX.var 0)) (show BlkOk ["_law_word", "_law_sign"] (defScope s__law_digits) _ [("_law_sign", 1)] from ⟨rfl, by decide +kernel, by decide +kernel, by decide +kernel, by decide +kernel⟩) (fun _ _ _ _ _ => (SG.name 1 sc__law_digits.nd)) (fun _ _ _ _ _ => STs.nil) (fun _ _ _ _ _ => (SX.cmp (op_inA hu65) opd_in (SX.var 1) SX.str (by rfl) (by decide))) (by decide) (by decide) (by decide)) SA.nil (by decide)) bb_all)))))) (SB.cons (SS.ret SX.non (by decide))
    SB.nil) SB.nil)
    (SB.cons (SS.if_ (SW.st (SW.and (ST.cmp (op_eqA hu) opd_eq (SX.ix ix_seq opd_ix (SX.var 0) SX.int (by intro _ _; rfl) (by decide)) SX.str (nomark _) (by decide)) (SW.and1 (ST.cmp (op_neA hu) opd_ne (SX.var 0) SX.str (nomark _) (by decide))))) (SB.cons (SS.ret SX.non (by decide))
    SB.nil) SB.nil)
    (SB.cons (SS.ret (SX.callTy callr_int calld_int n_int (SA.cons (SX.var 0) SA.nil (by decide)) bb_int) (by decide))
    SB.nil))) (by decide) (by decide)
theorem ok__law_digits {k : Nat} (G : Glob w K mg) (T : DefIn K mg "_law_digits" "_law_digits" ["_law_word"] s__law_digits) : Cal P w K mg base cm (k + 1) "_law_digits" ["_law_word"] [] 1 (F__law_digits) := .mk' T fun f fd Fn => fn__law_digits G Fn
abbrev s__law_word_move : Stmt := top 50
theorem sc__law_word_move : FnScope ["_law_word", "_law_pairs", "_law_part", "_law_sides", "_law_side"] ["_law_word"] (defScope s__law_word_move) := ⟨rfl, rfl, rfl, by decide +kernel, rfl, by decide +kernel, by decide +kernel⟩
def le__law_word_move_1 (M__law_digits : List D → FRes) : Env → Res D :=
    (fUser 1 M__law_digits (fCons (fVar 4) fNil))
def lb__law_word_move_1 (M__law_digits : List D → FRes) : Env → SRes :=
    (sSeq (sAsg (fLc (fSeq (fM1 gSplit (fVar 2) (fC (.str "x")))) (gN 4) tTrue (le__law_word_move_1 M__law_digits) [4]) (gN 3))
    (sSeq (sIf (fOr (fBl (fBin dNe (fCall dLen (fCons (fVar 3) fNil)) (fC (.int 2)))) (fBl (fBin dIn (fC .non) (fVar 3)))) (sSeq (sRet (fC .non))
    sNil) sNil)
    (sSeq (sExpr (fApp 1 pR (fHold 1 (fTup (fCons (fPure (fBin dIx (fVar 3) (fC (.int 0)))) (fCons (fPure (fBin dIx (fVar 3) (fC (.int 1)))) fNil))))))
    sNil)))
def fb__law_word_move (M__law_digits : List D → FRes) : Env → SRes :=
    (sSeq (sIf (fOr (fBl (fBin dEq (fVar 0) (fC (.str "")))) (fBl (fBin dNotIn (fBin dIx (fVar 0) (fC (.int 0))) (fC (.str "+-"))))) (sSeq (sRet (fC .non))
    sNil) sNil)
    (sSeq (sAsg (fLst fNil) (gN 1))
    (sSeq (sIf (fBl (fBin dGt (fCall dLen (fCons (fVar 0) fNil)) (fC (.int 1)))) (sSeq (sFor (fSeq (fM1 gSplit (fSl (fVar 0) (fSomeP (fC (.int 1))) fNoP) (fC (.str ",")))) (gN 2) (lb__law_word_move_1 M__law_digits))
    sNil) sNil)
    (sSeq (sRet (fTup (fCons (fBin dIx (fLst (fCons (fNeg (fC (.int 1))) (fCons (fC (.int 1)) fNil))) (fCall dInt (fCons (fBin dEq (fBin dIx (fVar 0) (fC (.int 0))) (fC (.str "+"))) fNil))) (fCons (fCall dTuple (fCons (fVar 1) fNil)) fNil))))
    sNil))))
def F__law_word_move (M__law_digits : List D → FRes) : List D → FRes := fnF [] 5 1 [1, 2, 3] (fb__law_word_move M__law_digits)
theorem fn__law_word_move {k : Nat} {M__law_digits : List D → FRes} {f : Addr} {fd : FuncData} (G : Glob w K mg) (Fn : Fun K "_law_word_move" "_law_word_move" s__law_word_move f fd) (c__law_digits : Cal P w K mg base cm k "_law_digits" ["_law_word"] [] 1 M__law_digits) : FnOk P w K mg base (L2.CX P w) (k + 1) f fd ["_law_word"] (spD ⟨K, cm⟩ [] 1 (F__law_word_move M__law_digits)) := by
  have n_int : mg "int" = none := G.n_int
  have n_len : mg "len" = none := G.n_len
  have n_tuple : mg "tuple" = none := G.n_tuple
  refine fnD (R := [1]) (A := [1, 2, 3]) Fn sc__law_word_move rfl (fun cdv A0 outer s H E hr => ?_) (by decide) (by decide) (by decide) (by decide)
  have hu := hr.units
  have hu0 := hr.units0
  have hu65 := units65 hr
  have tk := L2.takes_of (X := cxOf (L2.CX P w) P w K mg base ["_law_word", "_law_pairs", "_law_part", "_law_sides", "_law_side"] "_law_word_move" (defScope s__law_word_move) f cdv A0 outer s H E) rfl rfl rfl rfl
  exact SB.mono
    (SB.cons (SS.if_ (SW.st (SW.or (ST.cmp (op_eqA hu) opd_eq (SX.var 0) SX.str (nomark _) (by decide)) (SW.or1 (ST.cmp (op_notInA hu65) opd_notIn (SX.ix ix_seq opd_ix (SX.var 0) SX.int (by intro _ _; rfl) (by decide)) SX.str (by rfl) (by decide))))) (SB.cons (SS.ret SX.non (by decide))
    SB.nil) SB.nil)
    (SB.cons (SS.asg (SX.lst SA.nil) (SG.name 1 sc__law_word_move.nd))
    (SB.cons (SS.if_ (ST.cmp op_gt opd_gt (SX.callB call_len calld_len n_len (SA.cons (SX.var 0) SA.nil (by decide)) PySem.boot_len) SX.int (nomark _) (by decide)) (SB.cons (SS.for_ (L2.passes_of rfl) rfl (SI.seq (SX.split (SX.slice (SX.var 0) (SP'.some SX.int) SP'.none) SX.str)) (SG.name 2 sc__law_word_move.nd) (SB.cons (SS.asgLc 3 [("_law_side", 4)] rfl sc__law_word_move.nd (SI.seq (SX.split (SX.var 2) SX.str)) (show BlkOk ["_law_word", "_law_pairs", "_law_part", "_law_sides", "_law_side"] (defScope s__law_word_move) _ [("_law_side", 4)] from ⟨rfl, by decide +kernel, by decide +kernel, by decide +kernel, by decide +kernel⟩) (fun _ _ _ _ _ => (SG.name 4 sc__law_word_move.nd)) (fun _ _ _ _ _ => STs.nil) (fun _ _ _ _ _ => (SX.userC c__law_digits hr L2.takes0 (SA.cons (SX.var 4) SA.nil (by decide)))) (by decide) (by decide) (by decide) (sw_true rfl rfl rfl (by decide +kernel)) rfl)
    (SB.cons (SS.if_ (SW.st (SW.or (ST.cmp (op_neA hu) opd_ne (SX.callB call_len calld_len n_len (SA.cons (SX.var 3) SA.nil (by decide)) PySem.boot_len) SX.int (nomark _) (by decide)) (SW.or1 (ST.cmp (op_inA hu65) opd_in SX.non (SX.var 3) (by rfl) (by decide))))) (SB.cons (SS.ret SX.non (by decide))
    SB.nil) SB.nil)
    (SB.cons (SS.expr (SX.appendH 1 (SPl.root 1) (SX.tup (SA.cons (SX.pure (SX.ix ix_seq opd_ix (SX.var 3) SX.int (by intro _ _; rfl) (by decide))) (SA.cons (SX.pure (SX.ix ix_seq opd_ix (SX.var 3) SX.int (by intro _ _; rfl) (by decide))) SA.nil (by decide)) (by decide))) (by decide)))
    SB.nil))) (by decide))
    SB.nil) SB.nil)
    (SB.cons (SS.ret (SX.tup (SA.cons (SX.ix ix_seq opd_ix (SX.lst (SA.cons (SX.neg SX.int) (SA.cons SX.int SA.nil (by decide)) (by decide))) (SX.callTy callr_int calld_int n_int (SA.cons (SX.cmp (op_eqA hu) opd_eq (SX.ix ix_seq opd_ix (SX.var 0) SX.int (by intro _ _; rfl) (by decide)) SX.str (nomark _) (by decide)) SA.nil (by decide)) bb_int) (by intro _ _; rfl) (by decide)) (SA.cons (SX.callTy callr_tuple calld_tuple n_tuple (SA.cons (SX.var 1) SA.nil (by decide)) bb_tuple) SA.nil (by decide)) (by decide))) (by decide))
    SB.nil)))) (by decide) (by decide)
theorem ok__law_word_move {k : Nat} {M__law_digits : List D → FRes} (G : Glob w K mg) (T : DefIn K mg "_law_word_move" "_law_word_move" ["_law_word"] s__law_word_move) (c__law_digits : Cal P w K mg base cm k "_law_digits" ["_law_word"] [] 1 M__law_digits) : Cal P w K mg base cm (k + 1) "_law_word_move" ["_law_word"] [] 1 (F__law_word_move M__law_digits) := .mk' T fun f fd Fn => fn__law_word_move G Fn c__law_digits
abbrev s__law_is_whole : Stmt := top 41
theorem sc__law_is_whole : FnScope ["_law_thing"] ["_law_thing"] (defScope s__law_is_whole) := ⟨rfl, rfl, rfl, by decide +kernel, rfl, by decide +kernel, by decide +kernel⟩
def fb__law_is_whole : Env → SRes :=
    (sSeq (sRet (fAndV (fIsi "int" (fVar 0)) (fNotV (fIsi "bool" (fVar 0)))))
    sNil)
def F__law_is_whole : List D → FRes := fnF [] 1 1 [] (fb__law_is_whole)
theorem fn__law_is_whole {k : Nat} {f : Addr} {fd : FuncData} (G : Glob w K mg) (Fn : Fun K "_law_is_whole" "_law_is_whole" s__law_is_whole f fd) : FnOk P w K mg base (L2.CX P w) (k + 1) f fd ["_law_thing"] (spD ⟨K, cm⟩ [] 1 (F__law_is_whole)) := by
  have n_bool : mg "bool" = none := G.n_bool
  have n_int : mg "int" = none := G.n_int
  have n_isinstance : mg "isinstance" = none := G.n_isinstance
  refine fnD (R := []) (A := []) Fn sc__law_is_whole rfl (fun cdv A0 outer s H E hr => ?_) (by decide) (by decide) (by decide) (by decide)
  have hu := hr.units
  have hu0 := hr.units0
  have hu65 := units65 hr
  have tk := L2.takes_of (X := cxOf (L2.CX P w) P w K mg base ["_law_thing"] "_law_is_whole" (defScope s__law_is_whole) f cdv A0 outer s H E) rfl rfl rfl rfl
  exact SB.mono
    (SB.cons (SS.ret (SX.and (SX.isi "int" (by decide) n_isinstance n_int bb_int (SX.var 0)) (SX.one (SX.not (SX.isi "bool" (by decide) n_isinstance n_bool bb_bool (SX.var 0))))) (by decide))
    SB.nil) (by decide) (by decide)
theorem ok__law_is_whole {k : Nat} (G : Glob w K mg) (T : DefIn K mg "_law_is_whole" "_law_is_whole" ["_law_thing"] s__law_is_whole) : Cal P w K mg base cm (k + 1) "_law_is_whole" ["_law_thing"] [] 1 (F__law_is_whole) := .mk' T fun f fd Fn => fn__law_is_whole G Fn
abbrev s__law_is_load : Stmt := top 43
theorem sc__law_is_load : FnScope ["_law_thing", "_law_last", "_law_pair"] ["_law_thing"] (defScope s__law_is_load) := ⟨rfl, rfl, rfl, by decide +kernel, rfl, by decide +kernel, by decide +kernel⟩
def lb__law_is_load_1 (M__law_is_whole : List D → FRes) : Env → SRes :=
    (sSeq (sIf (fOr (fNot (fTru (fIsi "tuple" (fVar 2)))) (fOr (fBl (fBin dNe (fCall dLen (fCons (fVar 2) fNil)) (fC (.int 2)))) (fOr (fNot (fTru (fUser 1 M__law_is_whole (fCons (fBin dIx (fVar 2) (fC (.int 0))) fNil)))) (fNot (fTru (fUser 1 M__law_is_whole (fCons (fBin dIx (fVar 2) (fC (.int 1))) fNil))))))) (sSeq (sRet (fC (.bl false)))
    sNil) sNil)
    (sSeq (sIf (fOr (fBl (fBin dLe (fBin dIx (fVar 2) (fC (.int 0))) (fVar 1))) (fBl (fBin dLt (fBin dIx (fVar 2) (fC (.int 1))) (fC (.int 1))))) (sSeq (sRet (fC (.bl false)))
    sNil) sNil)
    (sSeq (sAsg (fPure (fBin dIx (fVar 2) (fC (.int 0)))) (gN 1))
    sNil)))
def fb__law_is_load (M__law_is_whole : List D → FRes) : Env → SRes :=
    (sSeq (sIf (fNot (fTru (fIsi "tuple" (fVar 0)))) (sSeq (sRet (fC (.bl false)))
    sNil) sNil)
    (sSeq (sAsg (fNeg (fC (.int 1))) (gN 1))
    (sSeq (sFor (fSeq (fVar 0)) (gN 2) (lb__law_is_load_1 M__law_is_whole))
    (sSeq (sRet (fC (.bl true)))
    sNil))))
def F__law_is_load (M__law_is_whole : List D → FRes) : List D → FRes := fnF [] 3 1 [1, 2] (fb__law_is_load M__law_is_whole)
theorem fn__law_is_load {k : Nat} {M__law_is_whole : List D → FRes} {f : Addr} {fd : FuncData} (G : Glob w K mg) (Fn : Fun K "_law_is_load" "_law_is_load" s__law_is_load f fd) (c__law_is_whole : Cal P w K mg base cm k "_law_is_whole" ["_law_thing"] [] 1 M__law_is_whole) : FnOk P w K mg base (L2.CX P w) (k + 1) f fd ["_law_thing"] (spD ⟨K, cm⟩ [] 1 (F__law_is_load M__law_is_whole)) := by
  have n_isinstance : mg "isinstance" = none := G.n_isinstance
  have n_len : mg "len" = none := G.n_len
  have n_tuple : mg "tuple" = none := G.n_tuple
  refine fnD (R := []) (A := [1, 2]) Fn sc__law_is_load rfl (fun cdv A0 outer s H E hr => ?_) (by decide) (by decide) (by decide) (by decide)
  have hu := hr.units
  have hu0 := hr.units0
  have hu65 := units65 hr
  have tk := L2.takes_of (X := cxOf (L2.CX P w) P w K mg base ["_law_thing", "_law_last", "_law_pair"] "_law_is_load" (defScope s__law_is_load) f cdv A0 outer s H E) rfl rfl rfl rfl
  exact SB.mono
    (SB.cons (SS.if_ (ST.not (ST.truth (SX.isi "tuple" (by decide) n_isinstance n_tuple bb_tuple (SX.var 0)))) (SB.cons (SS.ret SX.bl (by decide))
    SB.nil) SB.nil)
    (SB.cons (SS.asg (SX.neg SX.int) (SG.name 1 sc__law_is_load.nd))
    (SB.cons (SS.for_ (L2.passes_of rfl) rfl (SI.seq (SX.var 0)) (SG.name 2 sc__law_is_load.nd) (SB.cons (SS.if_ (SW.st (SW.or (ST.not (ST.truth (SX.isi "tuple" (by decide) n_isinstance n_tuple bb_tuple (SX.var 2)))) (SW.or (ST.cmp (op_neA hu) opd_ne (SX.callB call_len calld_len n_len (SA.cons (SX.var 2) SA.nil (by decide)) PySem.boot_len) SX.int (nomark _) (by decide)) (SW.or (ST.not (ST.truth (SX.userC c__law_is_whole hr tk (SA.cons (SX.ix ix_seq opd_ix (SX.var 2) SX.int (by intro _ _; rfl) (by decide)) SA.nil (by decide))))) (SW.or1 (ST.not (ST.truth (SX.userC c__law_is_whole hr tk (SA.cons (SX.ix ix_seq opd_ix (SX.var 2) SX.int (by intro _ _; rfl) (by decide)) SA.nil (by decide)))))))))) (SB.cons (SS.ret SX.bl (by decide))
    SB.nil) SB.nil)
    (SB.cons (SS.if_ (SW.st (SW.or (ST.cmp op_le opd_le (SX.ix ix_seq opd_ix (SX.var 2) SX.int (by intro _ _; rfl) (by decide)) (SX.var 1) (nomark _) (by decide)) (SW.or1 (ST.cmp (op_ltA hu0) opd_lt (SX.ix ix_seq opd_ix (SX.var 2) SX.int (by intro _ _; rfl) (by decide)) SX.int (nomark _) (by decide))))) (SB.cons (SS.ret SX.bl (by decide))
    SB.nil) SB.nil)
    (SB.cons (SS.asg (SX.pure (SX.ix ix_seq opd_ix (SX.var 2) SX.int (by intro _ _; rfl) (by decide))) (SG.name 1 sc__law_is_load.nd))
    SB.nil))) (by decide))
    (SB.cons (SS.ret SX.bl (by decide))
    SB.nil)))) (by decide) (by decide)
theorem ok__law_is_load {k : Nat} {M__law_is_whole : List D → FRes} (G : Glob w K mg) (T : DefIn K mg "_law_is_load" "_law_is_load" ["_law_thing"] s__law_is_load) (c__law_is_whole : Cal P w K mg base cm k "_law_is_whole" ["_law_thing"] [] 1 M__law_is_whole) : Cal P w K mg base cm (k + 1) "_law_is_load" ["_law_thing"] [] 1 (F__law_is_load M__law_is_whole) := .mk' T fun f fd Fn => fn__law_is_load G Fn c__law_is_whole
abbrev s__law_is_built : Stmt := top 42
theorem sc__law_is_built : FnScope ["_law_thing"] ["_law_thing"] (defScope s__law_is_built) := ⟨rfl, rfl, rfl, by decide +kernel, rfl, by decide +kernel, by decide +kernel⟩
def fb__law_is_built (M__law_is_whole : List D → FRes) (M__law_is_load : List D → FRes) : Env → SRes :=
    (sSeq (sIf (fOr (fNot (fTru (fIsi "tuple" (fVar 0)))) (fOr (fBl (fBin dNe (fCall dLen (fCons (fVar 0) fNil)) (fC (.int 2)))) (fOr (fNot (fTru (fUser 1 M__law_is_whole (fCons (fBin dIx (fVar 0) (fC (.int 0))) fNil)))) (fBl (fBin dNotIn (fBin dIx (fVar 0) (fC (.int 0))) (fTup (fCons (fC (.int 1)) (fCons (fNeg (fC (.int 1))) fNil)))))))) (sSeq (sRet (fC (.bl false)))
    sNil) sNil)
    (sSeq (sRet (fUser 1 M__law_is_load (fCons (fBin dIx (fVar 0) (fC (.int 1))) fNil)))
    sNil))
def F__law_is_built (M__law_is_whole : List D → FRes) (M__law_is_load : List D → FRes) : List D → FRes := fnF [] 1 1 [] (fb__law_is_built M__law_is_whole M__law_is_load)
theorem fn__law_is_built {k : Nat} {M__law_is_whole : List D → FRes} {M__law_is_load : List D → FRes} {f : Addr} {fd : FuncData} (G : Glob w K mg) (Fn : Fun K "_law_is_built" "_law_is_built" s__law_is_built f fd) (c__law_is_whole : Cal P w K mg base cm k "_law_is_whole" ["_law_thing"] [] 1 M__law_is_whole) (c__law_is_load : Cal P w K mg base cm k "_law_is_load" ["_law_thing"] [] 1 M__law_is_load) : FnOk P w K mg base (L2.CX P w) (k + 1) f fd ["_law_thing"] (spD ⟨K, cm⟩ [] 1 (F__law_is_built M__law_is_whole M__law_is_load)) := by
  have n_isinstance : mg "isinstance" = none := G.n_isinstance
  have n_len : mg "len" = none := G.n_len
  have n_tuple : mg "tuple" = none := G.n_tuple
  refine fnD (R := []) (A := []) Fn sc__law_is_built rfl (fun cdv A0 outer s H E hr => ?_) (by decide) (by decide) (by decide) (by decide)
  have hu := hr.units
  have hu0 := hr.units0
  have hu65 := units65 hr
  have tk := L2.takes_of (X := cxOf (L2.CX P w) P w K mg base ["_law_thing"] "_law_is_built" (defScope s__law_is_built) f cdv A0 outer s H E) rfl rfl rfl rfl
  exact SB.mono
    (SB.cons (SS.if_ (SW.st (SW.or (ST.not (ST.truth (SX.isi "tuple" (by decide) n_isinstance n_tuple bb_tuple (SX.var 0)))) (SW.or (ST.cmp (op_neA hu) opd_ne (SX.callB call_len calld_len n_len (SA.cons (SX.var 0) SA.nil (by decide)) PySem.boot_len) SX.int (nomark _) (by decide)) (SW.or (ST.not (ST.truth (SX.userC c__law_is_whole hr tk (SA.cons (SX.ix ix_seq opd_ix (SX.var 0) SX.int (by intro _ _; rfl) (by decide)) SA.nil (by decide))))) (SW.or1 (ST.cmp (op_notInA hu65) opd_notIn (SX.ix ix_seq opd_ix (SX.var 0) SX.int (by intro _ _; rfl) (by decide)) (SX.tup (SA.cons SX.int (SA.cons (SX.neg SX.int) SA.nil (by decide)) (by decide))) (by rfl) (by decide))))))) (SB.cons (SS.ret SX.bl (by decide))
    SB.nil) SB.nil)
    (SB.cons (SS.ret (SX.userC c__law_is_load hr tk (SA.cons (SX.ix ix_seq opd_ix (SX.var 0) SX.int (by intro _ _; rfl) (by decide)) SA.nil (by decide))) (by decide))
    SB.nil)) (by decide) (by decide)
theorem ok__law_is_built {k : Nat} {M__law_is_whole : List D → FRes} {M__law_is_load : List D → FRes} (G : Glob w K mg) (T : DefIn K mg "_law_is_built" "_law_is_built" ["_law_thing"] s__law_is_built) (c__law_is_whole : Cal P w K mg base cm k "_law_is_whole" ["_law_thing"] [] 1 M__law_is_whole) (c__law_is_load : Cal P w K mg base cm k "_law_is_load" ["_law_thing"] [] 1 M__law_is_load) : Cal P w K mg base cm (k + 1) "_law_is_built" ["_law_thing"] [] 1 (F__law_is_built M__law_is_whole M__law_is_load) := .mk' T fun f fd Fn => fn__law_is_built G Fn c__law_is_whole c__law_is_load
abbrev s__law_is_right_log : Stmt := top 52
theorem sc__law_is_right_log : FnScope ["_law_log", "_law_level", "_law_written", "_law_deep", "_law_later", "_law_inner", "_law_item"] ["_law_log"] (defScope s__law_is_right_log) := ⟨rfl, rfl, rfl, by decide +kernel, rfl, by decide +kernel, by decide +kernel⟩
def lb__law_is_right_log_1 (M__law_is_built : List D → FRes) : Env → SRes :=
    (sSeq (sIf (fBl (fBin dEq (fCall dLen (fCons (fVar 6) fNil)) (fC (.int 3)))) (sSeq (sIf (fNot (fBl (fChain dLe dLe (fC (.int 1)) (fBin dIx (fVar 6) (fC (.int 1))) (fBin dPow (fC (.int 10)) (fC (.int 30)))))) (sSeq (sRet (fC (.bl false)))
    sNil) sNil)
    (sSeq (sExpr (fApp 4 pR (fHold 4 (fPure (fBin dIx (fVar 6) (fC (.int 2)))))))
    sNil)) (sSeq (sIf (fNot (fTru (fUser 1 M__law_is_built (fCons (fVar 6) fNil)))) (sSeq (sRet (fC (.bl false)))
    sNil) (sSeq (sAsg (fBin dAdd (fVar 2) (fC (.int 1))) (gN 2))
    sNil))
    sNil))
    sNil)
def lb__law_is_right_log_2 (M__law_is_built : List D → FRes) : Env → SRes :=
    (sSeq (sFor (fSeq (fVar 5)) (gN 6) (lb__law_is_right_log_1 M__law_is_built))
    sNil)
def lb__law_is_right_log_3 (M__law_is_built : List D → FRes) : Env → SRes :=
    (sSeq (sAsg (fLst fNil) (gN 4))
    (sSeq (sFor (fSeq (fVar 1)) (gN 5) (lb__law_is_right_log_2 M__law_is_built))
    (sSeq (sMove 1 4)
    sNil)))
def fb__law_is_right_log (M__law_is_built : List D → FRes) : Env → SRes :=
    (sSeq (sAsg (fLst (fCons (fPure (fVar 0)) fNil)) (gN 1))
    (sSeq (sAsg (fC (.int 0)) (gN 2))
    (sSeq (sFor (fArgL gRange1 (fCons (fC (.int 4)) fNil)) (gN 3) (lb__law_is_right_log_3 M__law_is_built))
    (sSeq (sRet (fAndV (fBin dEq (fVar 1) (fLst fNil)) (fBin dLe (fVar 2) (fC (.int 200)))))
    sNil))))
def F__law_is_right_log (M__law_is_built : List D → FRes) : List D → FRes := fnF [] 7 1 [1, 2, 3, 4, 5, 6] (fb__law_is_right_log M__law_is_built)
theorem fn__law_is_right_log {k : Nat} {M__law_is_built : List D → FRes} {f : Addr} {fd : FuncData} (G : Glob w K mg) (Fn : Fun K "_law_is_right_log" "_law_is_right_log" s__law_is_right_log f fd) (c__law_is_built : Cal P w K mg base cm k "_law_is_built" ["_law_thing"] [] 1 M__law_is_built) : FnOk P w K mg base (L2.CX P w) (k + 1) f fd ["_law_log"] (spD ⟨K, cm⟩ [] 1 (F__law_is_right_log M__law_is_built)) := by
  have n_len : mg "len" = none := G.n_len
  have n_range : mg "range" = none := G.n_range
  refine fnD (R := [4]) (A := [1, 2, 3, 4, 5, 6]) Fn sc__law_is_right_log rfl (fun cdv A0 outer s H E hr => ?_) (by decide) (by decide) (by decide) (by decide)
  have hu := hr.units
  have hu0 := hr.units0
  have hu65 := units65 hr
  have tk := L2.takes_of (X := cxOf (L2.CX P w) P w K mg base ["_law_log", "_law_level", "_law_written", "_law_deep", "_law_later", "_law_inner", "_law_item"] "_law_is_right_log" (defScope s__law_is_right_log) f cdv A0 outer s H E) rfl rfl rfl rfl
  exact SB.mono
    (SB.cons (SS.asg (SX.lst (SA.cons (SX.pure (SX.var 0)) SA.nil (by decide))) (SG.name 1 sc__law_is_right_log.nd))
    (SB.cons (SS.asg SX.int (SG.name 2 sc__law_is_right_log.nd))
    (SB.cons (SS.for_ (L2.passes_of rfl) rfl (SI.range1 n_range (SA.cons SX.int SA.nil (by decide))) (SG.name 3 sc__law_is_right_log.nd) (SB.cons (SS.asg (SX.lst SA.nil) (SG.name 4 sc__law_is_right_log.nd))
    (SB.cons (SS.for_ (L2.passes_of rfl) rfl (SI.seq (SX.var 1)) (SG.name 5 sc__law_is_right_log.nd) (SB.cons (SS.for_ (L2.passes_of rfl) rfl (SI.seq (SX.var 5)) (SG.name 6 sc__law_is_right_log.nd) (SB.cons (SS.if_ (ST.cmp (op_eqA hu) opd_eq (SX.callB call_len calld_len n_len (SA.cons (SX.var 6) SA.nil (by decide)) PySem.boot_len) SX.int (nomark _) (by decide)) (SB.cons (SS.if_ (ST.not (ST.chain op_le op_le opd_le opd_le iBin_pure iBin_pure SX.int (SX.ix ix_seq opd_ix (SX.var 6) SX.int (by intro _ _; rfl) (by decide)) (SX.binop op_pow opd_pow SX.int SX.int (by decide)))) (SB.cons (SS.ret SX.bl (by decide))
    SB.nil) SB.nil)
    (SB.cons (SS.expr (SX.appendH 4 (SPl.root 4) (SX.pure (SX.ix ix_seq opd_ix (SX.var 6) SX.int (by intro _ _; rfl) (by decide))) (by decide)))
    SB.nil)) (SB.cons (SS.if_ (ST.not (ST.truth (SX.userC c__law_is_built hr tk (SA.cons (SX.var 6) SA.nil (by decide))))) (SB.cons (SS.ret SX.bl (by decide))
    SB.nil) (SB.cons (SS.asg (SX.binop op_addD opd_add (SX.var 2) SX.int (by decide)) (SG.name 2 sc__law_is_right_log.nd))
    SB.nil))
    SB.nil))
    SB.nil) (by decide))
    SB.nil) (by decide))
    (SB.cons (SS.move 1 4 sc__law_is_right_log.nd)
    SB.nil))) (by decide))
    (SB.cons (SS.ret (SX.and (SX.cmp (op_eqA hu) opd_eq (SX.var 1) (SX.lst SA.nil) (nomark _) (by decide)) (SX.one (SX.cmp op_le opd_le (SX.var 2) SX.int (nomark _) (by decide)))) (by decide))
    SB.nil)))) (by decide) (by decide)
theorem ok__law_is_right_log {k : Nat} {M__law_is_built : List D → FRes} (G : Glob w K mg) (T : DefIn K mg "_law_is_right_log" "_law_is_right_log" ["_law_log"] s__law_is_right_log) (c__law_is_built : Cal P w K mg base cm k "_law_is_built" ["_law_thing"] [] 1 M__law_is_built) : Cal P w K mg base cm (k + 1) "_law_is_right_log" ["_law_log"] [] 1 (F__law_is_right_log M__law_is_built) := .mk' T fun f fd Fn => fn__law_is_right_log G Fn c__law_is_built
abbrev s__law_read_log : Stmt := top 51
theorem sc__law_read_log : FnScope ["_law_text", "_law_words", "_law_levels", "_law_times", "_law_at", "_law_word", "_law_opened", "_law_told", "_law_inner", "_law_log"] ["_law_text"] (defScope s__law_read_log) := ⟨rfl, rfl, rfl, by decide +kernel, rfl, by decide +kernel, by decide +kernel⟩
def lb__law_read_log_1 (M__law_digits : List D → FRes) (M__law_word_move : List D → FRes) (M__law_is_right_log : List D → FRes) : Env → SRes :=
    (sSeq (sAsg (fPure (fBin dIx (fVar 1) (fVar 4))) (gN 5))
    (sSeq (sAsg (fC .non) (gN 6))
    (sSeq (sIf (fTru (fM1 gEnds (fVar 5) (fC (.str "(")))) (sSeq (sAsg (fUser 1 M__law_digits (fCons (fSl (fVar 5) fNoP (fSomeP (fNeg (fC (.int 1))))) fNil)) (gN 6))
    sNil) sNil)
    (sSeq (sAsg (fUser 1 M__law_word_move (fCons (fVar 5) fNil)) (gN 7))
    (sSeq (sIf (fBl (fBin dNotN (fVar 6) (fC .non))) (sSeq (sExpr (fApp 3 pR (fHold 3 (fPure (fVar 6)))))
    (sSeq (sExpr (fApp 2 pR (fHold 2 (fLst fNil))))
    sNil)) (sSeq (sIf (fBl (fBin dNotN (fVar 7) (fC .non))) (sSeq (sExpr (fApp 2 (pIx 2 pR (qC (-1))) (fHold 2 (fPure (fVar 7)))))
    sNil) (sSeq (sIf (fAnd (fBl (fBin dEq (fVar 5) (fC (.str ")")))) (fAnd (fBl (fBin dGt (fCall dLen (fCons (fVar 3) fNil)) (fC (.int 0)))) (fBl (fBin dGt (fCall dLen (fCons (fBin dIx (fVar 2) (fNeg (fC (.int 1)))) fNil)) (fC (.int 0)))))) (sSeq (sAsg (fCall dTuple (fCons (fPop 2 pR) fNil)) (gN 8))
    (sSeq (sExpr (fApp 2 (pIx 2 pR (qC (-1))) (fHold 2 (fTup (fCons (fC (.str "times")) (fCons (fPop 3 pR) (fCons (fPure (fVar 8)) fNil)))))))
    sNil)) (sSeq (sRet (fTup (fCons (fC (.str "text")) (fCons (fPure (fVar 4)) fNil))))
    sNil))
    sNil))
    sNil))
    sNil)))))
def fb__law_read_log (M__law_digits : List D → FRes) (M__law_word_move : List D → FRes) (M__law_is_right_log : List D → FRes) : Env → SRes :=
    (sSeq (sIf (fNot (fTru (fIsi "str" (fVar 0)))) (sSeq (sRet (fTup (fCons (fC (.str "text")) (fCons (fNeg (fC (.int 1))) fNil))))
    sNil) sNil)
    (sSeq (sAsg (fLst fNil) (gN 1))
    (sSeq (sIf (fBl (fBin dNe (fVar 0) (fC (.str "")))) (sSeq (sAsg (fM1 gSplit (fVar 0) (fC (.str " "))) (gN 1))
    sNil) sNil)
    (sSeq (sAsg (fLst (fCons (fLst fNil) fNil)) (gN 2))
    (sSeq (sAsg (fLst fNil) (gN 3))
    (sSeq (sFor (fArgL gRange1 (fCons (fCall dLen (fCons (fVar 1) fNil)) fNil)) (gN 4) (lb__law_read_log_1 M__law_digits M__law_word_move M__law_is_right_log))
    (sSeq (sIf (fBl (fBin dGt (fCall dLen (fCons (fVar 3) fNil)) (fC (.int 0)))) (sSeq (sRet (fTup (fCons (fC (.str "text")) (fCons (fCall dLen (fCons (fVar 1) fNil)) fNil))))
    sNil) sNil)
    (sSeq (sAsg (fCall dTuple (fCons (fBin dIx (fVar 2) (fC (.int 0))) fNil)) (gN 9))
    (sSeq (sIf (fNot (fTru (fUser 1 M__law_is_right_log (fCons (fVar 9) fNil)))) (sSeq (sRet (fTup (fCons (fC (.str "log")) (fCons (fC .non) fNil))))
    sNil) sNil)
    (sSeq (sRet (fTup (fCons (fC (.str "told")) (fCons (fPure (fVar 9)) fNil))))
    sNil))))))))))
def F__law_read_log (M__law_digits : List D → FRes) (M__law_word_move : List D → FRes) (M__law_is_right_log : List D → FRes) : List D → FRes := fnF [] 10 1 [1, 2, 3, 4, 5, 6, 7, 8, 9] (fb__law_read_log M__law_digits M__law_word_move M__law_is_right_log)
theorem fn__law_read_log {k : Nat} {M__law_digits : List D → FRes} {M__law_word_move : List D → FRes} {M__law_is_right_log : List D → FRes} {f : Addr} {fd : FuncData} (G : Glob w K mg) (Fn : Fun K "_law_read_log" "_law_read_log" s__law_read_log f fd) (c__law_digits : Cal P w K mg base cm k "_law_digits" ["_law_word"] [] 1 M__law_digits) (c__law_word_move : Cal P w K mg base cm k "_law_word_move" ["_law_word"] [] 1 M__law_word_move) (c__law_is_right_log : Cal P w K mg base cm k "_law_is_right_log" ["_law_log"] [] 1 M__law_is_right_log) : FnOk P w K mg base (L2.CX P w) (k + 1) f fd ["_law_text"] (spD ⟨K, cm⟩ [] 1 (F__law_read_log M__law_digits M__law_word_move M__law_is_right_log)) := by
  have n_isinstance : mg "isinstance" = none := G.n_isinstance
  have n_len : mg "len" = none := G.n_len
  have n_range : mg "range" = none := G.n_range
  have n_str : mg "str" = none := G.n_str
  have n_tuple : mg "tuple" = none := G.n_tuple
  refine fnD (R := [2, 3]) (A := [1, 2, 3, 4, 5, 6, 7, 8, 9]) Fn sc__law_read_log rfl (fun cdv A0 outer s H E hr => ?_) (by decide) (by decide) (by decide) (by decide)
  have hu := hr.units
  have hu0 := hr.units0
  have hu65 := units65 hr
  have tk := L2.takes_of (X := cxOf (L2.CX P w) P w K mg base ["_law_text", "_law_words", "_law_levels", "_law_times", "_law_at", "_law_word", "_law_opened", "_law_told", "_law_inner", "_law_log"] "_law_read_log" (defScope s__law_read_log) f cdv A0 outer s H E) rfl rfl rfl rfl
  exact SB.mono
    (SB.cons (SS.if_ (ST.not (ST.truth (SX.isi "str" (by decide) n_isinstance n_str bb_str (SX.var 0)))) (SB.cons (SS.ret (SX.tup (SA.cons SX.str (SA.cons (SX.neg SX.int) SA.nil (by decide)) (by decide))) (by decide))
    SB.nil) SB.nil)
    (SB.cons (SS.asg (SX.lst SA.nil) (SG.name 1 sc__law_read_log.nd))
    (SB.cons (SS.if_ (ST.cmp (op_neA hu) opd_ne (SX.var 0) SX.str (nomark _) (by decide)) (SB.cons (SS.asg (SX.split (SX.var 0) SX.str) (SG.name 1 sc__law_read_log.nd))
    SB.nil) SB.nil)
    (SB.cons (SS.asg (SX.lst (SA.cons (SX.lst SA.nil) SA.nil (by decide))) (SG.name 2 sc__law_read_log.nd))
    (SB.cons (SS.asg (SX.lst SA.nil) (SG.name 3 sc__law_read_log.nd))
    (SB.cons (SS.for_ (L2.passes_of rfl) rfl (SI.range1 n_range (SA.cons (SX.callB call_len calld_len n_len (SA.cons (SX.var 1) SA.nil (by decide)) PySem.boot_len) SA.nil (by decide))) (SG.name 4 sc__law_read_log.nd) (SB.cons (SS.asg (SX.pure (SX.ix ix_seq opd_ix (SX.var 1) (SX.var 4) (by intro _ _; rfl) (by decide))) (SG.name 5 sc__law_read_log.nd))
    (SB.cons (SS.asg SX.non (SG.name 6 sc__law_read_log.nd))
    (SB.cons (SS.if_ (ST.truth (SX.ends (SX.var 5) SX.str)) (SB.cons (SS.asg (SX.userC c__law_digits hr tk (SA.cons (SX.slice (SX.var 5) SP'.none (SP'.some (SX.neg SX.int))) SA.nil (by decide))) (SG.name 6 sc__law_read_log.nd))
    SB.nil) SB.nil)
    (SB.cons (SS.asg (SX.userC c__law_word_move hr tk (SA.cons (SX.var 5) SA.nil (by decide))) (SG.name 7 sc__law_read_log.nd))
    (SB.cons (SS.if_ (ST.cmp op_notN opd_notN (SX.var 6) SX.non (nomark _) (by decide)) (SB.cons (SS.expr (SX.appendH 3 (SPl.root 3) (SX.pure (SX.var 6)) (by decide)))
    (SB.cons (SS.expr (SX.appendH 2 (SPl.root 2) (SX.lst SA.nil) (by decide)))
    SB.nil)) (SB.cons (SS.if_ (ST.cmp op_notN opd_notN (SX.var 7) SX.non (nomark _) (by decide)) (SB.cons (SS.expr (SX.appendH 2 (SPl.ix (SPl.root 2) SQ.neg) (SX.pure (SX.var 7)) (by decide)))
    SB.nil) (SB.cons (SS.if_ (SW.st (SW.and (ST.cmp (op_eqA hu) opd_eq (SX.var 5) SX.str (nomark _) (by decide)) (SW.and (ST.cmp op_gt opd_gt (SX.callB call_len calld_len n_len (SA.cons (SX.var 3) SA.nil (by decide)) PySem.boot_len) SX.int (nomark _) (by decide)) (SW.and1 (ST.cmp op_gt opd_gt (SX.callB call_len calld_len n_len (SA.cons (SX.ix ix_seq opd_ix (SX.var 2) (SX.neg SX.int) (by intro _ _; rfl) (by decide)) SA.nil (by decide)) PySem.boot_len) SX.int (nomark _) (by decide)))))) (SB.cons (SS.asg (SX.callTy callr_tuple calld_tuple n_tuple (SA.cons (SX.pop (SPl.root 2)) SA.nil (by decide)) bb_tuple) (SG.name 8 sc__law_read_log.nd))
    (SB.cons (SS.expr (SX.appendH 2 (SPl.ix (SPl.root 2) SQ.neg) (SX.tup (SA.cons SX.str (SA.cons (SX.pop (SPl.root 3)) (SA.cons (SX.pure (SX.var 8)) SA.nil (by decide)) (by decide)) (by decide))) (by decide)))
    SB.nil)) (SB.cons (SS.ret (SX.tup (SA.cons SX.str (SA.cons (SX.pure (SX.var 4)) SA.nil (by decide)) (by decide))) (by decide))
    SB.nil))
    SB.nil))
    SB.nil))
    SB.nil))))) (by decide))
    (SB.cons (SS.if_ (ST.cmp op_gt opd_gt (SX.callB call_len calld_len n_len (SA.cons (SX.var 3) SA.nil (by decide)) PySem.boot_len) SX.int (nomark _) (by decide)) (SB.cons (SS.ret (SX.tup (SA.cons SX.str (SA.cons (SX.callB call_len calld_len n_len (SA.cons (SX.var 1) SA.nil (by decide)) PySem.boot_len) SA.nil (by decide)) (by decide))) (by decide))
    SB.nil) SB.nil)
    (SB.cons (SS.asg (SX.callTy callr_tuple calld_tuple n_tuple (SA.cons (SX.ix ix_seq opd_ix (SX.var 2) SX.int (by intro _ _; rfl) (by decide)) SA.nil (by decide)) bb_tuple) (SG.name 9 sc__law_read_log.nd))
    (SB.cons (SS.if_ (ST.not (ST.truth (SX.userC c__law_is_right_log hr tk (SA.cons (SX.var 9) SA.nil (by decide))))) (SB.cons (SS.ret (SX.tup (SA.cons SX.str (SA.cons SX.non SA.nil (by decide)) (by decide))) (by decide))
    SB.nil) SB.nil)
    (SB.cons (SS.ret (SX.tup (SA.cons SX.str (SA.cons (SX.pure (SX.var 9)) SA.nil (by decide)) (by decide))) (by decide))
    SB.nil)))))))))) (by decide) (by decide)
theorem ok__law_read_log {k : Nat} {M__law_digits : List D → FRes} {M__law_word_move : List D → FRes} {M__law_is_right_log : List D → FRes} (G : Glob w K mg) (T : DefIn K mg "_law_read_log" "_law_read_log" ["_law_text"] s__law_read_log) (c__law_digits : Cal P w K mg base cm k "_law_digits" ["_law_word"] [] 1 M__law_digits) (c__law_word_move : Cal P w K mg base cm k "_law_word_move" ["_law_word"] [] 1 M__law_word_move) (c__law_is_right_log : Cal P w K mg base cm k "_law_is_right_log" ["_law_log"] [] 1 M__law_is_right_log) : Cal P w K mg base cm (k + 1) "_law_read_log" ["_law_text"] [] 1 (F__law_read_log M__law_digits M__law_word_move M__law_is_right_log) := .mk' T fun f fd Fn => fn__law_read_log G Fn c__law_digits c__law_word_move c__law_is_right_log
abbrev s_law : Stmt := top 54
theorem sc_law : FnScope ["_law_script", "_law_deck_here", "_law_step", "_law_log", "_law_told", "_law_less", "_law_many"] ["_law_script"] (defScope s_law) := ⟨rfl, rfl, rfl, by decide +kernel, rfl, by decide +kernel, by decide +kernel⟩
def lb_law_1 (M__law_deck : List D → FRes) (M_log_text : List D → FRes) (M_read_log : List D → FRes) (M__law_built_log : List D → FRes) (M__law_take : List D → FRes) (M__law_log_text : List D → FRes) (M__law_like : List D → FRes) (M__law_read_log : List D → FRes) (M_length_of : List D → FRes) (M__law_length : List D → FRes) (M__law_amount : List D → FRes) : Env → SRes :=
    (sSeq (sAsg (fUserM 1 3 M__law_built_log (fCons (fUserM 1 2 M__law_take (fCons (fC (.int 4)) fNil)) (fCons (fC (.int 6)) fNil))) (gN 3))
    (sSeq (sAsg (fUser 1 M_log_text (fCons (fVar 3) fNil)) (gN 4))
    (sSeq (sIf (fOr (fNot (fTru (fIsi "str" (fVar 4)))) (fBl (fBin dNe (fVar 4) (fUser 1 M__law_log_text (fCons (fVar 3) fNil))))) (sSeq (sRet (fC (.bl false)))
    sNil) sNil)
    (sSeq (sIf (fOr (fNot (fTru (fUser 2 M__law_like (fCons (fUser 1 M_read_log (fCons (fVar 4) fNil)) (fCons (fVar 3) fNil))))) (fNot (fTru (fUser 2 M__law_like (fCons (fUser 1 M__law_read_log (fCons (fVar 4) fNil)) (fCons (fTup (fCons (fC (.str "told")) (fCons (fPure (fVar 3)) fNil))) fNil)))))) (sSeq (sRet (fC (.bl false)))
    sNil) sNil)
    (sSeq (sIf (fNot (fTru (fUser 2 M__law_like (fCons (fUser 1 M_length_of (fCons (fUser 1 M_read_log (fCons (fVar 4) fNil)) fNil)) (fCons (fUser 1 M__law_length (fCons (fVar 3) fNil)) fNil))))) (sSeq (sRet (fC (.bl false)))
    sNil) sNil)
    (sSeq (sAsg (fUserM 1 3 M__law_built_log (fCons (fC (.int 2)) (fCons (fC (.int 4)) fNil))) (gN 5))
    (sSeq (sIf (fBl (fBin dGt (fCall dLen (fCons (fVar 5) fNil)) (fC (.int 0)))) (sSeq (sAsg (fUserM 1 1 M__law_amount fNil) (gN 6))
    (sSeq (sIf (fBl (fBin dNe (fUser 1 M_log_text (fCons (fTup (fCons (fTup (fCons (fC (.str "times")) (fCons (fPure (fVar 6)) (fCons (fPure (fVar 5)) fNil)))) fNil)) fNil)) (fBin dAdd (fBin dAdd (fBin dAdd (fCall dStr (fCons (fVar 6) fNil)) (fC (.str "( "))) (fUser 1 M_log_text (fCons (fVar 5) fNil))) (fC (.str " )"))))) (sSeq (sRet (fC (.bl false)))
    sNil) sNil)
    sNil)) sNil)
    sNil)))))))
def fb_law (M__law_deck : List D → FRes) (M_log_text : List D → FRes) (M_read_log : List D → FRes) (M__law_built_log : List D → FRes) (M__law_take : List D → FRes) (M__law_log_text : List D → FRes) (M__law_like : List D → FRes) (M__law_read_log : List D → FRes) (M_length_of : List D → FRes) (M__law_length : List D → FRes) (M__law_amount : List D → FRes) : Env → SRes :=
    (sSeq (sAsg (fUser 1 M__law_deck (fCons (fVar 0) fNil)) (gN 1))
    (sSeq (sIf (fOr (fBl (fBin dNe (fUser 1 M_log_text (fCons (fTup fNil) fNil)) (fC (.str "")))) (fBl (fBin dNe (fUser 1 M_read_log (fCons (fC (.str "")) fNil)) (fTup fNil)))) (sSeq (sRet (fC (.bl false)))
    sNil) sNil)
    (sSeq (sFor (fArgL gRange1 (fCons (fC (.int 6)) fNil)) (gN 2) (lb_law_1 M__law_deck M_log_text M_read_log M__law_built_log M__law_take M__law_log_text M__law_like M__law_read_log M_length_of M__law_length M__law_amount))
    (sSeq (sRet (fC (.bl true)))
    sNil))))
def F_law (M__law_deck : List D → FRes) (M_log_text : List D → FRes) (M_read_log : List D → FRes) (M__law_built_log : List D → FRes) (M__law_take : List D → FRes) (M__law_log_text : List D → FRes) (M__law_like : List D → FRes) (M__law_read_log : List D → FRes) (M_length_of : List D → FRes) (M__law_length : List D → FRes) (M__law_amount : List D → FRes) : List D → FRes := fnF [] 7 1 [1, 2, 3, 4, 5, 6] (fb_law M__law_deck M_log_text M_read_log M__law_built_log M__law_take M__law_log_text M__law_like M__law_read_log M_length_of M__law_length M__law_amount)
theorem fn_law {k : Nat} {M__law_deck : List D → FRes} {M_log_text : List D → FRes} {M_read_log : List D → FRes} {M__law_built_log : List D → FRes} {M__law_take : List D → FRes} {M__law_log_text : List D → FRes} {M__law_like : List D → FRes} {M__law_read_log : List D → FRes} {M_length_of : List D → FRes} {M__law_length : List D → FRes} {M__law_amount : List D → FRes} {f : Addr} {fd : FuncData} (G : Glob w K mg) (Fn : Fun K "law" "law" s_law f fd) (c__law_deck : Cal P w K mg base cm k "_law_deck" ["_law_script"] [] 1 M__law_deck) (c_log_text : Cal P w K mg base cm k "log_text" ["log"] [] 1 M_log_text) (c_read_log : Cal P w K mg base cm k "read_log" ["text"] [] 1 M_read_log) (c__law_built_log : Cal P w K mg base cm k "_law_built_log" ["_law_deck_here", "_law_deep", "_law_most"] [0] 3 M__law_built_log) (c__law_take : Cal P w K mg base cm k "_law_take" ["_law_deck_here", "_law_many"] [0] 2 M__law_take) (c__law_log_text : Cal P w K mg base cm k "_law_log_text" ["_law_log"] [] 1 M__law_log_text) (c__law_like : Cal P w K mg base cm k "_law_like" ["_law_told", "_law_due"] [] 2 M__law_like) (c__law_read_log : Cal P w K mg base cm k "_law_read_log" ["_law_text"] [] 1 M__law_read_log) (c_length_of : Cal P w K mg base cm k "length_of" ["log"] [] 1 M_length_of) (c__law_length : Cal P w K mg base cm k "_law_length" ["_law_log"] [] 1 M__law_length) (c__law_amount : Cal P w K mg base cm k "_law_amount" ["_law_deck_here"] [0] 1 M__law_amount) : FnOk P w K mg base (L2.CX P w) (k + 1) f fd ["_law_script"] (spD ⟨K, cm⟩ [] 1 (F_law M__law_deck M_log_text M_read_log M__law_built_log M__law_take M__law_log_text M__law_like M__law_read_log M_length_of M__law_length M__law_amount)) := by
  have n_isinstance : mg "isinstance" = none := G.n_isinstance
  have n_len : mg "len" = none := G.n_len
  have n_range : mg "range" = none := G.n_range
  have n_str : mg "str" = none := G.n_str
  refine fnD (R := [1]) (A := [1, 2, 3, 4, 5, 6]) Fn sc_law rfl (fun cdv A0 outer s H E hr => ?_) (by decide) (by decide) (by decide) (by decide)
  have hu := hr.units
  have hu0 := hr.units0
  have hu65 := units65 hr
  have tk := L2.takes_of (X := cxOf (L2.CX P w) P w K mg base ["_law_script", "_law_deck_here", "_law_step", "_law_log", "_law_told", "_law_less", "_law_many"] "law" (defScope s_law) f cdv A0 outer s H E) rfl rfl rfl rfl
  exact SB.mono
    (SB.cons (SS.asg (SX.userC c__law_deck hr tk (SA.cons (SX.var 0) SA.nil (by decide))) (SG.name 1 sc_law.nd))
    (SB.cons (SS.if_ (SW.st (SW.or (ST.cmp (op_neA hu) opd_ne (SX.userC c_log_text hr tk (SA.cons (SX.tup SA.nil) SA.nil (by decide))) SX.str (nomark _) (by decide)) (SW.or1 (ST.cmp (op_neA hu) opd_ne (SX.userC c_read_log hr tk (SA.cons SX.str SA.nil (by decide))) (SX.tup SA.nil) (nomark _) (by decide))))) (SB.cons (SS.ret SX.bl (by decide))
    SB.nil) SB.nil)
    (SB.cons (SS.for_ (L2.passes_of rfl) rfl (SI.range1 n_range (SA.cons SX.int SA.nil (by decide))) (SG.name 2 sc_law.nd) (SB.cons (SS.asg (SX.userMC 1 c__law_built_log hr tk (SA.cons (SX.userMC 1 c__law_take hr tk (SA.cons SX.int SA.nil (by decide))) (SA.cons SX.int SA.nil (by decide)) (by decide))) (SG.name 3 sc_law.nd))
    (SB.cons (SS.asg (SX.userC c_log_text hr tk (SA.cons (SX.var 3) SA.nil (by decide))) (SG.name 4 sc_law.nd))
    (SB.cons (SS.if_ (SW.st (SW.or (ST.not (ST.truth (SX.isi "str" (by decide) n_isinstance n_str bb_str (SX.var 4)))) (SW.or1 (ST.cmp (op_neA hu) opd_ne (SX.var 4) (SX.userC c__law_log_text hr tk (SA.cons (SX.var 3) SA.nil (by decide))) (nomark _) (by decide))))) (SB.cons (SS.ret SX.bl (by decide))
    SB.nil) SB.nil)
    (SB.cons (SS.if_ (SW.st (SW.or (ST.not (ST.truth (SX.userC c__law_like hr tk (SA.cons (SX.userC c_read_log hr tk (SA.cons (SX.var 4) SA.nil (by decide))) (SA.cons (SX.var 3) SA.nil (by decide)) (by decide))))) (SW.or1 (ST.not (ST.truth (SX.userC c__law_like hr tk (SA.cons (SX.userC c__law_read_log hr tk (SA.cons (SX.var 4) SA.nil (by decide))) (SA.cons (SX.tup (SA.cons SX.str (SA.cons (SX.pure (SX.var 3)) SA.nil (by decide)) (by decide))) SA.nil (by decide)) (by decide)))))))) (SB.cons (SS.ret SX.bl (by decide))
    SB.nil) SB.nil)
    (SB.cons (SS.if_ (ST.not (ST.truth (SX.userC c__law_like hr tk (SA.cons (SX.userC c_length_of hr tk (SA.cons (SX.userC c_read_log hr tk (SA.cons (SX.var 4) SA.nil (by decide))) SA.nil (by decide))) (SA.cons (SX.userC c__law_length hr tk (SA.cons (SX.var 3) SA.nil (by decide))) SA.nil (by decide)) (by decide))))) (SB.cons (SS.ret SX.bl (by decide))
    SB.nil) SB.nil)
    (SB.cons (SS.asg (SX.userMC 1 c__law_built_log hr tk (SA.cons SX.int (SA.cons SX.int SA.nil (by decide)) (by decide))) (SG.name 5 sc_law.nd))
    (SB.cons (SS.if_ (ST.cmp op_gt opd_gt (SX.callB call_len calld_len n_len (SA.cons (SX.var 5) SA.nil (by decide)) PySem.boot_len) SX.int (nomark _) (by decide)) (SB.cons (SS.asg (SX.userMC 1 c__law_amount hr tk SA.nil) (SG.name 6 sc_law.nd))
    (SB.cons (SS.if_ (ST.cmp (op_neA hu) opd_ne (SX.userC c_log_text hr tk (SA.cons (SX.tup (SA.cons (SX.tup (SA.cons SX.str (SA.cons (SX.pure (SX.var 6)) (SA.cons (SX.pure (SX.var 5)) SA.nil (by decide)) (by decide)) (by decide))) SA.nil (by decide))) SA.nil (by decide))) (SX.binop op_addD opd_add (SX.binop op_addD opd_add (SX.binop op_addD opd_add (SX.callTy callr_str calld_str n_str (SA.cons (SX.var 6) SA.nil (by decide)) bb_str) SX.str (by decide)) (SX.userC c_log_text hr tk (SA.cons (SX.var 5) SA.nil (by decide))) (by decide)) SX.str (by decide)) (nomark _) (by decide)) (SB.cons (SS.ret SX.bl (by decide))
    SB.nil) SB.nil)
    SB.nil)) SB.nil)
    SB.nil))))))) (by decide))
    (SB.cons (SS.ret SX.bl (by decide))
    SB.nil)))) (by decide) (by decide)
theorem ok_law {k : Nat} {M__law_deck : List D → FRes} {M_log_text : List D → FRes} {M_read_log : List D → FRes} {M__law_built_log : List D → FRes} {M__law_take : List D → FRes} {M__law_log_text : List D → FRes} {M__law_like : List D → FRes} {M__law_read_log : List D → FRes} {M_length_of : List D → FRes} {M__law_length : List D → FRes} {M__law_amount : List D → FRes} (G : Glob w K mg) (T : DefIn K mg "law" "law" ["_law_script"] s_law) (c__law_deck : Cal P w K mg base cm k "_law_deck" ["_law_script"] [] 1 M__law_deck) (c_log_text : Cal P w K mg base cm k "log_text" ["log"] [] 1 M_log_text) (c_read_log : Cal P w K mg base cm k "read_log" ["text"] [] 1 M_read_log) (c__law_built_log : Cal P w K mg base cm k "_law_built_log" ["_law_deck_here", "_law_deep", "_law_most"] [0] 3 M__law_built_log) (c__law_take : Cal P w K mg base cm k "_law_take" ["_law_deck_here", "_law_many"] [0] 2 M__law_take) (c__law_log_text : Cal P w K mg base cm k "_law_log_text" ["_law_log"] [] 1 M__law_log_text) (c__law_like : Cal P w K mg base cm k "_law_like" ["_law_told", "_law_due"] [] 2 M__law_like) (c__law_read_log : Cal P w K mg base cm k "_law_read_log" ["_law_text"] [] 1 M__law_read_log) (c_length_of : Cal P w K mg base cm k "length_of" ["log"] [] 1 M_length_of) (c__law_length : Cal P w K mg base cm k "_law_length" ["_law_log"] [] 1 M__law_length) (c__law_amount : Cal P w K mg base cm k "_law_amount" ["_law_deck_here"] [0] 1 M__law_amount) : Cal P w K mg base cm (k + 1) "law" ["_law_script"] [] 1 (F_law M__law_deck M_log_text M_read_log M__law_built_log M__law_take M__law_log_text M__law_like M__law_read_log M_length_of M__law_length M__law_amount) := .mk' T fun f fd Fn => fn_law G Fn c__law_deck c_log_text c_read_log c__law_built_log c__law_take c__law_log_text c__law_like c__law_read_log c_length_of c__law_length c__law_amount
end
end DL

set_option Elab.async false
set_option linter.all false
set_option maxRecDepth 100000
set_option maxHeartbeats 1000000
namespace DL
open PySem PySem.Spec L2

/-! ### general -/
theorem seqD_tup (xs : List D) : seqD (.tup xs) = if pureL xs then some xs else none := rfl
theorem seqD_lst (xs : List D) : seqD (.lst xs) = if pureL xs then some xs else none := rfl
theorem lcGo_map {g : D → Env → Option Env} {fe : Env → Res D} {vs : List Nat} {h : D → D} {r : Env} : ∀ {ds acc : List D}, (∀ d ∈ ds, ∃ r1, g d (wipeE r vs) = some r1 ∧ fe r1 = .ok (h d) r1 ∧ unw r r1 vs = r) → (∀ d ∈ ds, (h d).pure = true) → acc.length + ds.length ≤ 16777216 →
    lcGo g tTrue fe vs ds r acc = .ok (.lst (acc ++ ds.map h)) r
  | [], acc, _, _, _ => by simp [lcGo]
  | d :: ds, acc, hs, hp, hl => by
    obtain ⟨r1, e1, e2, e3⟩ := hs d List.mem_cons_self
    have p := hp d List.mem_cons_self
    rw [List.length_cons] at hl
    have hl' : acc.length < 16777216 := by omega
    rw [lcGo_cons, e1]
    simp only [tTrue, e2, p, hl', decide_true, Bool.and_self, if_true, e3]
    rw [lcGo_map (fun d m => hs d (List.mem_cons_of_mem _ m)) (fun d m => hp d (List.mem_cons_of_mem _ m)) (by rw [List.length_append, List.length_singleton]; omega)]
    simp
theorem blsOf_true : ∀ n : Nat, blsOf (List.replicate n (.bl true)) = some (List.replicate n true)
  | 0 => rfl
  | n + 1 => by
    rw [List.replicate_succ, List.replicate_succ]
    show (blsOf (List.replicate n (.bl true))).map (true :: ·) = _
    rw [blsOf_true n]; rfl
theorem dAll_true {α : Type} {ds : List α} : dAll [.lst (ds.map fun _ => D.bl true)] = some (.bl true) := by
  have e : (ds.map fun _ => D.bl true) = List.replicate ds.length (.bl true) := by
    induction ds with
    | nil => rfl
    | cons d ds ih => rw [List.map_cons, ih]; rfl
  rw [e]
  show (blsOf (List.replicate ds.length (.bl true))).map (fun bs => D.bl (bs.all id)) = _
  rw [blsOf_true]
  simp

/-! ### single steps -/
section
variable {f fa fb fe : Env → Res D} {fs : Env → Res (List D)} {t ta tb : Env → Res Bool} {r r1 r2 : Env} {x y z d : D} {ds : List D} {k : Bool} {s s2 : Env → SRes}
theorem fNil_ok : fNil r = .ok [] r := rfl
theorem fC_ok : fC d r = .ok d r := rfl
theorem fBin_ok {g : D → D → Option D} (h1 : fa r = .ok x r1) (h2 : fb r1 = .ok y r2) (h3 : g x y = some z) : fBin g fa fb r = .ok z r2 := by
  unfold fBin; rw [h1, Res.bind_ok, h2, Res.bind_ok, h3]; rfl
theorem fCons_ok (h1 : f r = .ok d r1) (h2 : fs r1 = .ok ds r2) : fCons f fs r = .ok (d :: ds) r2 := by
  unfold fCons; rw [h1, Res.bind_ok, h2, Res.bind_ok]
theorem fOne_ok (h1 : f r = .ok d r1) : fCons f fNil r = .ok [d] r1 := fCons_ok h1 rfl
theorem fLst_ok (h : fs r = .ok ds r1) (hl : ds.length ≤ 16777216) : fLst fs r = .ok (.lst ds) r1 := by
  unfold fLst; rw [h, Res.bind_ok, if_pos (show szOk _ = true from decide_eq_true hl)]
theorem fTup_ok (h : fs r = .ok ds r1) (hl : ds.length ≤ 16777216) : fTup fs r = .ok (.tup ds) r1 := by
  unfold fTup; rw [h, Res.bind_ok, if_pos (show szOk _ = true from decide_eq_true hl)]
theorem fCall_ok {g : List D → Option D} (h : fs r = .ok ds r1) (hg : g ds = some z) : fCall g fs r = .ok z r1 := by
  unfold fCall; rw [h, Res.bind_ok, hg]; rfl
theorem fPure_ok (h : f r = .ok d r1) (hp : d.pure = true) : fPure f r = .ok d r1 := by
  unfold fPure; rw [h, Res.bind_ok, if_pos hp]
theorem sAsg_ok {g : D → Env → Option Env} (h : fe r = .ok d r1) (hg : g d r1 = some r2) : sAsg fe g r = .next r2 := by
  unfold sAsg; rw [h, Res.toS_ok, hg]; rfl
theorem sSeq_next (h : s r = .next r1) : sSeq s s2 r = s2 r1 := by
  unfold sSeq; rw [h]; rfl
theorem sSeq_ret (h : s r = .ret d r1) : sSeq s s2 r = .ret d r1 := by
  unfold sSeq; rw [h]; rfl
theorem sIf_t (h : t r = .ok true r1) : sIf t s s2 r = s r1 := by
  unfold sIf; rw [h]; rfl
theorem sIf_f (h : t r = .ok false r1) : sIf t s s2 r = s2 r1 := by
  unfold sIf; rw [h]; rfl
theorem seq_next {u : SRes} (h1 : s r = .next r1) (h2 : s2 r1 = u) : sSeq s s2 r = u := (sSeq_next h1).trans h2
theorem seq_ret (h : s r = .ret d r1) : sSeq s s2 r = .ret d r1 := sSeq_ret h
theorem if_t {u : SRes} (h : t r = .ok true r1) (h2 : s r1 = u) : sIf t s s2 r = u := (sIf_t h).trans h2
theorem if_f {u : SRes} (h : t r = .ok false r1) (h2 : s2 r1 = u) : sIf t s s2 r = u := (sIf_f h).trans h2
theorem endF_ret {u : SRes} {Rm : List Nat} {os : List D} (h : u = .ret d r) (ho : outsOf r Rm = some os) : endF Rm u = .ok d os := by
  rw [h]; show retF Rm d r = _; unfold retF; rw [ho]
theorem endF_ret0 {u : SRes} (h : u = .ret d r) : endF [] u = .ok d [] := endF_ret h rfl
theorem sExpr_ok (h : fe r = .ok d r1) : sExpr fe r = .next r1 := by
  unfold sExpr; rw [h]; rfl
theorem sRet_ok (h : fe r = .ok d r1) : sRet fe r = .ret d r1 := by
  unfold sRet; rw [h]; rfl
theorem fBl_ok (h : f r = .ok (.bl k) r1) : fBl f r = .ok k r1 := by
  unfold fBl; rw [h]; rfl
theorem fTru_ok (h : f r = .ok d r1) (ht : truD d = some k) : fTru f r = .ok k r1 := by
  unfold fTru; rw [h, Res.bind_ok]; unfold truR; rw [ht]
theorem fNot_ok (h : t r = .ok k r1) : fNot t r = .ok (!k) r1 := by
  unfold fNot; rw [h]; rfl
theorem fAnd_t (h1 : ta r = .ok true r1) (h2 : tb r1 = .ok k r2) : fAnd ta tb r = .ok k r2 := by
  unfold fAnd; rw [h1, Res.bind_ok]; exact h2
theorem fAnd_f (h1 : ta r = .ok false r1) : fAnd ta tb r = .ok false r1 := by
  unfold fAnd; rw [h1]; rfl
theorem fOr_f (h1 : ta r = .ok false r1) (h2 : tb r1 = .ok k r2) : fOr ta tb r = .ok k r2 := by
  unfold fOr; rw [h1, Res.bind_ok]; exact h2
theorem fOr_t (h1 : ta r = .ok true r1) : fOr ta tb r = .ok true r1 := by
  unfold fOr; rw [h1]; rfl
theorem fIf_t (h1 : t r = .ok true r1) (h2 : fa r1 = .ok d r2) : fIf t fa fb r = .ok d r2 := by
  unfold fIf; rw [h1, Res.bind_ok]; exact h2
theorem fIf_f (h1 : t r = .ok false r1) (h2 : fb r1 = .ok d r2) : fIf t fa fb r = .ok d r2 := by
  unfold fIf; rw [h1, Res.bind_ok]; exact h2
theorem fM1_ok {g : Str → D → Option D} {a : Str} (h1 : fa r = .ok (.str a) r1) (h2 : fb r1 = .ok y r2) (h3 : g a y = some z) : fM1 g fa fb r = .ok z r2 := by
  unfold fM1; rw [h1, Res.bind_ok]; show (fb r1).bind _ = _; rw [h2, Res.bind_ok, h3]; rfl
theorem fSeq_ok (h : f r = .ok d r1) (hs : seqD d = some ds) : fSeq f r = .ok ds r1 := by
  unfold fSeq; rw [h, Res.bind_ok, hs]; rfl
theorem fArgL_ok {g : List D → Option (List D)} {zs : List D} (h : fs r = .ok ds r1) (hs : g ds = some zs) : fArgL g fs r = .ok zs r1 := by
  unfold fArgL; rw [h, Res.bind_ok, hs]; rfl
theorem sFor_ok {fi : Env → Res (List D)} {g : D → Env → Option Env} (h : fi r = .ok ds r1) : sFor fi g s r = forGo g s ds r1 := by
  unfold sFor; rw [h]; rfl
theorem fLc_ok {fi : Env → Res (List D)} {g : D → Env → Option Env} {vs : List Nat} (h : fi r = .ok ds r1) (hp : pureAt r1 vs = true) : fLc fi g t fe vs r = lcGo g t fe vs ds r1 [] := by
  unfold fLc; rw [h, Res.bind_ok, if_pos hp]
theorem for_ok {fi : Env → Res (List D)} {g : D → Env → Option Env} {u : SRes} (h : fi r = .ok ds r1) (h2 : forGo g s ds r1 = u) : sFor fi g s r = u := (sFor_ok h).trans h2
theorem lc_ok {fi : Env → Res (List D)} {g : D → Env → Option Env} {vs : List Nat} {u : Res D} (h : fi r = .ok ds r1) (hp : pureAt r1 vs = true) (h2 : lcGo g t fe vs ds r1 [] = u) : fLc fi g t fe vs r = u := (fLc_ok h hp).trans h2
theorem fSl_ok {fl fh : Env → Res OI} {lo hi : OI} {r3 : Env} (h : f r = .ok d r1) (h1 : fl r1 = .ok lo r2) (h2 : fh r2 = .ok hi r3) (h3 : gSl d lo hi = some z) : fSl f fl fh r = .ok z r3 := by
  unfold fSl; rw [h, Res.bind_ok, h1, Res.bind_ok, h2, Res.bind_ok, h3]; rfl
theorem fSomeP_ok {i : Int} (h : f r = .ok (.int i) r1) : fSomeP f r = .ok (some i) r1 := by
  unfold fSomeP; rw [h]; rfl
end

/-! ### logs -/
inductive Lg where
  | nil
  | mv (w : Int) (l : List (Int × Int)) (r : Lg)
  | rd (k : Int) (i : Lg) (r : Lg)
def encP (p : Int × Int) : D := .tup [.int p.1, .int p.2]
def encM (w : Int) (l : List (Int × Int)) : D := .tup [.int w, .tup (l.map encP)]
def encR (k : Int) (i : List D) : D := .tup [.str "times", .int k, .tup i]
def enc : Lg → List D
  | .nil => []
  | .mv w l r => encM w l :: enc r
  | .rd k i r => encR k (enc i) :: enc r
def LdOk : Int → List (Int × Int) → Prop
  | _, [] => True
  | a, p :: r => a < p.1 ∧ p.1 ≤ 40 ∧ 1 ≤ p.2 ∧ p.2 ≤ 1000000000000000000000000000000 ∧ LdOk p.1 r
theorem LdOk.ge : ∀ {l : List (Int × Int)} {a : Int}, LdOk a l → ∀ p ∈ l, a < p.1 ∧ p.1 ≤ 40 ∧ 1 ≤ p.2 ∧ p.2 ≤ 1000000000000000000000000000000
  | q :: l, a, h, p, m => by
    obtain ⟨h1, h0, h2, h3, h4⟩ := h
    rcases List.mem_cons.mp m with rfl | m
    · exact ⟨h1, h0, h2, h3⟩
    · have := LdOk.ge h4 p m
      exact ⟨by omega, this.2⟩
theorem pure_map {α : Type} {f : α → D} (h : ∀ a, (f a).pure = true) : ∀ l : List α, pureL (l.map f) = true
  | [] => rfl
  | a :: l => by rw [List.map_cons]; show ((f a).pure && pureL (l.map f)) = true; rw [h, pure_map h l]; rfl
theorem encP_pure (p : Int × Int) : (encP p).pure = true := rfl
theorem encM_pure (w : Int) (l : List (Int × Int)) : (encM w l).pure = true := by
  show (true && (pureL (l.map encP) && true)) = true
  rw [pure_map encP_pure]; rfl
theorem enc_pure : ∀ L : Lg, pureL (enc L) = true
  | .nil => rfl
  | .mv w l r => by show ((encM w l).pure && pureL (enc r)) = true; rw [encM_pure, enc_pure r]; rfl
  | .rd k i r => by
    show ((true && (true && (pureL (enc i) && true))) && pureL (enc r)) = true
    rw [enc_pure i, enc_pure r]; rfl

/-! ### houses, moves -/
theorem e_is_integer (n : Int) : F_is_integer [.int n] = .ok (.bl true) [] := rfl
theorem e_is_within {n lo hi : Int} (h1 : lo ≤ n) (h2 : n ≤ hi) : F_is_within F_is_integer [.int n, .int lo, .int hi] = .ok (.bl true) [] := by
  simp [F_is_within, fb_is_within, e_is_integer, fnF, sSeq, SRes.seq, sRet, sRetN, sAsg, optS, sAug, augAdd, augSub, sIf, sFor, sNil, sBad, sExpr, fAndV, fOrV, fNotV, fNeg, fUser, fCons, fNil, fVar, fC, fPure, fTup, fLst, szOk, fTru, truR, truD, fBl, fBin, fChain, fAnd, fOr, fNot, fIf, fCall, fIsi, fIsi2, isR, isR2, isTy_non, isTy_bl, isTy_int, isTy_str, isTy_tup, isTy_lst, tyTab, dLe, dLt, dGt, dGe, iBin, dIsN, dNotN, dAdd, dSub, dMod, dLen, dIx, initE, argPure, oneImp, endF, retF, outsOf, D.pure, pureL, gN, gTp, gsCons, gsNil, fSl, gSl, fSomeP, fNoP, fSeq, seqD_tup, seqD_lst, fArgL, gZip, optL, fM1, fLc, pureAt, Res.bind_ok, Res.bind_bad, Res.bind_exc, Res.toS_ok, Res.toS_bad, Res.toS_exc, optR, h1, h2]
theorem e_is_way {w : Int} (h : w = 1 ∨ w = -1) : F_is_way F_is_integer [.int w] = .ok (.bl true) [] := by
  rcases h with rfl | rfl <;> rfl
theorem atI0 {α : Type} {a : α} {l : List α} : atI (a :: l) 0 = some a := atI_nat (j := 0) rfl
theorem atI1 {α : Type} {a b : α} {l : List α} : atI (a :: b :: l) 1 = some b := atI_nat (j := 1) rfl
theorem atI2 {α : Type} {a b c : α} {l : List α} : atI (a :: b :: c :: l) 2 = some c := atI_nat (j := 2) rfl
theorem lb_aboard {p : Int × Int} {t c d : Option D} (h0 : 0 ≤ p.1) (h1 : 1 ≤ p.2) : lb_is_aboard_1 F_is_integer [t, some (encP p), c, d] = .next [t, some (encP p), c, d] := by
  have e1 : ¬ p.1 < 0 := by omega
  have e2 : ¬ p.2 < 1 := by omega
  simp [lb_is_aboard_1, encP, e_is_integer, fnF, sSeq, SRes.seq, sRet, sRetN, sAsg, optS, sAug, augAdd, augSub, sIf, sFor, sNil, sBad, sExpr, fAndV, fOrV, fNotV, fNeg, fUser, fCons, fNil, fVar, fC, fPure, fTup, fLst, szOk, fTru, truR, truD, fBl, fBin, fChain, fAnd, fOr, fNot, fIf, fCall, fIsi, fIsi2, isR, isR2, isTy_non, isTy_bl, isTy_int, isTy_str, isTy_tup, isTy_lst, tyTab, dLe, dLt, dGt, dGe, iBin, dIsN, dNotN, dAdd, dSub, dMod, dLen, dIx, initE, argPure, oneImp, endF, retF, outsOf, D.pure, pureL, gN, gTp, gsCons, gsNil, fSl, gSl, fSomeP, fNoP, fSeq, seqD_tup, seqD_lst, fArgL, gZip, optL, fM1, fLc, pureAt, Res.bind_ok, Res.bind_bad, Res.bind_exc, Res.toS_ok, Res.toS_bad, Res.toS_exc, optR, atI0, atI1, dNe, eqB, sEq, e1, e2]
theorem go_aboard {t c d : Option D} : ∀ {l : List (Int × Int)} {o : Option D}, (∀ p ∈ l, 0 ≤ p.1 ∧ 1 ≤ p.2) → ∃ o', forGo (gN 1) (lb_is_aboard_1 F_is_integer) (l.map encP) [t, o, c, d] = .next [t, o', c, d]
  | [], o, _ => ⟨o, rfl⟩
  | p :: l, o, h => by
    rw [List.map_cons, forGo_cons]
    show ∃ o', (match lb_is_aboard_1 F_is_integer [t, some (encP p), c, d] with
      | .next r2 => forGo (gN 1) (lb_is_aboard_1 F_is_integer) (l.map encP) r2
      | .cont r2 => forGo (gN 1) (lb_is_aboard_1 F_is_integer) (l.map encP) r2
      | .brk r2 => .next r2
      | .ret v r2 => .ret v r2
      | .exc c fs vs r2 => .exc c fs vs r2
      | .bad => .bad) = _
    rw [lb_aboard (h p List.mem_cons_self).1 (h p List.mem_cons_self).2]
    exact go_aboard fun q m => h q (List.mem_cons_of_mem _ m)
theorem asc_pairs : ∀ {l : List (Int × Int)} {a : Int}, LdOk a l → ∀ d ∈ pairD (l.map encP) ((l.map encP).drop 1), ∃ p q : Int × Int, d = .tup [encP p, encP q] ∧ p.1 < q.1
  | [], a, h, d, m => by simp [pairD] at m
  | [p], a, h, d, m => by simp [pairD] at m
  | p :: q :: l, a, h, d, m => by
    have m' : d ∈ D.tup [encP p, encP q] :: pairD ((q :: l).map encP) (((q :: l).map encP).drop 1) := m
    rcases List.mem_cons.mp m' with rfl | m'
    · exact ⟨p, q, rfl, h.2.2.2.2.1⟩
    · exact asc_pairs h.2.2.2.2 d m'
theorem cutD_1 (xs : List D) : cutD xs (some 1) none = xs.tail := by
  unfold cutD HT.sIx
  cases xs with
  | nil => simp
  | cons x xs => simp
theorem lc_aboard {t o : Option D} {ds : List D} (h : ∀ d ∈ ds, ∃ p q : Int × Int, d = .tup [encP p, encP q] ∧ p.1 < q.1) (hl : ds.length ≤ 16777216) :
    lcGo (gTp 2 (gsCons (gN 2) (gsCons (gN 3) gsNil))) tTrue (le_is_aboard_1 F_is_integer) [2, 3] ds [t, o, none, none] [] = .ok (.lst (ds.map fun _ => .bl true)) [t, o, none, none] := by
  have q := lcGo_map (g := gTp 2 (gsCons (gN 2) (gsCons (gN 3) gsNil))) (fe := le_is_aboard_1 F_is_integer) (vs := [2, 3]) (h := fun _ => .bl true) (r := [t, o, none, none]) (ds := ds) (acc := []) (fun d m => ?_) (fun _ _ => rfl) (by simpa using hl)
  · rw [q, List.nil_append]
  · obtain ⟨p, q, rfl, hlt⟩ := h d m
    refine ⟨[t, o, some (encP p), some (encP q)], rfl, ?_, rfl⟩
    simp [le_is_aboard_1, encP, fnF, sSeq, SRes.seq, sRet, sRetN, sAsg, optS, sAug, augAdd, augSub, sIf, sFor, sNil, sBad, sExpr, fAndV, fOrV, fNotV, fNeg, fUser, fCons, fNil, fVar, fC, fPure, fTup, fLst, szOk, fTru, truR, truD, fBl, fBin, fChain, fAnd, fOr, fNot, fIf, fCall, fIsi, fIsi2, isR, isR2, isTy_non, isTy_bl, isTy_int, isTy_str, isTy_tup, isTy_lst, tyTab, dLe, dLt, dGt, dGe, iBin, dIsN, dNotN, dAdd, dSub, dMod, dLen, dIx, initE, argPure, oneImp, endF, retF, outsOf, D.pure, pureL, gN, gTp, gsCons, gsNil, fSl, gSl, fSomeP, fNoP, fSeq, seqD_tup, seqD_lst, fArgL, gZip, optL, fM1, fLc, pureAt, Res.bind_ok, Res.bind_bad, Res.bind_exc, Res.toS_ok, Res.toS_bad, Res.toS_exc, optR, atI0, hlt]
theorem e_is_aboard {l : List (Int × Int)} (h : LdOk (-1) l) (hl : l.length ≤ 100) : F_is_aboard F_is_integer [.tup (l.map encP)] = .ok (.bl true) [] := by
  obtain ⟨o', e⟩ := go_aboard (t := some (.tup (l.map encP))) (c := none) (d := none) (l := l) (o := none) fun p m => ⟨by have := h.ge p m; omega, (h.ge p m).2.2.1⟩
  have e2 := lc_aboard (t := some (.tup (l.map encP))) (o := o') (asc_pairs h) (by simp [pairD]; omega)
  have hp : pureL (l.map encP) = true := pure_map encP_pure l
  have hp1 : pureL (l.map encP).tail = true := by rw [← List.drop_one]; exact pureL_drop 1 hp
  rw [List.drop_one] at e2
  simp only [F_is_aboard, fb_is_aboard, fnF, sSeq, SRes.seq, sRet, sRetN, sAsg, optS, sAug, augAdd, augSub, sIf, sFor, sNil, sBad, sExpr, fAndV, fOrV, fNotV, fNeg, fUser, fCons, fNil, fVar, fC, fPure, fTup, fLst, szOk, fTru, truR, truD, fBl, fBin, fChain, fAnd, fOr, fNot, fIf, fCall, fIsi, fIsi2, isR, isR2, isTy_non, isTy_bl, isTy_int, isTy_str, isTy_tup, isTy_lst, tyTab, dLe, dLt, dGt, dGe, iBin, dIsN, dNotN, dAdd, dSub, dMod, dLen, dIx, initE, argPure, oneImp, endF, retF, outsOf, D.pure, pureL, gN, gTp, gsCons, gsNil, fSl, gSl, fSomeP, fNoP, fSeq, seqD_tup, seqD_lst, fArgL, gZip, optL, fM1, fLc, pureAt, Res.bind_ok, Res.bind_bad, Res.bind_exc, Res.toS_ok, Res.toS_bad, Res.toS_exc, optR, hp, hp1, List.getElem?_cons_zero, List.getElem?_cons_succ]
  simp [fnF, sSeq, SRes.seq, sRet, sRetN, sAsg, optS, sAug, augAdd, augSub, sIf, sFor, sNil, sBad, sExpr, fAndV, fOrV, fNotV, fNeg, fUser, fCons, fNil, fVar, fC, fPure, fTup, fLst, szOk, fTru, truR, truD, fBl, fBin, fChain, fAnd, fOr, fNot, fIf, fCall, fIsi, fIsi2, isR, isR2, isTy_non, isTy_bl, isTy_int, isTy_str, isTy_tup, isTy_lst, tyTab, dLe, dLt, dGt, dGe, iBin, dIsN, dNotN, dAdd, dSub, dMod, dLen, dIx, initE, argPure, oneImp, endF, retF, outsOf, D.pure, pureL, gN, gTp, gsCons, gsNil, fSl, gSl, fSomeP, fNoP, fSeq, seqD_tup, seqD_lst, fArgL, gZip, optL, fM1, fLc, pureAt, Res.bind_ok, Res.bind_bad, Res.bind_exc, Res.toS_ok, Res.toS_bad, Res.toS_exc, optR, hp, hp1, e, cutD_1, e2, dAll_true]
end DL

set_option Elab.async false
set_option linter.all false
set_option maxRecDepth 100000
set_option maxHeartbeats 1000000
namespace DL
open PySem PySem.Spec L2

def LOk : Lg → Nat → Prop
  | .nil, _ => True
  | .mv w l r, d => (w = 1 ∨ w = -1) ∧ LdOk (-1) l ∧ l.length ≤ 3 ∧ LOk r d
  | .rd k i r, d => 1 ≤ k ∧ k ≤ 1000000000000000000000000000000 ∧ i ≠ .nil ∧ (∃ e, d = e + 1 ∧ LOk i e) ∧ LOk r d
def wt : Lg → Nat
  | .nil => 0
  | .mv _ _ r => wt r
  | .rd _ i r => 1 + wt i + wt r
def mvs : Lg → Nat
  | .nil => 0
  | .mv _ _ r => 1 + mvs r
  | .rd _ i r => mvs i + mvs r
def dm : Lg → Nat
  | .nil => 0
  | .mv _ _ r => 1 + dm r
  | .rd _ i r => dm r
def inner : Lg → Nat → List (Lg × Nat)
  | .nil, _ => []
  | .mv _ _ r, d => inner r d
  | .rd _ i r, d => (i, d + 1) :: inner r d
def wts : List (Lg × Nat) → Nat
  | [] => 0
  | x :: s => 1 + wt x.1 + wts s
def mvsS : List (Lg × Nat) → Nat
  | [] => 0
  | x :: s => mvs x.1 + mvsS s
theorem wts_app : ∀ a b : List (Lg × Nat), wts (a ++ b) = wts a + wts b
  | [], b => by simp [wts]
  | x :: a, b => by simp [wts, wts_app a b]; omega
theorem mvsS_app : ∀ a b : List (Lg × Nat), mvsS (a ++ b) = mvsS a + mvsS b
  | [], b => by simp [mvsS]
  | x :: a, b => by simp [mvsS, mvsS_app a b]; omega
theorem wts_inner : ∀ (L : Lg) (d : Nat), wts (inner L d) = wt L
  | .nil, _ => rfl
  | .mv _ _ r, d => wts_inner r d
  | .rd _ i r, d => by simp [inner, wts, wt, wts_inner r d]
theorem mvs_inner : ∀ (L : Lg) (d : Nat), dm L + mvsS (inner L d) = mvs L
  | .nil, _ => rfl
  | .mv _ _ r, d => by have := mvs_inner r d; simp [inner, mvs, dm]; omega
  | .rd _ i r, d => by have := mvs_inner r d; simp [inner, mvs, dm, mvsS]; omega
theorem len_wts : ∀ s : List (Lg × Nat), s.length ≤ wts s
  | [] => Nat.le_refl _
  | x :: s => by have := len_wts s; simp [wts]; omega
theorem inner_ok : ∀ {L : Lg} {e d : Nat}, LOk L e → ∀ x ∈ inner L d, x.2 = d + 1 ∧ ∃ e', e = e' + 1 ∧ LOk x.1 e'
  | .mv _ _ r, e, d, h, x, m => inner_ok h.2.2.2 x m
  | .rd _ i r, e, d, h, x, m => by
    rcases List.mem_cons.mp m with rfl | m
    · exact ⟨rfl, h.2.2.2.1⟩
    · exact inner_ok h.2.2.2.2 x m
def encX (x : Lg × Nat) : D := .tup [.tup (enc x.1), .int x.2]
theorem encX_pure (x : Lg × Nat) : (encX x).pure = true := by
  show (pureL (enc x.1) && (true && true)) = true
  rw [enc_pure]; rfl

/-! == with an empty list -/
theorem pEq_nil : pEq (.lst []) (.lst []) = some true := by
  have e2 : (D.lst []).toP = some (.list []) := by simp [D.toP, toPL]
  have l' : (PyData.list []).canLay0 = true := by simp [PyData.canLay0, PyData.canLayAll0]
  have dd : (PyData.list []).depth ≤ 64 := by decide +kernel
  unfold pEq
  rw [e2]
  simp [l', dd, PyData.eqv, PyData.eqvAll]
theorem ne0_nil : dNe (.lst []) (.lst []) = some (.bl false) := by
  unfold dNe eqB sEq
  rw [pEq_nil]; rfl
theorem eq0_nil : dEq (.lst []) (.lst []) = some (.bl true) := by
  unfold dEq eqB sEq
  rw [pEq_nil]; rfl
theorem pEq_cons {a : D} {as : List D} {p : PyData} {ps : List PyData} (h1 : a.toP = some p) (h2 : toPL as = some ps) (l1 : p.canLay0 = true) (l2 : PyData.canLayAll0 ps = true) : pEq (.lst (a :: as)) (.lst []) = some false := by
  have e1 : (D.lst (a :: as)).toP = some (.list (p :: ps)) := by simp [D.toP, toPL, h1, h2]
  have e2 : (D.lst []).toP = some (.list []) := by simp [D.toP, toPL]
  have l : (PyData.list (p :: ps)).canLay0 = true := by simp [PyData.canLay0, PyData.canLayAll0, l1, l2]
  have l' : (PyData.list []).canLay0 = true := by simp [PyData.canLay0, PyData.canLayAll0]
  have dd : min (PyData.list (p :: ps)).depth (PyData.list []).depth ≤ 64 := Nat.le_trans (Nat.min_le_right _ _) (by decide +kernel)
  unfold pEq
  rw [e1, e2]
  simp [l, l', dd, PyData.eqv, PyData.eqvAll]
theorem ne0_cons {a : D} {as : List D} {p : PyData} {ps : List PyData} (h1 : a.toP = some p) (h2 : toPL as = some ps) (l1 : p.canLay0 = true) (l2 : PyData.canLayAll0 ps = true) : dNe (.lst (a :: as)) (.lst []) = some (.bl true) := by
  unfold dNe eqB sEq
  rw [pEq_cons h1 h2 l1 l2]
  rfl
def LayD (d : D) : Prop := ∃ p, d.toP = some p ∧ p.canLay0 = true
def LayL (ds : List D) : Prop := ∃ ps, toPL ds = some ps ∧ PyData.canLayAll0 ps = true
theorem LayL.nil : LayL [] := ⟨[], by simp [toPL], by simp [PyData.canLayAll0]⟩
theorem LayL.cons {d : D} {ds : List D} (h : LayD d) (t : LayL ds) : LayL (d :: ds) := by
  obtain ⟨p, e, l⟩ := h
  obtain ⟨ps, e2, l2⟩ := t
  exact ⟨p :: ps, by simp [toPL, e, e2], by simp [PyData.canLayAll0, l, l2]⟩
theorem LayD.tup {ds : List D} (h : LayL ds) : LayD (.tup ds) := by
  obtain ⟨p, e, l⟩ := h
  exact ⟨.tuple p, by simp [D.toP, e], by simp [PyData.canLay0, l]⟩
theorem LayD.int (i : Int) : LayD (.int i) := ⟨.int i, by simp [D.toP], by simp [PyData.canLay0]⟩
theorem LayD.times : LayD (.str "times") := ⟨.str "times", by simp [D.toP], by simp [PyData.canLay0]; decide +kernel⟩
theorem LayL.ld : ∀ l : List (Int × Int), LayL (l.map encP)
  | [] => .nil
  | p :: l => .cons (.tup (.cons (.int _) (.cons (.int _) .nil))) (LayL.ld l)
theorem LayL.log : ∀ L : Lg, LayL (enc L)
  | .nil => .nil
  | .mv w l r => .cons (.tup (.cons (.int _) (.cons (.tup (LayL.ld l)) .nil))) (LayL.log r)
  | .rd k i r => .cons (.tup (.cons .times (.cons (.int _) (.cons (.tup (LayL.log i)) .nil)))) (LayL.log r)
theorem LayL.st : ∀ s : List (Lg × Nat), LayL (s.map encX)
  | [] => .nil
  | x :: s => .cons (.tup (.cons (.tup (LayL.log _)) (.cons (.int _) .nil))) (LayL.st s)
theorem ne_st {s : List (Lg × Nat)} (h : s ≠ []) : dNe (.lst (s.map encX)) (.lst []) = some (.bl true) := by
  cases s with
  | nil => exact absurd rfl h
  | cons x s =>
    obtain ⟨p, e, l⟩ : LayD (encX x) := .tup (.cons (.tup (LayL.log _)) (.cons (.int _) .nil))
    obtain ⟨ps, e2, l2⟩ := LayL.st s
    exact ne0_cons e e2 l l2

/-! ### the parts of a log -/
abbrev Q_is_within := F_is_within F_is_integer
abbrev Q_is_way := F_is_way F_is_integer
abbrev Q_is_aboard := F_is_aboard F_is_integer
abbrev Q_is_rounds := F_is_rounds Q_is_within
abbrev Q_is_built_move := F_is_built_move Q_is_way Q_is_aboard
theorem len_enc_ne {i : Lg} (h : i ≠ .nil) : 0 < (enc i).length := by
  cases i with
  | nil => exact absurd rfl h
  | mv w l r => exact Nat.succ_pos _
  | rd k i r => exact Nat.succ_pos _
theorem e_is_rounds {k : Int} {i : Lg} (h1 : 1 ≤ k) (h2 : k ≤ 1000000000000000000000000000000) (h3 : i ≠ .nil) : Q_is_rounds [encR k (enc i)] = .ok (.bl true) [] := by
  have e := e_is_within h1 h2
  have l := len_enc_ne h3
  simp [Q_is_rounds, F_is_rounds, fb_is_rounds, encR, fnF, sSeq, SRes.seq, sRet, sRetN, sAsg, optS, sAug, augAdd, augSub, sIf, sFor, sNil, sBad, sExpr, fAndV, fOrV, fNotV, fNeg, fUser, fCons, fNil, fVar, fC, fPure, fTup, fLst, szOk, fTru, truR, truD, fBl, fBin, fChain, fAnd, fOr, fNot, fIf, fCall, fIsi, fIsi2, isR, isR2, isTy_non, isTy_bl, isTy_int, isTy_str, isTy_tup, isTy_lst, tyTab, dLe, dLt, dGt, dGe, iBin, dIsN, dNotN, dAdd, dSub, dMod, dLen, dIx, initE, argPure, oneImp, endF, retF, outsOf, D.pure, pureL, gN, gTp, gsCons, gsNil, fSl, gSl, fSomeP, fNoP, fSeq, seqD_tup, seqD_lst, fArgL, gZip, optL, fM1, fLc, pureAt, Res.bind_ok, Res.bind_bad, Res.bind_exc, Res.toS_ok, Res.toS_bad, Res.toS_exc, optR, atI0, atI1, atI2, dNe, eqB, sEq, e, enc_pure, l]
theorem e_not_rounds {w : Int} {l : List (Int × Int)} : Q_is_rounds [encM w l] = .ok (.bl false) [] := by
  simp [Q_is_rounds, F_is_rounds, fb_is_rounds, encM, fnF, sSeq, SRes.seq, sRet, sRetN, sAsg, optS, sAug, augAdd, augSub, sIf, sFor, sNil, sBad, sExpr, fAndV, fOrV, fNotV, fNeg, fUser, fCons, fNil, fVar, fC, fPure, fTup, fLst, szOk, fTru, truR, truD, fBl, fBin, fChain, fAnd, fOr, fNot, fIf, fCall, fIsi, fIsi2, isR, isR2, isTy_non, isTy_bl, isTy_int, isTy_str, isTy_tup, isTy_lst, tyTab, dLe, dLt, dGt, dGe, iBin, dIsN, dNotN, dAdd, dSub, dMod, dLen, dIx, initE, argPure, oneImp, endF, retF, outsOf, D.pure, pureL, gN, gTp, gsCons, gsNil, fSl, gSl, fSomeP, fNoP, fSeq, seqD_tup, seqD_lst, fArgL, gZip, optL, fM1, fLc, pureAt, Res.bind_ok, Res.bind_bad, Res.bind_exc, Res.toS_ok, Res.toS_bad, Res.toS_exc, optR, atI0, atI1, atI2, dNe, eqB, sEq, pure_map encP_pure]
theorem e_is_built_move {w : Int} {l : List (Int × Int)} (h : w = 1 ∨ w = -1) (hl : LdOk (-1) l) (h3 : l.length ≤ 3) : Q_is_built_move [encM w l] = .ok (.bl true) [] := by
  have e1 := e_is_way h
  have e2 := e_is_aboard hl (by omega)
  simp [Q_is_built_move, F_is_built_move, fb_is_built_move, encM, fnF, sSeq, SRes.seq, sRet, sRetN, sAsg, optS, sAug, augAdd, augSub, sIf, sFor, sNil, sBad, sExpr, fAndV, fOrV, fNotV, fNeg, fUser, fCons, fNil, fVar, fC, fPure, fTup, fLst, szOk, fTru, truR, truD, fBl, fBin, fChain, fAnd, fOr, fNot, fIf, fCall, fIsi, fIsi2, isR, isR2, isTy_non, isTy_bl, isTy_int, isTy_str, isTy_tup, isTy_lst, tyTab, dLe, dLt, dGt, dGe, iBin, dIsN, dNotN, dAdd, dSub, dMod, dLen, dIx, initE, argPure, oneImp, endF, retF, outsOf, D.pure, pureL, gN, gTp, gsCons, gsNil, fSl, gSl, fSomeP, fNoP, fSeq, seqD_tup, seqD_lst, fArgL, gZip, optL, fM1, fLc, pureAt, Res.bind_ok, Res.bind_bad, Res.bind_exc, Res.toS_ok, Res.toS_bad, Res.toS_exc, optR, atI0, atI1, dEq, eqB, sEq, pure_map encP_pure, e1, e2]

/-! ### written_in -/
abbrev WB (fu : Nat) := lb_written_in_1 Q_is_rounds Q_is_built_move fu
theorem wb_mv {fu : Nat} {t o3 : Option D} {ws : List D} {f d : Int} {w : Int} {l : List (Int × Int)} (h : w = 1 ∨ w = -1) (hl : LdOk (-1) l) (h3 : l.length ≤ 3) :
    WB fu [t, some (.lst ws), some (.int f), o3, some (.int d), some (encM w l)] = .next [t, some (.lst ws), some (.int (f + 1)), o3, some (.int d), some (encM w l)] := by
  have e1 := @e_not_rounds w l
  have e2 := e_is_built_move h hl h3
  simp [WB, lb_written_in_1, fnF, sSeq, SRes.seq, sRet, sRetN, sAsg, optS, sAug, augAdd, augSub, sIf, sFor, sNil, sBad, sExpr, fAndV, fOrV, fNotV, fNeg, fUser, fCons, fNil, fVar, fC, fPure, fTup, fLst, szOk, fTru, truR, truD, fBl, fBin, fChain, fAnd, fOr, fNot, fIf, fCall, fIsi, fIsi2, isR, isR2, isTy_non, isTy_bl, isTy_int, isTy_str, isTy_tup, isTy_lst, tyTab, dLe, dLt, dGt, dGe, iBin, dIsN, dNotN, dAdd, dSub, dMod, dLen, dIx, initE, argPure, oneImp, endF, retF, outsOf, D.pure, pureL, gN, gTp, gsCons, gsNil, fSl, gSl, fSomeP, fNoP, fSeq, seqD_tup, seqD_lst, fArgL, gZip, optL, fM1, fLc, pureAt, Res.bind_ok, Res.bind_bad, Res.bind_exc, Res.toS_ok, Res.toS_bad, Res.toS_exc, optR, encM_pure, e1, e2]
theorem wb_rd {fu : Nat} {t o3 : Option D} {ws : List D} {f d : Int} {k : Int} {i : Lg} (h1 : 1 ≤ k) (h2 : k ≤ 1000000000000000000000000000000) (h3 : i ≠ .nil) (hw : ws.length < 16777216) :
    WB fu [t, some (.lst ws), some (.int f), o3, some (.int d), some (encR k (enc i))] = .next [t, some (.lst (ws ++ [.tup [.tup (enc i), .int (d + 1)]])), some (.int f), o3, some (.int d), some (encR k (enc i))] := by
  have e1 := e_is_rounds h1 h2 h3
  have hp : (encR k (enc i)).pure = true := by simp [encR, D.pure, pureL, enc_pure]
  have ex : dIx (encR k (enc i)) (.int 2) = some (.tup (enc i)) := atI2
  have et : fTru (fUser 1 Q_is_rounds (fCons (fVar 5) fNil)) [t, some (.lst ws), some (.int f), o3, some (.int d), some (encR k (enc i))] = .ok true [t, some (.lst ws), some (.int f), o3, some (.int d), some (encR k (enc i))] := by
    simp [fnF, sSeq, SRes.seq, sRet, sRetN, sAsg, optS, sAug, augAdd, augSub, sIf, sFor, sNil, sBad, sExpr, fAndV, fOrV, fNotV, fNeg, fUser, fCons, fNil, fVar, fC, fPure, fTup, fLst, szOk, fTru, truR, truD, fBl, fBin, fChain, fAnd, fOr, fNot, fIf, fCall, fIsi, fIsi2, isR, isR2, isTy_non, isTy_bl, isTy_int, isTy_str, isTy_tup, isTy_lst, tyTab, dLe, dLt, dGt, dGe, iBin, dIsN, dNotN, dAdd, dSub, dMod, dLen, dIx, initE, argPure, oneImp, endF, retF, outsOf, D.pure, pureL, gN, gTp, gsCons, gsNil, fSl, gSl, fSomeP, fNoP, fSeq, seqD_tup, seqD_lst, fArgL, gZip, optL, fM1, fLc, pureAt, Res.bind_ok, Res.bind_bad, Res.bind_exc, Res.toS_ok, Res.toS_bad, Res.toS_exc, optR, hp, e1]
  have eh : fHold 1 (fTup (fCons (fPure (fBin dIx (fVar 5) (fC (.int 2)))) (fCons (fBin dAdd (fVar 4) (fC (.int 1))) fNil))) [t, some (.lst ws), some (.int f), o3, some (.int d), some (encR k (enc i))] = .ok (.tup [.tup (enc i), .int (d + 1)]) [t, some (.lst ws), some (.int f), o3, some (.int d), some (encR k (enc i))] := by
    simp only [fBin, fVar, fC, fPure, fCons, fNil, fTup, fHold, List.getElem?_cons_zero, List.getElem?_cons_succ, Res.bind_ok, ex, optR, dAdd, D.pure, enc_pure, if_true]
    simp [szOk]
  have ea : fApp 1 pR (fHold 1 (fTup (fCons (fPure (fBin dIx (fVar 5) (fC (.int 2)))) (fCons (fBin dAdd (fVar 4) (fC (.int 1))) fNil)))) [t, some (.lst ws), some (.int f), o3, some (.int d), some (encR k (enc i))] = .ok .non [t, some (.lst (ws ++ [.tup [.tup (enc i), .int (d + 1)]])), some (.int f), o3, some (.int d), some (encR k (enc i))] := by
    unfold fApp pR
    simp only [List.getElem?_cons_zero, List.getElem?_cons_succ, D.at, eh, Res.bind_ok, hw, if_true, D.put]
    simp
  unfold WB lb_written_in_1
  unfold sSeq sIf
  rw [et]
  simp only [Res.toS_ok, if_true, sExpr, ea, SRes.seq, sNil]
theorem wb_go {fu : Nat} {t o3 : Option D} {d : Nat} : ∀ {L : Lg} {e : Nat} {s : List (Lg × Nat)} {f : Int} {o : Option D}, LOk L e → (s ++ inner L d).length < 16777216 →
    ∃ o', forGo (gN 5) (WB fu) (enc L) [t, some (.lst (s.map encX)), some (.int f), o3, some (.int d), o] = .next [t, some (.lst ((s ++ inner L d).map encX)), some (.int (f + dm L)), o3, some (.int d), o']
  | .nil, e, s, f, o, _, _ => ⟨o, by simp [enc, inner, dm, forGo_nil]⟩
  | .mv w l r, e, s, f, o, h, hs => by
    obtain ⟨o', q⟩ := wb_go (fu := fu) (t := t) (o3 := o3) (d := d) (f := f + 1) (o := some (encM w l)) h.2.2.2 hs
    refine ⟨o', ?_⟩
    show forGo (gN 5) (WB fu) (encM w l :: enc r) _ = _
    rw [forGo_cons]
    simp only [gN, List.set_cons_succ, List.set_cons_zero, wb_mv h.1 h.2.1 h.2.2.1]
    rw [q]
    simp [inner, dm]
    omega
  | .rd k i r, e, s, f, o, h, hs => by
    have e1 : s ++ inner (.rd k i r) d = (s ++ [(i, d + 1)]) ++ inner r d := by simp [inner]
    rw [e1] at hs ⊢
    obtain ⟨o', q⟩ := wb_go (fu := fu) (t := t) (o3 := o3) (d := d) (s := s ++ [(i, d + 1)]) (f := f) (o := some (encR k (enc i))) h.2.2.2.2 hs
    refine ⟨o', ?_⟩
    show forGo (gN 5) (WB fu) (encR k (enc i) :: enc r) _ = _
    rw [forGo_cons]
    have hl : (s.map encX).length < 16777216 := by simp at hs ⊢; omega
    simp only [gN, List.set_cons_succ, List.set_cons_zero, wb_rd h.1 h.2.1 h.2.2.1 hl]
    have e2 : s.map encX ++ [D.tup [.tup (enc i), .int ((d : Int) + 1)]] = (s ++ [(i, d + 1)]).map encX := by simp [encX]
    rw [e2, q]
    simp [dm]
abbrev WH (fu : Nat) := lb_written_in_2 Q_is_rounds Q_is_built_move fu
theorem wh_step {fu : Nat} {t o3 o4 o5 : Option D} {s : List (Lg × Nat)} {L : Lg} {d e f : Nat} (h : LOk L e) (hd : d ≤ 3) (hf : f + dm L ≤ 200) (hs : (s ++ inner L d).length ≤ 200) :
    ∃ o', WH fu [t, some (.lst ((s ++ [(L, d)]).map encX)), some (.int f), o3, o4, o5] = .next [t, some (.lst ((s ++ inner L d).map encX)), some (.int ((f + dm L : Nat) : Int)), some (.tup (enc L)), some (.int d), o'] := by
  obtain ⟨o', q⟩ := wb_go (fu := fu) (t := t) (o3 := some (.tup (enc L))) (d := d) (s := s) (f := (f : Int)) (o := o5) h (by omega)
  refine ⟨o', ?_⟩
  have ep : fPop 1 pR [t, some (.lst ((s ++ [(L, d)]).map encX)), some (.int f), o3, o4, o5] = .ok (encX (L, d)) [t, some (.lst (s.map encX)), some (.int f), o3, o4, o5] := by
    unfold fPop pR
    simp only [List.getElem?_cons_zero, List.getElem?_cons_succ, D.at, List.map_append, List.map_cons, List.map_nil, D.put]
    simp
  have e1 : ¬ (200 : Int) < ((f : Int) + dm L) := by omega
  have e2 : ¬ (200 : Int) < ((((s ++ inner L d).map encX).length : Nat) : Int) := by rw [List.length_map]; omega
  have e3 : ¬ (3 : Int) < (d : Int) := by omega
  unfold WH lb_written_in_2
  simp only [sSeq, sAsg, ep, Res.toS_ok, encX, gTp, gsCons, gsNil, gN, List.length_cons, List.length_nil, if_true, Option.bind_some, optS_some, SRes.seq, List.set_cons_succ, List.set_cons_zero]
  simp only [sIf, fOr, fNot, fTru, fIsi, fVar, fBl, fBin, fC, fSeq, List.getElem?_cons_zero, List.getElem?_cons_succ, Res.bind_ok, isR, isTy_tup, truR, truD, dGt, iBin, optR, e3, decide_false, Bool.not_true, sFor, seqD, enc_pure, if_true, optL, Res.toS_ok]
  have q' : forGo (gN 5) (lb_written_in_1 Q_is_rounds Q_is_built_move fu) (enc L) [t, some (.lst (s.map encX)), some (.int f), some (.tup (enc L)), some (.int d), o5] = _ := q
  simp [tyTab, SRes.seq, sNil, q', dLen, fCall, fCons, fNil, Res.bind_ok, fVar, e1]
  have e2' : ¬ (200 : Int) < (s.length : Int) + (inner L d).length := by simp at hs; omega
  simp [enc_pure, q', optR, e1, e2']
theorem wh_go {fu : Nat} {t : Option D} : ∀ {n : Nat} {s : List (Lg × Nat)} {f : Nat} {o3 o4 o5 : Option D}, wts s < n → (∀ x ∈ s, x.2 ≤ 3 ∧ LOk x.1 (3 - x.2)) → f + mvsS s ≤ 200 → wts s ≤ 201 →
    ∃ o3' o4' o5', whileGo (fBl (fBin dNe (fVar 1) (fLst fNil))) (WH fu) n [t, some (.lst (s.map encX)), some (.int f), o3, o4, o5] = .next [t, some (.lst []), some (.int ((f + mvsS s : Nat) : Int)), o3', o4', o5']
  | n + 1, s, f, o3, o4, o5, hn, hk, hf, hw => by
    rw [whileGo_succ]
    by_cases c : s = []
    · subst c
      refine ⟨o3, o4, o5, ?_⟩
      simp [fnF, sSeq, SRes.seq, sRet, sRetN, sAsg, optS, sAug, augAdd, augSub, sIf, sFor, sNil, sBad, sExpr, fAndV, fOrV, fNotV, fNeg, fUser, fCons, fNil, fVar, fC, fPure, fTup, fLst, szOk, fTru, truR, truD, fBl, fBin, fChain, fAnd, fOr, fNot, fIf, fCall, fIsi, fIsi2, isR, isR2, isTy_non, isTy_bl, isTy_int, isTy_str, isTy_tup, isTy_lst, tyTab, dLe, dLt, dGt, dGe, iBin, dIsN, dNotN, dAdd, dSub, dMod, dLen, dIx, initE, argPure, oneImp, endF, retF, outsOf, D.pure, pureL, gN, gTp, gsCons, gsNil, fSl, gSl, fSomeP, fNoP, fSeq, seqD_tup, seqD_lst, fArgL, gZip, optL, fM1, fLc, pureAt, Res.bind_ok, Res.bind_bad, Res.bind_exc, Res.toS_ok, Res.toS_bad, Res.toS_exc, optR, ne0_nil, mvsS]
    · obtain ⟨s0, ⟨L, d⟩, rfl⟩ : ∃ s0 x, s = s0 ++ [x] := ⟨s.dropLast, s.getLast c, (List.dropLast_concat_getLast c).symm⟩
      have kx := hk (L, d) (by simp)
      rw [wts_app] at hn hw
      rw [mvsS_app] at hf ⊢
      simp only [wts, mvsS, Nat.add_zero] at hn hw hf ⊢
      have m1 := mvs_inner L d
      have w1 := wts_inner L d
      have l1 := len_wts (s0 ++ inner L d)
      rw [wts_app] at l1
      obtain ⟨o', e⟩ := wh_step (fu := fu) (t := t) (o3 := o3) (o4 := o4) (o5 := o5) (s := s0) (L := L) (d := d) (f := f) kx.2 kx.1 (by omega) (by omega)
      obtain ⟨a, b, c', q⟩ := wh_go (fu := fu) (t := t) (n := n) (s := s0 ++ inner L d) (f := f + dm L) (o3 := some (.tup (enc L))) (o4 := some (.int d)) (o5 := o') (by rw [wts_app]; omega) (fun x m => by
        rcases List.mem_append.mp m with m | m
        · exact hk x (List.mem_append_left _ m)
        · obtain ⟨e1, e', e2, e3⟩ := inner_ok (d := d) kx.2 x m
          have e4 : 3 - x.2 = e' := by omega
          exact ⟨by omega, by rw [e4]; exact e3⟩) (by rw [mvsS_app]; omega) (by rw [wts_app]; omega)
      refine ⟨a, b, c', ?_⟩
      have ht : fBl (fBin dNe (fVar 1) (fLst fNil)) [t, some (.lst ((s0 ++ [(L, d)]).map encX)), some (.int f), o3, o4, o5] = .ok true [t, some (.lst ((s0 ++ [(L, d)]).map encX)), some (.int f), o3, o4, o5] := by
        have := ne_st c
        simp only [fBl, fBin, fVar, fLst, fNil, List.getElem?_cons_zero, List.getElem?_cons_succ, Res.bind_ok, szOk, List.length_nil]
        simp only [Nat.zero_le, decide_true, if_true, Res.bind_ok, this, optR]
      rw [ht]
      simp only [e]
      rw [q, mvsS_app]
      simp only [← m1, Nat.add_assoc, Nat.add_comm, Nat.add_left_comm]
abbrev Q_written_in (fu : Nat) := F_written_in Q_is_rounds Q_is_built_move fu
theorem e_written_in {fu : Nat} {L : Lg} (h : LOk L 3) (hm : mvs L ≤ 200) (hw : wt L ≤ 200) (hf : 201 < fu) : Q_written_in fu [.tup (enc L)] = .ok (.int (mvs L)) [] := by
  obtain ⟨a, b, c, q⟩ := wh_go (fu := fu) (t := some (.tup (enc L))) (n := fu) (s := [(L, 0)]) (f := 0) (o3 := none) (o4 := none) (o5 := none) (by simp [wts]; omega) (fun x m => by
    rw [List.mem_singleton.mp m]
    exact ⟨by omega, h⟩) (by simp [mvsS]; omega) (by simp [wts]; omega)
  have q' : whileGo (fBl (fBin dNe (fVar 1) (fLst fNil))) (lb_written_in_2 Q_is_rounds Q_is_built_move fu) fu [some (.tup (enc L)), some (.lst [.tup [.tup (enc L), .int 0]]), some (.int 0), none, none, none] = .next [some (.tup (enc L)), some (.lst []), some (.int (mvs L)), a, b, c] := by
    have := q
    simp [mvsS, encX] at this
    exact this
  simp [Q_written_in, F_written_in, fb_written_in, fnF, sSeq, SRes.seq, sRet, sRetN, sAsg, optS, sAug, augAdd, augSub, sIf, sFor, sNil, sBad, sExpr, fAndV, fOrV, fNotV, fNeg, fUser, fCons, fNil, fVar, fC, fPure, fTup, fLst, szOk, fTru, truR, truD, fBl, fBin, fChain, fAnd, fOr, fNot, fIf, fCall, fIsi, fIsi2, isR, isR2, isTy_non, isTy_bl, isTy_int, isTy_str, isTy_tup, isTy_lst, tyTab, dLe, dLt, dGt, dGe, iBin, dIsN, dNotN, dAdd, dSub, dMod, dLen, dIx, initE, argPure, oneImp, endF, retF, outsOf, D.pure, pureL, gN, gTp, gsCons, gsNil, fSl, gSl, fSomeP, fNoP, fSeq, seqD_tup, seqD_lst, fArgL, gZip, optL, fM1, fLc, pureAt, Res.bind_ok, Res.bind_bad, Res.bind_exc, Res.toS_ok, Res.toS_bad, Res.toS_exc, optR, enc_pure, sWhile, List.replicate]
  simp [q']
abbrev Q_check_built (fu : Nat) := F_check_built (Q_written_in fu)
theorem e_check_built {fu : Nat} {L : Lg} (h : LOk L 3) (hm : mvs L ≤ 200) (hw : wt L ≤ 200) (hf : 201 < fu) : Q_check_built fu [.tup (enc L)] = .ok (.tup (enc L)) [] := by
  have e := e_written_in h hm hw hf
  simp [Q_check_built, F_check_built, fb_check_built, fnF, sSeq, SRes.seq, sRet, sRetN, sAsg, optS, sAug, augAdd, augSub, sIf, sFor, sNil, sBad, sExpr, fAndV, fOrV, fNotV, fNeg, fUser, fCons, fNil, fVar, fC, fPure, fTup, fLst, szOk, fTru, truR, truD, fBl, fBin, fChain, fAnd, fOr, fNot, fIf, fCall, fIsi, fIsi2, isR, isR2, isTy_non, isTy_bl, isTy_int, isTy_str, isTy_tup, isTy_lst, tyTab, dLe, dLt, dGt, dGe, iBin, dIsN, dNotN, dAdd, dSub, dMod, dLen, dIx, initE, argPure, oneImp, endF, retF, outsOf, D.pure, pureL, gN, gTp, gsCons, gsNil, fSl, gSl, fSomeP, fNoP, fSeq, seqD_tup, seqD_lst, fArgL, gZip, optL, fM1, fLc, pureAt, Res.bind_ok, Res.bind_bad, Res.bind_exc, Res.toS_ok, Res.toS_bad, Res.toS_exc, optR, enc_pure, e]
end DL

set_option Elab.async false
set_option linter.all false
set_option maxRecDepth 100000
set_option maxHeartbeats 1000000
namespace DL
open PySem PySem.Spec L2

/-! ### lengths -/
def lenI : Lg → Int
  | .nil => 0
  | .mv _ _ r => 1 + lenI r
  | .rd k i r => k * lenI i + lenI r
def T30 : Nat → Int
  | 0 => 1
  | e + 1 => 1000000000000000000000000000000 * T30 e
theorem T30_pos : ∀ e, 1 ≤ T30 e
  | 0 => Int.le_refl _
  | e + 1 => by have := T30_pos e; show 1 ≤ 1000000000000000000000000000000 * T30 e; omega
theorem lenI_le : ∀ {L : Lg} {e : Nat}, LOk L e → 0 ≤ lenI L ∧ lenI L ≤ (mvs L : Int) * T30 e
  | .nil, e, _ => by simp [lenI, mvs]
  | .mv w l r, e, h => by
    have q := lenI_le h.2.2.2
    have t := T30_pos e
    simp only [lenI, mvs]
    have e1 : ((1 + mvs r : Nat) : Int) * T30 e = T30 e + (mvs r : Int) * T30 e := by
      rw [Int.natCast_add, Int.add_mul]; simp
    rw [e1]
    exact ⟨by omega, by omega⟩
  | .rd k i r, e, h => by
    obtain ⟨h1, h2, _, ⟨e', rfl, hi⟩, hr⟩ := h
    have q := lenI_le hi
    have q2 := lenI_le hr
    simp only [lenI, mvs]
    have e1 : ((mvs i + mvs r : Nat) : Int) * T30 (e' + 1) = (mvs i : Int) * T30 (e' + 1) + (mvs r : Int) * T30 (e' + 1) := by
      rw [Int.natCast_add, Int.add_mul]
    rw [e1]
    have a1 : 0 ≤ k * lenI i := Int.mul_nonneg (by omega) q.1
    have a2 : k * lenI i ≤ 1000000000000000000000000000000 * lenI i := Int.mul_le_mul_of_nonneg_right h2 q.1
    have a3 : 1000000000000000000000000000000 * lenI i ≤ 1000000000000000000000000000000 * ((mvs i : Int) * T30 e') := Int.mul_le_mul_of_nonneg_left q.2 (by decide)
    have a4 : 1000000000000000000000000000000 * ((mvs i : Int) * T30 e') = (mvs i : Int) * T30 (e' + 1) := by
      show _ = (mvs i : Int) * (1000000000000000000000000000000 * T30 e')
      rw [← Int.mul_assoc, ← Int.mul_assoc, Int.mul_comm (mvs i : Int)]
    exact ⟨by omega, by omega⟩
theorem T30_le {e : Nat} (h : e ≤ 3) : T30 e ≤ T30 3 := by
  have : e = 0 ∨ e = 1 ∨ e = 2 ∨ e = 3 := by omega
  rcases this with rfl | rfl | rfl | rfl <;> decide +kernel
theorem lenI_small {L : Lg} {e : Nat} (h : LOk L e) (he : e ≤ 3) (hm : mvs L ≤ 200) : sm4k (lenI L) = true := by
  have q := lenI_le h
  have t := T30_le he
  have t1 := T30_pos e
  have a : (mvs L : Int) * T30 e ≤ 200 * T30 3 := Int.le_trans (Int.mul_le_mul_of_nonneg_right (by omega : (mvs L : Int) ≤ 200) (by omega)) (Int.mul_le_mul_of_nonneg_left t (by decide))
  have b : (200 * T30 3).natAbs < 2 ^ 4000 := by decide +kernel
  refine decide_eq_true (Nat.lt_of_le_of_lt ?_ b)
  omega
theorem mul_small {k : Int} {a : Int} (h1 : 1 ≤ k) (h2 : k ≤ 1000000000000000000000000000000) (ha : sm4k a = true) : dMul (.int k) (.int a) = some (.int (k * a)) := by
  have hk : sm4k k = true := by
    refine decide_eq_true (Nat.lt_of_lt_of_le (m := 1000000000000000000000000000001) (by omega) (by decide +kernel))
  simp [dMul, iBin, mulOk, hk, ha]
def Q_count_of : Nat → List D → FRes
  | 0 => fun _ => .bad
  | n + 1 => F_count_of (Q_count_of n)
theorem count_go {M : List D → FRes} {t : Option D} {e : Nat} (he : e ≤ 3) (hM : ∀ i : Lg, ∀ e', e = e' + 1 → LOk i e' → mvs i ≤ 200 → M [.tup (enc i)] = .ok (.int (lenI i)) []) : ∀ {L : Lg} {f : Int} {o : Option D}, LOk L e → mvs L ≤ 200 →
    ∃ o', forGo (gN 2) (lb_count_of_1 M) (enc L) [t, some (.int f), o] = .next [t, some (.int (f + lenI L)), o']
  | .nil, f, o, _, _ => ⟨o, by simp [enc, lenI, forGo_nil]⟩
  | .mv w l r, f, o, h, hm => by
    simp only [mvs] at hm
    obtain ⟨o', q⟩ := count_go he hM (f := f + 1) (o := some (encM w l)) h.2.2.2 (by omega)
    refine ⟨o', ?_⟩
    show forGo (gN 2) (lb_count_of_1 M) (encM w l :: enc r) _ = _
    rw [forGo_cons]
    have e1 : lb_count_of_1 M [t, some (.int f), some (encM w l)] = .next [t, some (.int (f + 1)), some (encM w l)] := by
      simp [lb_count_of_1, fnF, sSeq, SRes.seq, sRet, sRetN, sAsg, optS, sAug, augAdd, augSub, sIf, sFor, sNil, sBad, sExpr, fAndV, fOrV, fNotV, fNeg, fUser, fCons, fNil, fVar, fC, fPure, fTup, fLst, szOk, fTru, truR, truD, fBl, fBin, fChain, fAnd, fOr, fNot, fIf, fCall, fIsi, fIsi2, isR, isR2, isTy_non, isTy_bl, isTy_int, isTy_str, isTy_tup, isTy_lst, tyTab, dLe, dLt, dGt, dGe, iBin, dIsN, dNotN, dAdd, dSub, dMod, dLen, dIx, initE, argPure, oneImp, endF, retF, outsOf, D.pure, pureL, gN, gTp, gsCons, gsNil, fSl, gSl, fSomeP, fNoP, fSeq, seqD_tup, seqD_lst, fArgL, gZip, optL, fM1, fLc, pureAt, Res.bind_ok, Res.bind_bad, Res.bind_exc, Res.toS_ok, Res.toS_bad, Res.toS_exc, optR, encM, dEq, eqB, sEq]
    simp only [gN, List.set_cons_succ, List.set_cons_zero, e1]
    rw [q]
    simp [lenI]
    omega
  | .rd k i r, f, o, h, hm => by
    simp only [mvs] at hm
    obtain ⟨h1, h2, h3, ⟨e', ee, hi⟩, hr⟩ := h
    obtain ⟨o', q⟩ := count_go he hM (f := f + k * lenI i) (o := some (encR k (enc i))) hr (by omega)
    refine ⟨o', ?_⟩
    show forGo (gN 2) (lb_count_of_1 M) (encR k (enc i) :: enc r) _ = _
    rw [forGo_cons]
    have eM := hM i e' ee hi (by omega)
    have ek := mul_small h1 h2 (lenI_small hi (by omega) (by omega))
    have e1 : lb_count_of_1 M [t, some (.int f), some (encR k (enc i))] = .next [t, some (.int (f + k * lenI i)), some (encR k (enc i))] := by
      simp [lb_count_of_1, fnF, sSeq, SRes.seq, sRet, sRetN, sAsg, optS, sAug, augAdd, augSub, sIf, sFor, sNil, sBad, sExpr, fAndV, fOrV, fNotV, fNeg, fUser, fCons, fNil, fVar, fC, fPure, fTup, fLst, szOk, fTru, truR, truD, fBl, fBin, fChain, fAnd, fOr, fNot, fIf, fCall, fIsi, fIsi2, isR, isR2, isTy_non, isTy_bl, isTy_int, isTy_str, isTy_tup, isTy_lst, tyTab, dLe, dLt, dGt, dGe, iBin, dIsN, dNotN, dAdd, dSub, dMod, dLen, dIx, initE, argPure, oneImp, endF, retF, outsOf, D.pure, pureL, gN, gTp, gsCons, gsNil, fSl, gSl, fSomeP, fNoP, fSeq, seqD_tup, seqD_lst, fArgL, gZip, optL, fM1, fLc, pureAt, Res.bind_ok, Res.bind_bad, Res.bind_exc, Res.toS_ok, Res.toS_bad, Res.toS_exc, optR, encR, dEq, eqB, sEq, atI1, atI2, eM, enc_pure, ek]
    simp only [gN, List.set_cons_succ, List.set_cons_zero, e1]
    rw [q]
    simp [lenI]
    omega
theorem e_count_of : ∀ {n : Nat} {L : Lg} {e : Nat}, e < n → e ≤ 3 → LOk L e → mvs L ≤ 200 → Q_count_of n [.tup (enc L)] = .ok (.int (lenI L)) []
  | n + 1, L, e, hn, he, h, hm => by
    obtain ⟨o', q⟩ := count_go (M := Q_count_of n) (t := some (.tup (enc L))) he (fun i e' ee hi hm' => e_count_of (by omega) (by omega) hi hm') (f := 0) (o := none) h hm
    simp [Q_count_of, F_count_of, fb_count_of, fnF, sSeq, SRes.seq, sRet, sRetN, sAsg, optS, sAug, augAdd, augSub, sIf, sFor, sNil, sBad, sExpr, fAndV, fOrV, fNotV, fNeg, fUser, fCons, fNil, fVar, fC, fPure, fTup, fLst, szOk, fTru, truR, truD, fBl, fBin, fChain, fAnd, fOr, fNot, fIf, fCall, fIsi, fIsi2, isR, isR2, isTy_non, isTy_bl, isTy_int, isTy_str, isTy_tup, isTy_lst, tyTab, dLe, dLt, dGt, dGe, iBin, dIsN, dNotN, dAdd, dSub, dMod, dLen, dIx, initE, argPure, oneImp, endF, retF, outsOf, D.pure, pureL, gN, gTp, gsCons, gsNil, fSl, gSl, fSomeP, fNoP, fSeq, seqD_tup, seqD_lst, fArgL, gZip, optL, fM1, fLc, pureAt, Res.bind_ok, Res.bind_bad, Res.bind_exc, Res.toS_ok, Res.toS_bad, Res.toS_exc, optR, enc_pure, List.replicate, q]
abbrev Q_length_of (n fu : Nat) := F_length_of (Q_count_of n) (Q_check_built fu)
theorem e_length_of {fu n : Nat} {L : Lg} (hn : 3 < n) (h : LOk L 3) (hm : mvs L ≤ 200) (hw : wt L ≤ 200) (hf : 201 < fu) : Q_length_of n fu [.tup (enc L)] = .ok (.int (lenI L)) [] := by
  have e1 := e_check_built h hm hw hf
  have e2 := e_count_of hn (Nat.le_refl 3) h hm
  simp [Q_length_of, F_length_of, fb_length_of, fnF, sSeq, SRes.seq, sRet, sRetN, sAsg, optS, sAug, augAdd, augSub, sIf, sFor, sNil, sBad, sExpr, fAndV, fOrV, fNotV, fNeg, fUser, fCons, fNil, fVar, fC, fPure, fTup, fLst, szOk, fTru, truR, truD, fBl, fBin, fChain, fAnd, fOr, fNot, fIf, fCall, fIsi, fIsi2, isR, isR2, isTy_non, isTy_bl, isTy_int, isTy_str, isTy_tup, isTy_lst, tyTab, dLe, dLt, dGt, dGe, iBin, dIsN, dNotN, dAdd, dSub, dMod, dLen, dIx, initE, argPure, oneImp, endF, retF, outsOf, D.pure, pureL, gN, gTp, gsCons, gsNil, fSl, gSl, fSomeP, fNoP, fSeq, seqD_tup, seqD_lst, fArgL, gZip, optL, fM1, fLc, pureAt, Res.bind_ok, Res.bind_bad, Res.bind_exc, Res.toS_ok, Res.toS_bad, Res.toS_exc, optR, enc_pure, e1, e2]
/-! the law's own -/
def Q__law_length : Nat → List D → FRes
  | 0 => fun _ => .bad
  | n + 1 => F__law_length (Q__law_length n)
theorem length_go {M : List D → FRes} {t : Option D} {e : Nat} (he : e ≤ 3) (hM : ∀ i : Lg, ∀ e', e = e' + 1 → LOk i e' → mvs i ≤ 200 → M [.tup (enc i)] = .ok (.int (lenI i)) []) : ∀ {L : Lg} {f : Int} {o : Option D}, LOk L e → mvs L ≤ 200 →
    ∃ o', forGo (gN 2) (lb__law_length_1 M) (enc L) [t, some (.int f), o] = .next [t, some (.int (f + lenI L)), o']
  | .nil, f, o, _, _ => ⟨o, by simp [enc, lenI, forGo_nil]⟩
  | .mv w l r, f, o, h, hm => by
    simp only [mvs] at hm
    obtain ⟨o', q⟩ := length_go he hM (f := f + 1) (o := some (encM w l)) h.2.2.2 (by omega)
    refine ⟨o', ?_⟩
    show forGo (gN 2) (lb__law_length_1 M) (encM w l :: enc r) _ = _
    rw [forGo_cons]
    have e1 : lb__law_length_1 M [t, some (.int f), some (encM w l)] = .next [t, some (.int (f + 1)), some (encM w l)] := by
      simp [lb__law_length_1, fnF, sSeq, SRes.seq, sRet, sRetN, sAsg, optS, sAug, augAdd, augSub, sIf, sFor, sNil, sBad, sExpr, fAndV, fOrV, fNotV, fNeg, fUser, fCons, fNil, fVar, fC, fPure, fTup, fLst, szOk, fTru, truR, truD, fBl, fBin, fChain, fAnd, fOr, fNot, fIf, fCall, fIsi, fIsi2, isR, isR2, isTy_non, isTy_bl, isTy_int, isTy_str, isTy_tup, isTy_lst, tyTab, dLe, dLt, dGt, dGe, iBin, dIsN, dNotN, dAdd, dSub, dMod, dLen, dIx, initE, argPure, oneImp, endF, retF, outsOf, D.pure, pureL, gN, gTp, gsCons, gsNil, fSl, gSl, fSomeP, fNoP, fSeq, seqD_tup, seqD_lst, fArgL, gZip, optL, fM1, fLc, pureAt, Res.bind_ok, Res.bind_bad, Res.bind_exc, Res.toS_ok, Res.toS_bad, Res.toS_exc, optR, encM, dEq, eqB, sEq]
    simp only [gN, List.set_cons_succ, List.set_cons_zero, e1]
    rw [q]
    simp [lenI]
    omega
  | .rd k i r, f, o, h, hm => by
    simp only [mvs] at hm
    obtain ⟨h1, h2, h3, ⟨e', ee, hi⟩, hr⟩ := h
    obtain ⟨o', q⟩ := length_go he hM (f := f + k * lenI i) (o := some (encR k (enc i))) hr (by omega)
    refine ⟨o', ?_⟩
    show forGo (gN 2) (lb__law_length_1 M) (encR k (enc i) :: enc r) _ = _
    rw [forGo_cons]
    have eM := hM i e' ee hi (by omega)
    have ek := mul_small h1 h2 (lenI_small hi (by omega) (by omega))
    have e1 : lb__law_length_1 M [t, some (.int f), some (encR k (enc i))] = .next [t, some (.int (f + k * lenI i)), some (encR k (enc i))] := by
      simp [lb__law_length_1, fnF, sSeq, SRes.seq, sRet, sRetN, sAsg, optS, sAug, augAdd, augSub, sIf, sFor, sNil, sBad, sExpr, fAndV, fOrV, fNotV, fNeg, fUser, fCons, fNil, fVar, fC, fPure, fTup, fLst, szOk, fTru, truR, truD, fBl, fBin, fChain, fAnd, fOr, fNot, fIf, fCall, fIsi, fIsi2, isR, isR2, isTy_non, isTy_bl, isTy_int, isTy_str, isTy_tup, isTy_lst, tyTab, dLe, dLt, dGt, dGe, iBin, dIsN, dNotN, dAdd, dSub, dMod, dLen, dIx, initE, argPure, oneImp, endF, retF, outsOf, D.pure, pureL, gN, gTp, gsCons, gsNil, fSl, gSl, fSomeP, fNoP, fSeq, seqD_tup, seqD_lst, fArgL, gZip, optL, fM1, fLc, pureAt, Res.bind_ok, Res.bind_bad, Res.bind_exc, Res.toS_ok, Res.toS_bad, Res.toS_exc, optR, encR, dEq, eqB, sEq, atI1, atI2, eM, enc_pure, ek]
    simp only [gN, List.set_cons_succ, List.set_cons_zero, e1]
    rw [q]
    simp [lenI]
    omega
theorem e__law_length : ∀ {n : Nat} {L : Lg} {e : Nat}, e < n → e ≤ 3 → LOk L e → mvs L ≤ 200 → Q__law_length n [.tup (enc L)] = .ok (.int (lenI L)) []
  | n + 1, L, e, hn, he, h, hm => by
    obtain ⟨o', q⟩ := length_go (M := Q__law_length n) (t := some (.tup (enc L))) he (fun i e' ee hi hm' => e__law_length (by omega) (by omega) hi hm') (f := 0) (o := none) h hm
    simp [Q__law_length, F__law_length, fb__law_length, fnF, sSeq, SRes.seq, sRet, sRetN, sAsg, optS, sAug, augAdd, augSub, sIf, sFor, sNil, sBad, sExpr, fAndV, fOrV, fNotV, fNeg, fUser, fCons, fNil, fVar, fC, fPure, fTup, fLst, szOk, fTru, truR, truD, fBl, fBin, fChain, fAnd, fOr, fNot, fIf, fCall, fIsi, fIsi2, isR, isR2, isTy_non, isTy_bl, isTy_int, isTy_str, isTy_tup, isTy_lst, tyTab, dLe, dLt, dGt, dGe, iBin, dIsN, dNotN, dAdd, dSub, dMod, dLen, dIx, initE, argPure, oneImp, endF, retF, outsOf, D.pure, pureL, gN, gTp, gsCons, gsNil, fSl, gSl, fSomeP, fNoP, fSeq, seqD_tup, seqD_lst, fArgL, gZip, optL, fM1, fLc, pureAt, Res.bind_ok, Res.bind_bad, Res.bind_exc, Res.toS_ok, Res.toS_bad, Res.toS_exc, optR, enc_pure, List.replicate, q]
end DL

set_option Elab.async false
set_option linter.all false
set_option maxRecDepth 100000
set_option maxHeartbeats 1000000
namespace DL
open PySem PySem.Spec L2

/-! ### texts by their signs -/
def St (l : List Nat) : Str := ⟨l.toArray⟩
theorem tl_St (l : List Nat) : TL.tl (St l) = l := rfl
theorem St_tl (x : Str) : St (TL.tl x) = x := TL.mk_tl x
theorem St_len (l : List Nat) : (St l).length = l.length := TL.len_tl (St l)
theorem St_app (a b : List Nat) : St a ++ St b = St (a ++ b) := TL.ext_tl (by rw [TL.tl_append]; rfl)
theorem St_inj {a b : List Nat} : St a = St b ↔ a = b := ⟨fun h => by have := congrArg TL.tl h; exact this, fun h => by rw [h]⟩
theorem St_num (n : Nat) : Str.ofString (toString ((n : Nat) : Int)) = St (TL.numL n) := TL.ext_tl (TL.tl_num n)
theorem strIn_one (c : Nat) (x : Str) : strIn (St [c]) x = decide (c ∈ TL.tl x) := StrLaws.found_one x c
theorem lit_e : ("" : Str) = St [] := rfl
theorem lit_0 : ("0" : Str) = St [48] := rfl
theorem lit_x : ("x" : Str) = St [120] := rfl
theorem lit_o : ("(" : Str) = St [40] := rfl
theorem lit_c : (")" : Str) = St [41] := rfl
theorem lit_k : ("," : Str) = St [44] := rfl
theorem lit_s : (" " : Str) = St [32] := rfl
theorem lit_p : ("+" : Str) = St [43] := rfl
theorem lit_m : ("-" : Str) = St [45] := rfl
theorem lit_d : ("0123456789" : Str) = St [48, 49, 50, 51, 52, 53, 54, 55, 56, 57] := rfl
theorem starts1 (c d : Nat) (r : List Nat) : Txt.startswith (St (c :: r)) (St [d]) = (c == d) := by
  unfold Txt.startswith Builtin.Str.subAt
  have h : (0 + (St [d]).length ≤ (St (c :: r)).length) := by rw [St_len, St_len]; simp
  simp only [h, decide_true, Bool.true_and]
  show ((c :: r).toArray.extract 0 (0 + 1) == [d].toArray) = (c == d)
  have e : (c :: r).toArray.extract 0 (0 + 1) = [c].toArray := by simp
  rw [e]
  by_cases q : c = d
  · subst q; simp
  · have q2 : ([c].toArray == [d].toArray) = false := by simpa using q
    rw [q2]; simpa using q
theorem ends1 (l : List Nat) (c d : Nat) : Txt.endswith (St (l ++ [c])) (St [d]) = (c == d) := by
  unfold Txt.endswith Builtin.Str.subAt
  have h : (0 + (St [d]).length ≤ (St (l ++ [c])).length) := by rw [St_len, St_len]; simp
  simp only [h, decide_true, Bool.true_and]
  show ((l ++ [c]).toArray.extract ((St (l ++ [c])).length - (St [d]).length) ((St (l ++ [c])).length - (St [d]).length + (St [d]).length) == [d].toArray) = (c == d)
  rw [St_len, St_len]
  have e : (l ++ [c]).toArray.extract ((l ++ [c]).length - [d].length) ((l ++ [c]).length - [d].length + [d].length) = [c].toArray := by
    apply Array.ext'
    simp
  rw [e]
  by_cases q : c = d
  · subst q; simp
  · have q2 : ([c].toArray == [d].toArray) = false := by simpa using q
    rw [q2]; simpa using q
theorem starts_nil (d : Nat) : Txt.startswith (St []) (St [d]) = false := by
  unfold Txt.startswith
  have h : decide (0 + (St [d]).length ≤ (St []).length) = false := by rw [St_len, St_len]; simp
  rw [h]; rfl
theorem sEq_str (a b : List Nat) : dEq (.str (St a)) (.str (St b)) = some (.bl (decide (a = b))) := by
  show (some (decide (St a = St b))).map D.bl = _
  have : decide (St a = St b) = decide (a = b) := decide_eq_decide.mpr St_inj
  rw [this]; rfl
theorem sNe_str (a b : List Nat) : dNe (.str (St a)) (.str (St b)) = some (.bl (!decide (a = b))) := by
  show (some (decide (St a = St b))).map (fun b => D.bl (!b)) = _
  have : decide (St a = St b) = decide (a = b) := decide_eq_decide.mpr St_inj
  rw [this]; rfl

/-! ### numbers -/
theorem numL_head {n : Nat} (h : n ≠ 0) : ∃ c r, TL.numL n = c :: r ∧ c ≠ 48 := by
  induction n using Nat.strongRecOn with
  | _ n ih =>
    by_cases c : n < 10
    · exact ⟨48 + n, [], TL.numL_lt c, by omega⟩
    · obtain ⟨c', r, e, q⟩ := ih (n / 10) (by omega) (by omega)
      exact ⟨c', r ++ [48 + n % 10], by rw [TL.numL_step (by omega), e]; rfl, q⟩
theorem num31 {n : Nat} (h : n ≤ 1000000000000000000000000000000) : (TL.numL n).length ≤ 31 := TL.numL_len (by decide) (Nat.lt_of_le_of_lt h (by decide +kernel))
theorem digit_in {c : Nat} (h : 48 ≤ c ∧ c ≤ 57) : dIn (.str (St [c])) (.str "0123456789") = some (.bl true) := by
  show some (D.bl (strIn (St [c]) "0123456789")) = _
  rw [strIn_one, lit_d, tl_St]
  have : c = 48 ∨ c = 49 ∨ c = 50 ∨ c = 51 ∨ c = 52 ∨ c = 53 ∨ c = 54 ∨ c = 55 ∨ c = 56 ∨ c = 57 := by omega
  rcases this with rfl | rfl | rfl | rfl | rfl | rfl | rfl | rfl | rfl | rfl <;> rfl
theorem seq_St (l : List Nat) : seqD (.str (St l)) = some (l.map fun c => .str (St [c])) := rfl
theorem lc_digits {fe : Env → Res D} {l : List Nat} {t : Option D} (hfe : ∀ c, 48 ≤ c ∧ c ≤ 57 → fe [t, some (.str (St [c]))] = .ok (.bl true) [t, some (.str (St [c]))]) (h : NumText.AllDigits l) (hl : l.length ≤ 16777216) :
    lcGo (gN 1) tTrue fe [1] (l.map fun c => .str (St [c])) [t, none] [] = .ok (.lst (l.map fun _ => .bl true)) [t, none] := by
  have q := lcGo_map (g := gN 1) (fe := fe) (vs := [1]) (h := fun _ => .bl true) (r := [t, none]) (ds := l.map fun c => .str (St [c])) (acc := []) (fun d m => ?_) (fun _ _ => rfl) (by simpa using hl)
  · rw [q, List.nil_append, List.map_map]; rfl
  · obtain ⟨c, mc, rfl⟩ := List.mem_map.mp m
    exact ⟨[t, some (.str (St [c]))], rfl, hfe c (h c mc), rfl⟩
theorem fOr_ff {a b : Env → Res Bool} {r : Env} {k : Bool} (h1 : a r = .ok false r) (h2 : b r = .ok k r) : fOr a b r = .ok k r := by
  unfold fOr
  rw [h1, Res.bind_ok]
  exact h2
theorem e_number_in {n : Nat} (h : n ≤ 1000000000000000000000000000000) : F_number_in [.str (St (TL.numL n))] = .ok (.int n) [] := by
  have l31 := num31 h
  have hne := TL.numL_ne n
  have hd := TL.numL_digits n
  have lc := lc_digits (fe := le_number_in_1) (t := some (.str (St (TL.numL n)))) (fun c hc => by
    have := digit_in hc
    simp [le_number_in_1, fnF, sSeq, SRes.seq, sRet, sRetN, sAsg, optS, sAug, augAdd, augSub, sIf, sFor, sNil, sBad, sExpr, fAndV, fOrV, fNotV, fNeg, fUser, fCons, fNil, fVar, fC, fPure, fTup, fLst, szOk, fTru, truR, truD, fBl, fBin, fChain, fAnd, fOr, fNot, fIf, fCall, fIsi, fIsi2, isR, isR2, isTy_non, isTy_bl, isTy_int, isTy_str, isTy_tup, isTy_lst, tyTab, dLe, dLt, dGt, dGe, iBin, dIsN, dNotN, dAdd, dSub, dMod, dLen, dIx, initE, argPure, oneImp, endF, retF, outsOf, D.pure, pureL, gN, gTp, gsCons, gsNil, fSl, gSl, fSomeP, fNoP, fSeq, seqD_tup, seqD_lst, fArgL, gZip, optL, fM1, fLc, pureAt, Res.bind_ok, Res.bind_bad, Res.bind_exc, Res.toS_ok, Res.toS_bad, Res.toS_exc, optR, this]) hd (by omega)
  have ei : intText? (St (TL.numL n)) = some (n : Int) := by rw [← St_num]; exact TL.int_num (by omega)
  have e1 : dEq (.str (St (TL.numL n))) (.str "") = some (.bl false) := by rw [lit_e, sEq_str]; simp [hne]
  have e31 : ¬ (31 : Int) < ((TL.numL n).length : Int) := by omega
  have hl : (TL.numL n).length ≤ 16777216 := by omega
  have e640 : (St (TL.numL n)).length ≤ 640 := by rw [St_len]; omega
  have a1 : fBl (fBin dEq (fVar 0) (fC (.str ""))) [some (.str (St (TL.numL n))), none] = .ok false [some (.str (St (TL.numL n))), none] := by simp [fnF, sSeq, SRes.seq, sRet, sRetN, sAsg, optS, sAug, augAdd, augSub, sIf, sFor, sNil, sBad, sExpr, fAndV, fOrV, fNotV, fNeg, fUser, fCons, fNil, fVar, fC, fPure, fTup, fLst, szOk, fTru, truR, truD, fBl, fBin, fChain, fAnd, fOr, fNot, fIf, fCall, fIsi, fIsi2, isR, isR2, isTy_non, isTy_bl, isTy_int, isTy_str, isTy_tup, isTy_lst, tyTab, dLe, dLt, dGt, dGe, iBin, dIsN, dNotN, dAdd, dSub, dMod, dLen, dIx, initE, argPure, oneImp, endF, retF, outsOf, D.pure, pureL, gN, gTp, gsCons, gsNil, fSl, gSl, fSomeP, fNoP, fSeq, seqD_tup, seqD_lst, fArgL, gZip, optL, fM1, fLc, pureAt, Res.bind_ok, Res.bind_bad, Res.bind_exc, Res.toS_ok, Res.toS_bad, Res.toS_exc, optR, e1]
  have a2 : fBl (fBin dGt (fCall dLen (fCons (fVar 0) fNil)) (fC (.int 31))) [some (.str (St (TL.numL n))), none] = .ok false [some (.str (St (TL.numL n))), none] := by simp [fnF, sSeq, SRes.seq, sRet, sRetN, sAsg, optS, sAug, augAdd, augSub, sIf, sFor, sNil, sBad, sExpr, fAndV, fOrV, fNotV, fNeg, fUser, fCons, fNil, fVar, fC, fPure, fTup, fLst, szOk, fTru, truR, truD, fBl, fBin, fChain, fAnd, fOr, fNot, fIf, fCall, fIsi, fIsi2, isR, isR2, isTy_non, isTy_bl, isTy_int, isTy_str, isTy_tup, isTy_lst, tyTab, dLe, dLt, dGt, dGe, iBin, dIsN, dNotN, dAdd, dSub, dMod, dLen, dIx, initE, argPure, oneImp, endF, retF, outsOf, D.pure, pureL, gN, gTp, gsCons, gsNil, fSl, gSl, fSomeP, fNoP, fSeq, seqD_tup, seqD_lst, fArgL, gZip, optL, fM1, fLc, pureAt, Res.bind_ok, Res.bind_bad, Res.bind_exc, Res.toS_ok, Res.toS_bad, Res.toS_exc, optR, St_len, hl, e31]
  have a3 : fNot (fTru (fCall dAll (fCons (fLc (fSeq (fVar 0)) (gN 1) tTrue le_number_in_1 [1]) fNil))) [some (.str (St (TL.numL n))), none] = .ok false [some (.str (St (TL.numL n))), none] := by simp [fnF, sSeq, SRes.seq, sRet, sRetN, sAsg, optS, sAug, augAdd, augSub, sIf, sFor, sNil, sBad, sExpr, fAndV, fOrV, fNotV, fNeg, fUser, fCons, fNil, fVar, fC, fPure, fTup, fLst, szOk, fTru, truR, truD, fBl, fBin, fChain, fAnd, fOr, fNot, fIf, fCall, fIsi, fIsi2, isR, isR2, isTy_non, isTy_bl, isTy_int, isTy_str, isTy_tup, isTy_lst, tyTab, dLe, dLt, dGt, dGe, iBin, dIsN, dNotN, dAdd, dSub, dMod, dLen, dIx, initE, argPure, oneImp, endF, retF, outsOf, D.pure, pureL, gN, gTp, gsCons, gsNil, fSl, gSl, fSomeP, fNoP, fSeq, seqD_tup, seqD_lst, fArgL, gZip, optL, fM1, fLc, pureAt, Res.bind_ok, Res.bind_bad, Res.bind_exc, Res.toS_ok, Res.toS_bad, Res.toS_exc, optR, seq_St, lc, dAll_true]
  have ez : (fOr (fBl (fBin dEq (fVar 0) (fC (.str "0")))) (fNot (fTru (fM1 gStarts (fVar 0) (fC (.str "0"))))) [some (.str (St (TL.numL n))), none]) = .ok true [some (.str (St (TL.numL n))), none] := by
    have g1 : dEq (.str (St (TL.numL n))) (.str "0") = some (.bl (decide (TL.numL n = [48]))) := by rw [lit_0, sEq_str]
    by_cases c : n = 0
    · subst c
      have : decide (TL.numL 0 = [48]) = true := decide_eq_true (TL.numL_lt (by decide))
      rw [this] at g1
      simp [fOr, fBl, fBin, fVar, fC, g1]
    · obtain ⟨c', r, e, q⟩ := numL_head c
      have g2 : gStarts (St (TL.numL n)) (.str "0") = some (.bl false) := by
        show some (D.bl (Txt.startswith (St (TL.numL n)) "0")) = _
        rw [lit_0, e, starts1]
        simp [q]
      have g3 : decide (TL.numL n = [48]) = false := by rw [e]; simp [q]
      rw [g3] at g1
      simp [fOr, fBl, fBin, fVar, fC, g1, fNot, fTru, fM1, g2, truR, truD]
  have ed : fCall dInt (fCons (fVar 0) fNil) [some (.str (St (TL.numL n))), none] = .ok (.int n) [some (.str (St (TL.numL n))), none] := by simp [fnF, sSeq, SRes.seq, sRet, sRetN, sAsg, optS, sAug, augAdd, augSub, sIf, sFor, sNil, sBad, sExpr, fAndV, fOrV, fNotV, fNeg, fUser, fCons, fNil, fVar, fC, fPure, fTup, fLst, szOk, fTru, truR, truD, fBl, fBin, fChain, fAnd, fOr, fNot, fIf, fCall, fIsi, fIsi2, isR, isR2, isTy_non, isTy_bl, isTy_int, isTy_str, isTy_tup, isTy_lst, tyTab, dLe, dLt, dGt, dGe, iBin, dIsN, dNotN, dAdd, dSub, dMod, dLen, dIx, initE, argPure, oneImp, endF, retF, outsOf, D.pure, pureL, gN, gTp, gsCons, gsNil, fSl, gSl, fSomeP, fNoP, fSeq, seqD_tup, seqD_lst, fArgL, gZip, optL, fM1, fLc, pureAt, Res.bind_ok, Res.bind_bad, Res.bind_exc, Res.toS_ok, Res.toS_bad, Res.toS_exc, optR, dInt, ei, e640]
  show endF [] (fb_number_in [some (.str (St (TL.numL n))), none]) = _
  unfold fb_number_in
  have t1 := (fOr_ff a1 (fOr_ff a2 a3))
  simp only [sSeq, sIf, t1, Res.bind_ok, Bool.false_eq_true, if_false, Res.toS_ok, sNil, SRes.seq, sRet]
  simp only [fIf, ez, Res.bind_ok, if_true, ed, Res.toS_ok, endF, retF, outsOf]
end DL

set_option Elab.async false
set_option linter.all false
set_option maxRecDepth 100000
set_option maxHeartbeats 1000000
namespace DL
open PySem PySem.Spec L2

theorem le_line {n : Nat} (h : n ≤ 16777216) : n ≤ sizeLine := by rw [sizeLine_eq]; omega
theorem ix_St0 {c : Nat} {r : List Nat} (h : (c :: r).length ≤ 16777216) : dIx (.str (St (c :: r))) (.int 0) = some (.str (St [c])) := by
  show (if (St (c :: r)).length ≤ sizeLine then (atI (c :: r) 0).map fun c => D.str ⟨#[c]⟩ else none) = _
  rw [if_pos (by rw [St_len]; exact le_line h), atI0]
  rfl
theorem e__law_digits {n : Nat} (h : n ≤ 1000000000000000000000000000000) : F__law_digits [.str (St (TL.numL n))] = .ok (.int n) [] := by
  have l31 := num31 h
  have hne := TL.numL_ne n
  have hd := TL.numL_digits n
  have lc := lc_digits (fe := le__law_digits_1) (t := some (.str (St (TL.numL n)))) (fun c hc => by
    have := digit_in hc
    simp [le__law_digits_1, fnF, sSeq, SRes.seq, sRet, sRetN, sAsg, optS, sAug, augAdd, augSub, sIf, sFor, sNil, sBad, sExpr, fAndV, fOrV, fNotV, fNeg, fUser, fCons, fNil, fVar, fC, fPure, fTup, fLst, szOk, fTru, truR, truD, fBl, fBin, fChain, fAnd, fOr, fNot, fIf, fCall, fIsi, fIsi2, isR, isR2, isTy_non, isTy_bl, isTy_int, isTy_str, isTy_tup, isTy_lst, tyTab, dLe, dLt, dGt, dGe, iBin, dIsN, dNotN, dAdd, dSub, dMod, dLen, dIx, initE, argPure, oneImp, endF, retF, outsOf, D.pure, pureL, gN, gTp, gsCons, gsNil, fSl, gSl, fSomeP, fNoP, fSeq, seqD_tup, seqD_lst, fArgL, gZip, optL, fM1, fLc, pureAt, Res.bind_ok, Res.bind_bad, Res.bind_exc, Res.toS_ok, Res.toS_bad, Res.toS_exc, optR, this]) hd (by omega)
  have ei : intText? (St (TL.numL n)) = some (n : Int) := by rw [← St_num]; exact TL.int_num (by omega)
  have l0 : 0 < (TL.numL n).length := List.length_pos_iff.mpr hne
  have e1 : (1 : Int) ≤ ((TL.numL n).length : Int) := by omega
  have e31 : ((TL.numL n).length : Int) ≤ (31 : Int) := by omega
  have hl : (TL.numL n).length ≤ 16777216 := by omega
  have e640 : (St (TL.numL n)).length ≤ 640 := by rw [St_len]; omega
  have a1 : fNot (fBl (fChain dLe dLe (fC (.int 1)) (fCall dLen (fCons (fVar 0) fNil)) (fC (.int 31)))) [some (.str (St (TL.numL n))), none] = .ok false [some (.str (St (TL.numL n))), none] := by simp [fnF, sSeq, SRes.seq, sRet, sRetN, sAsg, optS, sAug, augAdd, augSub, sIf, sFor, sNil, sBad, sExpr, fAndV, fOrV, fNotV, fNeg, fUser, fCons, fNil, fVar, fC, fPure, fTup, fLst, szOk, fTru, truR, truD, fBl, fBin, fChain, fAnd, fOr, fNot, fIf, fCall, fIsi, fIsi2, isR, isR2, isTy_non, isTy_bl, isTy_int, isTy_str, isTy_tup, isTy_lst, tyTab, dLe, dLt, dGt, dGe, iBin, dIsN, dNotN, dAdd, dSub, dMod, dLen, dIx, initE, argPure, oneImp, endF, retF, outsOf, D.pure, pureL, gN, gTp, gsCons, gsNil, fSl, gSl, fSomeP, fNoP, fSeq, seqD_tup, seqD_lst, fArgL, gZip, optL, fM1, fLc, pureAt, Res.bind_ok, Res.bind_bad, Res.bind_exc, Res.toS_ok, Res.toS_bad, Res.toS_exc, optR, St_len, hl, e31, e1]
  have a3 : fNot (fTru (fCall dAll (fCons (fLc (fSeq (fVar 0)) (gN 1) tTrue le__law_digits_1 [1]) fNil))) [some (.str (St (TL.numL n))), none] = .ok false [some (.str (St (TL.numL n))), none] := by simp [fnF, sSeq, SRes.seq, sRet, sRetN, sAsg, optS, sAug, augAdd, augSub, sIf, sFor, sNil, sBad, sExpr, fAndV, fOrV, fNotV, fNeg, fUser, fCons, fNil, fVar, fC, fPure, fTup, fLst, szOk, fTru, truR, truD, fBl, fBin, fChain, fAnd, fOr, fNot, fIf, fCall, fIsi, fIsi2, isR, isR2, isTy_non, isTy_bl, isTy_int, isTy_str, isTy_tup, isTy_lst, tyTab, dLe, dLt, dGt, dGe, iBin, dIsN, dNotN, dAdd, dSub, dMod, dLen, dIx, initE, argPure, oneImp, endF, retF, outsOf, D.pure, pureL, gN, gTp, gsCons, gsNil, fSl, gSl, fSomeP, fNoP, fSeq, seqD_tup, seqD_lst, fArgL, gZip, optL, fM1, fLc, pureAt, Res.bind_ok, Res.bind_bad, Res.bind_exc, Res.toS_ok, Res.toS_bad, Res.toS_exc, optR, seq_St, lc, dAll_true]
  have ez : (fAnd (fBl (fBin dEq (fBin dIx (fVar 0) (fC (.int 0))) (fC (.str "0")))) (fBl (fBin dNe (fVar 0) (fC (.str "0")))) [some (.str (St (TL.numL n))), none]) = .ok false [some (.str (St (TL.numL n))), none] := by
    by_cases c : n = 0
    · subst c
      have e : TL.numL 0 = [48] := TL.numL_lt (by decide)
      have g1 : dIx (.str (St [48])) (.int 0) = some (.str (St [48])) := ix_St0 (by simp)
      have g2 : dEq (.str (St [48])) (.str "0") = some (.bl true) := by rw [lit_0, sEq_str]; rfl
      have g3 : dNe (.str (St [48])) (.str "0") = some (.bl false) := by rw [lit_0, sNe_str]; rfl
      rw [e]
      simp [fAnd, fBl, fBin, fVar, fC, g1, g2, g3]
    · obtain ⟨c', r, e, q⟩ := numL_head c
      rw [e] at hl ⊢
      have g1 := ix_St0 hl
      have g2 : dEq (.str (St [c'])) (.str "0") = some (.bl false) := by rw [lit_0, sEq_str]; simp [q]
      simp [fAnd, fBl, fBin, fVar, fC, g1, g2]
  have ed : fCall dInt (fCons (fVar 0) fNil) [some (.str (St (TL.numL n))), none] = .ok (.int n) [some (.str (St (TL.numL n))), none] := by simp [fnF, sSeq, SRes.seq, sRet, sRetN, sAsg, optS, sAug, augAdd, augSub, sIf, sFor, sNil, sBad, sExpr, fAndV, fOrV, fNotV, fNeg, fUser, fCons, fNil, fVar, fC, fPure, fTup, fLst, szOk, fTru, truR, truD, fBl, fBin, fChain, fAnd, fOr, fNot, fIf, fCall, fIsi, fIsi2, isR, isR2, isTy_non, isTy_bl, isTy_int, isTy_str, isTy_tup, isTy_lst, tyTab, dLe, dLt, dGt, dGe, iBin, dIsN, dNotN, dAdd, dSub, dMod, dLen, dIx, initE, argPure, oneImp, endF, retF, outsOf, D.pure, pureL, gN, gTp, gsCons, gsNil, fSl, gSl, fSomeP, fNoP, fSeq, seqD_tup, seqD_lst, fArgL, gZip, optL, fM1, fLc, pureAt, Res.bind_ok, Res.bind_bad, Res.bind_exc, Res.toS_ok, Res.toS_bad, Res.toS_exc, optR, dInt, ei, e640]
  show endF [] (fb__law_digits [some (.str (St (TL.numL n))), none]) = _
  unfold fb__law_digits
  have t1 := (fOr_ff a1 a3)
  simp only [sSeq, sIf, t1, ez, Res.bind_ok, Bool.false_eq_true, if_false, Res.toS_ok, sNil, SRes.seq, sRet, ed, endF, retF, outsOf]

/-! ### words -/
def pairL (p : Int × Int) : List Nat := TL.numL p.1.toNat ++ 120 :: TL.numL p.2.toNat
def wayL (w : Int) : Nat := if w = 1 then 43 else 45
def mvL (w : Int) (l : List (Int × Int)) : List Nat := wayL w :: TL.joinL [44] (l.map pairL)
theorem e_dStr {i : Int} (h0 : 0 ≤ i) (h : i ≤ 1000000000000000000000000000000) : dStr [.int i] = some (.str (St (TL.numL i.toNat))) := by
  obtain ⟨n, rfl⟩ := Int.eq_ofNat_of_zero_le h0
  have hk : strOkI (n : Int) = true := decide_eq_true (Nat.lt_of_lt_of_le (m := 1000000000000000000000000000001) (by omega) (by decide +kernel))
  show (if strOkI (n : Int) then some (D.str (toString ((n : Nat) : Int))) else none) = _
  rw [if_pos hk]
  show some (D.str (Str.ofString (toString ((n : Nat) : Int)))) = _
  rw [St_num]; rfl
theorem add_St {a b : List Nat} (h : a.length + b.length ≤ 16777216) : dAdd (.str (St a)) (.str (St b)) = some (.str (St (a ++ b))) := by
  show (if (St a).length + (St b).length ≤ sizeLine then some (D.str (St a ++ St b)) else none) = _
  rw [if_pos (by rw [St_len, St_len]; exact le_line h), St_app]
theorem pair_len {p : Int × Int} (h1 : p.1 ≤ 1000000000000000000000000000000) (h2 : p.2 ≤ 1000000000000000000000000000000) : (pairL p).length ≤ 63 := by
  have a := num31 (n := p.1.toNat) (by omega)
  have b := num31 (n := p.2.toNat) (by omega)
  unfold pairL
  rw [List.length_append, List.length_cons]
  omega
theorem strsOf_St : ∀ ws : List (List Nat), strsOf (ws.map fun w => D.str (St w)) = some (ws.map St)
  | [] => rfl
  | w :: ws => by
    rw [List.map_cons, List.map_cons]
    show (strsOf (ws.map fun w => D.str (St w))).map (St w :: ·) = _
    rw [strsOf_St ws]; rfl
theorem join_St {c : Nat} {ws : List (List Nat)} : Txt.join (St [c]) (ws.map St) = St (TL.joinL [c] ws) := TL.ext_tl (by
  rw [TL.join_eq, TL.tl_join, List.map_map]
  have : (ws.map (TL.tl ∘ St)) = ws := by
    have e : (TL.tl ∘ St) = id := rfl
    rw [e, List.map_id]
  rw [this]; rfl)
theorem gJoin_ok {c : Nat} {ws : List (List Nat)} (h : (ws.map (·.length)).sum + ws.length ≤ 16777216) : gJoin (St [c]) (.lst (ws.map fun w => D.str (St w))) = some (.str (St (TL.joinL [c] ws))) := by
  have e : ((ws.map St).map (·.length)) = ws.map (·.length) := by
    rw [List.map_map]
    exact List.map_congr_left fun w _ => St_len w
  have hj : joinOk (St [c]) (ws.map St) = true := by
    refine decide_eq_true ?_
    rw [e, List.length_map, St_len]
    simpa using h
  simp only [gJoin, strsOf_St, hj, if_true, join_St]
theorem sum_le {α : Type} {f : α → Nat} {B : Nat} : ∀ {l : List α}, (∀ a ∈ l, f a ≤ B) → (l.map f).sum ≤ l.length * B
  | [], _ => by simp
  | a :: l, h => by
    have q := sum_le (l := l) fun b m => h b (List.mem_cons_of_mem _ m)
    have r := h a List.mem_cons_self
    rw [List.map_cons, List.sum_cons, List.length_cons, Nat.add_mul]
    omega
theorem lc_pairs {fe : Env → Res D} {g : D → Env → Option Env} {vs : List Nat} {r : Env} {l : List (Int × Int)} (hs : ∀ p ∈ l, ∃ r1, g (encP p) (wipeE r vs) = some r1 ∧ fe r1 = .ok (.str (St (pairL p))) r1 ∧ unw r r1 vs = r) (hl : l.length ≤ 16777216) :
    lcGo g tTrue fe vs (l.map encP) r [] = .ok (.lst ((l.map pairL).map fun w => D.str (St w))) r := by
  have go : ∀ {l : List (Int × Int)} {acc : List D}, (∀ p ∈ l, ∃ r1, g (encP p) (wipeE r vs) = some r1 ∧ fe r1 = .ok (.str (St (pairL p))) r1 ∧ unw r r1 vs = r) → acc.length + l.length ≤ 16777216 →
      lcGo g tTrue fe vs (l.map encP) r acc = .ok (.lst (acc ++ (l.map pairL).map fun w => D.str (St w))) r := fun {l} => by
    induction l with
    | nil => intro acc _ _; simp [lcGo]
    | cons p l ih =>
      intro acc hs hl
      obtain ⟨r1, e1, e2, e3⟩ := hs p List.mem_cons_self
      rw [List.length_cons] at hl
      have hl' : acc.length < 16777216 := by omega
      rw [List.map_cons, lcGo_cons, e1]
      simp only [tTrue, e2, D.pure, hl', decide_true, Bool.and_self, if_true, e3]
      rw [ih (fun d m => hs d (List.mem_cons_of_mem _ m)) (by rw [List.length_append, List.length_singleton]; omega)]
      simp
  have q := go (acc := []) hs (by simpa using hl)
  rw [q, List.nil_append]
theorem le_word {f1 f2 : Env → Res D} {r : Env} {p : Int × Int} (h1 : f1 r = .ok (.int p.1) r) (h2 : f2 r = .ok (.int p.2) r) (ha : 0 ≤ p.1) (hb : p.1 ≤ 1000000000000000000000000000000) (hc : 0 ≤ p.2) (hd : p.2 ≤ 1000000000000000000000000000000) :
    fBin dAdd (fBin dAdd (fCall dStr (fCons f1 fNil)) (fC (.str "x"))) (fCall dStr (fCons f2 fNil)) r = .ok (.str (St (pairL p))) r := by
  have a := num31 (n := p.1.toNat) (by omega)
  have b := num31 (n := p.2.toNat) (by omega)
  have g1 : dAdd (.str (St (TL.numL p.1.toNat))) (.str "x") = some (.str (St (TL.numL p.1.toNat ++ [120]))) := by rw [lit_x]; exact add_St (by simp; omega)
  have g2 : dAdd (.str (St (TL.numL p.1.toNat ++ [120]))) (.str (St (TL.numL p.2.toNat))) = some (.str (St (pairL p))) := by
    rw [add_St (by simp; omega), List.append_assoc]; rfl
  simp [fBin, fCall, fCons, fNil, fC, h1, h2, e_dStr ha hb, e_dStr hc hd, g1, g2]
theorem ld_sum {l : List (Int × Int)} (h : LdOk (-1) l) (h3 : l.length ≤ 3) : ((l.map pairL).map (·.length)).sum + (l.map pairL).length ≤ 200 := by
  have q := sum_le (f := fun w : List Nat => w.length) (B := 63) (l := l.map pairL) fun w m => by
    obtain ⟨p, mp, rfl⟩ := List.mem_map.mp m
    have := h.ge p mp
    exact pair_len (by omega) (by omega)
  rw [List.length_map] at q ⊢
  omega
theorem join_len {c : Nat} : ∀ ws : List (List Nat), (TL.joinL [c] ws).length ≤ (ws.map (·.length)).sum + ws.length
  | [] => by simp [TL.joinL]
  | [p] => by simp [TL.joinL]
  | p :: q :: r => by
    have := join_len (c := c) (q :: r)
    show (p ++ ([c] ++ TL.joinL [c] (q :: r))).length ≤ _
    simp only [List.length_append, List.map_cons, List.sum_cons, List.length_cons, List.length_nil] at this ⊢
    omega
theorem mv_len {w : Int} {l : List (Int × Int)} (h : LdOk (-1) l) (h3 : l.length ≤ 3) : (mvL w l).length ≤ 201 := by
  have a := ld_sum h h3
  have b := join_len (c := 44) (l.map pairL)
  unfold mvL
  rw [List.length_cons]
  omega
theorem e_move_word {w : Int} {l : List (Int × Int)} (hw : w = 1 ∨ w = -1) (h : LdOk (-1) l) (h3 : l.length ≤ 3) : F_move_word [encM w l] = .ok (.str (St (mvL w l))) [] := by
  have lc := lc_pairs (fe := le_move_word_1) (g := gTp 2 (gsCons (gN 1) (gsCons (gN 2) gsNil))) (vs := [1, 2]) (r := [some (encM w l), none, none]) (l := l) (fun p m => by
    have q := h.ge p m
    exact ⟨[some (encM w l), some (.int p.1), some (.int p.2)], rfl, le_word rfl rfl (by omega) (by omega) (by omega) (by omega), rfl⟩) (by omega)
  have gj := gJoin_ok (c := 44) (ws := l.map pairL) (Nat.le_trans (ld_sum h h3) (by decide))
  have hp : pureL (l.map encP) = true := pure_map encP_pure l
  have e1 : fWIx t_SIGNS (fBin dIx (fVar 0) (fC (.int 0))) [some (encM w l), none, none] = .ok (.str (St [wayL w])) [some (encM w l), none, none] := by
    rcases hw with rfl | rfl <;> rfl
  have e2 : fM1 gJoin (fC (.str ",")) (fLc (fSeq (fBin dIx (fVar 0) (fC (.int 1)))) (gTp 2 (gsCons (gN 1) (gsCons (gN 2) gsNil))) tTrue (le_move_word_1) [1, 2]) [some (encM w l), none, none] = .ok (.str (St (TL.joinL [44] (l.map pairL)))) [some (encM w l), none, none] := by
    have ix : dIx (encM w l) (.int 1) = some (.tup (l.map encP)) := atI1
    have q : fLc (fSeq (fBin dIx (fVar 0) (fC (.int 1)))) (gTp 2 (gsCons (gN 1) (gsCons (gN 2) gsNil))) tTrue (le_move_word_1) [1, 2] [some (encM w l), none, none] = .ok (.lst ((l.map pairL).map fun w => D.str (St w))) [some (encM w l), none, none] := by
      rw [← lc]
      simp [fLc, fSeq, fBin, fVar, fC, ix, seqD_tup, hp, pureAt, optL]
    rw [lit_k]
    simp only [fM1, fC, Res.bind_ok, q, gj, optR_some]
  have e3 : dAdd (.str (St [wayL w])) (.str (St (TL.joinL [44] (l.map pairL)))) = some (.str (St (mvL w l))) := by
    have a := ld_sum h h3
    have b := join_len (c := 44) (l.map pairL)
    exact add_St (by simp; omega)
  show endF [] (fb_move_word [some (encM w l), none, none]) = _
  unfold fb_move_word
  simp only [sSeq, sRet, fBin, e1, e2, Res.bind_ok, e3, optR_some, Res.toS_ok, SRes.seq, endF, retF, outsOf]
theorem e__law_move_word {w : Int} {l : List (Int × Int)} (hw : w = 1 ∨ w = -1) (h : LdOk (-1) l) (h3 : l.length ≤ 3) : F__law_move_word [encM w l] = .ok (.str (St (mvL w l))) [] := by
  have lc := lc_pairs (fe := le__law_move_word_1) (g := gTp 2 (gsCons (gN 2) (gsCons (gN 3) gsNil))) (vs := [2, 3]) (r := [some (encM w l), some (.str (St [wayL w])), none, none]) (l := l) (fun p m => by
    have q := h.ge p m
    exact ⟨[some (encM w l), some (.str (St [wayL w])), some (.int p.1), some (.int p.2)], rfl, le_word rfl rfl (by omega) (by omega) (by omega) (by omega), rfl⟩) (by omega)
  have gj := gJoin_ok (c := 44) (ws := l.map pairL) (Nat.le_trans (ld_sum h h3) (by decide))
  have hp : pureL (l.map encP) = true := pure_map encP_pure l
  have e1 : sAsg (fBin dIx (fLst (fCons (fC (.str "-")) (fCons (fC (.str "+")) fNil))) (fCall dInt (fCons (fBin dEq (fBin dIx (fVar 0) (fC (.int 0))) (fC (.int 1))) fNil))) (gN 1) [some (encM w l), none, none, none] = .next [some (encM w l), some (.str (St [wayL w])), none, none] := by
    rcases hw with rfl | rfl <;> rfl
  have e2 : fM1 gJoin (fC (.str ",")) (fLc (fSeq (fBin dIx (fVar 0) (fC (.int 1)))) (gTp 2 (gsCons (gN 2) (gsCons (gN 3) gsNil))) tTrue (le__law_move_word_1) [2, 3]) [some (encM w l), some (.str (St [wayL w])), none, none] = .ok (.str (St (TL.joinL [44] (l.map pairL)))) [some (encM w l), some (.str (St [wayL w])), none, none] := by
    have ix : dIx (encM w l) (.int 1) = some (.tup (l.map encP)) := atI1
    have q : fLc (fSeq (fBin dIx (fVar 0) (fC (.int 1)))) (gTp 2 (gsCons (gN 2) (gsCons (gN 3) gsNil))) tTrue (le__law_move_word_1) [2, 3] [some (encM w l), some (.str (St [wayL w])), none, none] = .ok (.lst ((l.map pairL).map fun w => D.str (St w))) [some (encM w l), some (.str (St [wayL w])), none, none] := by
      rw [← lc]
      simp [fLc, fSeq, fBin, fVar, fC, ix, seqD_tup, hp, pureAt, optL]
    rw [lit_k]
    simp only [fM1, fC, Res.bind_ok, q, gj, optR_some]
  have e3 : dAdd (.str (St [wayL w])) (.str (St (TL.joinL [44] (l.map pairL)))) = some (.str (St (mvL w l))) := by
    have a := ld_sum h h3
    have b := join_len (c := 44) (l.map pairL)
    exact add_St (by simp; omega)
  have ep : argPure [1] [encM w l] = true := rfl
  show endF [] (fb__law_move_word [some (encM w l), none, none, none]) = _
  unfold fb__law_move_word
  have ev : fVar 1 [some (encM w l), some (.str (St [wayL w])), none, none] = .ok (.str (St [wayL w])) [some (encM w l), some (.str (St [wayL w])), none, none] := rfl
  simp only [sSeq, e1, SRes.seq, sRet, fBin, ev, e2, Res.bind_ok, e3, optR_some, Res.toS_ok, endF, retF, outsOf]
end DL

set_option Elab.async false
set_option linter.all false
set_option maxRecDepth 100000
set_option maxHeartbeats 1000000
namespace DL
open PySem PySem.Spec L2

def opL (k : Int) : List Nat := TL.numL k.toNat ++ [40]
def wds : Lg → List (List Nat)
  | .nil => []
  | .mv w l r => mvL w l :: wds r
  | .rd k i r => opL k :: (wds i ++ [41] :: wds r)
def txt (L : Lg) : List Nat := TL.joinL [32] (wds L)
def dW (w : List Nat) : D := .str (St w)
theorem nd_eq : ∀ L : Lg, (wds L).length = mvs L + 2 * wt L
  | .nil => rfl
  | .mv _ _ r => by have := nd_eq r; simp only [wds, mvs, wt, List.length_cons]; omega
  | .rd _ i r => by have a := nd_eq i; have b := nd_eq r; simp only [wds, mvs, wt, List.length_cons, List.length_append]; omega
theorem wds_len : ∀ {L : Lg} {e : Nat}, LOk L e → ∀ w ∈ wds L, w.length ≤ 201
  | .mv w l r, e, h, x, m => by
    rcases List.mem_cons.mp m with rfl | m
    · exact mv_len h.2.1 h.2.2.1
    · exact wds_len h.2.2.2 x m
  | .rd k i r, e, h, x, m => by
    obtain ⟨h1, h2, h3, ⟨e', _, hi⟩, hr⟩ := h
    rcases List.mem_cons.mp m with rfl | m
    · have a := num31 (n := k.toNat) (by omega)
      simp [opL]; omega
    · rcases List.mem_append.mp m with m | m
      · exact wds_len hi x m
      · rcases List.mem_cons.mp m with rfl | m
        · simp
        · exact wds_len hr x m
theorem wds_sum {L : Lg} {e : Nat} (h : LOk L e) (hn : (wds L).length ≤ 1000) : ((wds L).map (·.length)).sum + (wds L).length ≤ 300000 := by
  have q := sum_le (f := fun w : List Nat => w.length) (B := 201) (l := wds L) (wds_len h)
  omega
theorem txt_len {L : Lg} {e : Nat} (h : LOk L e) (hn : (wds L).length ≤ 1000) : (txt L).length ≤ 300000 := Nat.le_trans (join_len _) (wds_sum h hn)

theorem app_root {i : Nat} {fe : Env → Res D} {r r1 : Env} {xs : List D} {y : D} (h : r[i]? = some (some (.lst xs))) (e : fe r = .ok y r1) (hl : xs.length < 16777216) : fApp i pR fe r = .ok .non (r1.set i (some (.lst (xs ++ [y])))) := by
  unfold fApp pR
  simp only [h, D.at, e, Res.bind_ok, hl, if_true, D.put]
theorem ext_root {i : Nat} {fe : Env → Res D} {r r1 : Env} {xs ys : List D} (h : r[i]? = some (some (.lst xs))) (e : fe r = .ok (.lst ys) r1) (hp : pureL ys = true) (hl : xs.length + ys.length ≤ 16777216) : fExt i pR fe r = .ok .non (r1.set i (some (.lst (xs ++ ys)))) := by
  unfold fExt pR
  simp only [h, D.at, e, Res.bind_ok, hp, hl, decide_true, Bool.and_self, if_true, D.put]
theorem hold_ok {i : Nat} {f : Env → Res D} {r r1 : Env} {y : D} {o : Option D} (e : f r = .ok y r1) (h : r[i]? = some o) (hl : i < r1.length) : fHold i f r = .ok y (r1.set i o) := by
  unfold fHold
  simp only [e, Res.bind_ok, h, hl, if_true]
theorem dW_pure (ws : List (List Nat)) : pureL (ws.map dW) = true := pure_map (fun _ => rfl) ws
theorem user_ok {M : List D → FRes} {f : Env → Res D} {r : Env} {x y : D} {os : List D} (e : f r = .ok x r) (hp : x.pure = true) (hM : M [x] = .ok y os) : fUser 1 M (fCons f fNil) r = .ok y r := by
  simp [fUser, fCons, fNil, e, oneImp, hp, pureL, hM]
theorem encR_pure (k : Int) (i : Lg) : (encR k (enc i)).pure = true := by simp [encR, D.pure, pureL, enc_pure]

def Q_log_words : Nat → List D → FRes
  | 0 => fun _ => .bad
  | n + 1 => F_log_words (Q_log_words n) F_move_word
theorem lw_mv {M : List D → FRes} {t : Option D} {xs : List D} {w : Int} {l : List (Int × Int)} (hw : w = 1 ∨ w = -1) (h : LdOk (-1) l) (h3 : l.length ≤ 3) (hl : xs.length < 16777216) :
    lb_log_words_1 M F_move_word [t, some (.lst xs), some (encM w l)] = .next [t, some (.lst (xs ++ [dW (mvL w l)])), some (encM w l)] := by
  have e := e_move_word hw h h3
  have eu := user_ok (f := fVar 2) (r := [t, some (.lst xs), some (encM w l)]) rfl (encM_pure w l) e
  have ea := app_root (i := 1) rfl (hold_ok (i := 1) eu rfl (by simp)) hl
  have et : fBl (fBin dEq (fCall dLen (fCons (fVar 2) fNil)) (fC (.int 3))) [t, some (.lst xs), some (encM w l)] = .ok false [t, some (.lst xs), some (encM w l)] := rfl
  unfold lb_log_words_1
  simp only [sSeq, sIf, et, Res.toS_ok, Bool.false_eq_true, if_false, sExpr, ea, SRes.seq, sNil]
  rfl
theorem lw_rd {M : List D → FRes} {t : Option D} {xs : List D} {k : Int} {i : Lg} (h1 : 1 ≤ k) (h2 : k ≤ 1000000000000000000000000000000) (hM : M [.tup (enc i)] = .ok (.lst ((wds i).map dW)) []) (hl : xs.length + (wds i).length + 2 < 16777216) :
    lb_log_words_1 M F_move_word [t, some (.lst xs), some (encR k (enc i))] = .next [t, some (.lst (xs ++ (dW (opL k) :: ((wds i).map dW ++ [dW [41]])))), some (encR k (enc i))] := by
  have a := num31 (n := k.toNat) (by omega)
  have et : fBl (fBin dEq (fCall dLen (fCons (fVar 2) fNil)) (fC (.int 3))) [t, some (.lst xs), some (encR k (enc i))] = .ok true [t, some (.lst xs), some (encR k (enc i))] := rfl
  have ix1 : dIx (encR k (enc i)) (.int 1) = some (.int k) := atI1
  have ix2 : dIx (encR k (enc i)) (.int 2) = some (.tup (enc i)) := atI2
  have ed := e_dStr (i := k) (by omega) h2
  have ead : dAdd (.str (St (TL.numL k.toNat))) (.str "(") = some (dW (opL k)) := by rw [lit_o]; exact add_St (by simp; omega)
  have f1 : fBin dAdd (fCall dStr (fCons (fBin dIx (fVar 2) (fC (.int 1))) fNil)) (fC (.str "(")) [t, some (.lst xs), some (encR k (enc i))] = .ok (dW (opL k)) [t, some (.lst xs), some (encR k (enc i))] := by
    simp [fBin, fCall, fCons, fNil, fVar, fC, ix1, ed, ead]
  have g1 := app_root (i := 1) rfl (hold_ok (i := 1) f1 rfl (by simp)) (by omega : xs.length < 16777216)
  have f2 : ∀ ys : List D, fBin dIx (fVar 2) (fC (.int 2)) [t, some (.lst ys), some (encR k (enc i))] = .ok (.tup (enc i)) [t, some (.lst ys), some (encR k (enc i))] := fun ys => by
    simp [fBin, fVar, fC, ix2]
  have hp : (D.tup (enc i)).pure = true := enc_pure i
  have u2 := user_ok (M := M) (f2 (xs ++ [dW (opL k)])) hp hM
  have g2 := ext_root (i := 1) rfl (hold_ok (i := 1) u2 rfl (by simp)) (dW_pure (wds i)) (by simp; omega)
  have g3 := app_root (i := 1) (fe := fHold 1 (fC (.str ")"))) (r := [t, some (.lst ((xs ++ [dW (opL k)]) ++ (wds i).map dW)), some (encR k (enc i))]) rfl (hold_ok (i := 1) rfl rfl (by simp)) (by simp; omega)
  unfold lb_log_words_1
  simp only [sSeq, sIf, et, Res.toS_ok, if_true, sExpr, g1, SRes.seq, sNil, List.set_cons_succ, List.set_cons_zero]
  simp only [g2, Res.toS_ok, List.set_cons_succ, List.set_cons_zero]
  simp only [g3, Res.toS_ok, List.set_cons_succ, List.set_cons_zero]
  rw [lit_c]
  simp [dW]
theorem lw_go {M : List D → FRes} {t : Option D} {e : Nat} (hM : ∀ i : Lg, ∀ e', e = e' + 1 → LOk i e' → (wds i).length ≤ 1000 → M [.tup (enc i)] = .ok (.lst ((wds i).map dW)) []) : ∀ {L : Lg} {xs : List D} {o : Option D}, LOk L e → xs.length + (wds L).length ≤ 1000 →
    ∃ o', forGo (gN 2) (lb_log_words_1 M F_move_word) (enc L) [t, some (.lst xs), o] = .next [t, some (.lst (xs ++ (wds L).map dW)), o']
  | .nil, xs, o, _, _ => ⟨o, by simp [enc, wds, forGo_nil]⟩
  | .mv w l r, xs, o, h, hl => by
    simp only [wds, List.length_cons] at hl
    obtain ⟨o', q⟩ := lw_go hM (t := t) (xs := xs ++ [dW (mvL w l)]) (o := some (encM w l)) h.2.2.2 (by simp; omega)
    refine ⟨o', ?_⟩
    show forGo (gN 2) _ (encM w l :: enc r) _ = _
    rw [forGo_cons]
    simp only [gN, List.set_cons_succ, List.set_cons_zero, lw_mv h.1 h.2.1 h.2.2.1 (by omega : xs.length < 16777216)]
    rw [q]
    simp [wds]
  | .rd k i r, xs, o, h, hl => by
    simp only [wds, List.length_cons, List.length_append] at hl
    obtain ⟨h1, h2, h3, ⟨e', ee, hi⟩, hr⟩ := h
    obtain ⟨o', q⟩ := lw_go hM (t := t) (xs := xs ++ (dW (opL k) :: ((wds i).map dW ++ [dW [41]]))) (o := some (encR k (enc i))) hr (by simp; omega)
    refine ⟨o', ?_⟩
    show forGo (gN 2) _ (encR k (enc i) :: enc r) _ = _
    rw [forGo_cons]
    simp only [gN, List.set_cons_succ, List.set_cons_zero, lw_rd h1 h2 (hM i e' ee hi (by omega)) (by omega : xs.length + (wds i).length + 2 < 16777216)]
    rw [q]
    simp [wds]
theorem e_log_words : ∀ {n : Nat} {L : Lg} {e : Nat}, e < n → LOk L e → (wds L).length ≤ 1000 → Q_log_words n [.tup (enc L)] = .ok (.lst ((wds L).map dW)) []
  | n + 1, L, e, hn, h, hl => by
    obtain ⟨o', q⟩ := lw_go (M := Q_log_words n) (t := some (.tup (enc L))) (fun i e' ee hi hl' => e_log_words (by omega) hi hl') (xs := []) (o := none) h (by simpa using hl)
    simp [Q_log_words, F_log_words, fb_log_words, fnF, sSeq, SRes.seq, sRet, sRetN, sAsg, optS, sAug, augAdd, augSub, sIf, sFor, sNil, sBad, sExpr, fAndV, fOrV, fNotV, fNeg, fUser, fCons, fNil, fVar, fC, fPure, fTup, fLst, szOk, fTru, truR, truD, fBl, fBin, fChain, fAnd, fOr, fNot, fIf, fCall, fIsi, fIsi2, isR, isR2, isTy_non, isTy_bl, isTy_int, isTy_str, isTy_tup, isTy_lst, tyTab, dLe, dLt, dGt, dGe, iBin, dIsN, dNotN, dAdd, dSub, dMod, dLen, dIx, initE, argPure, oneImp, endF, retF, outsOf, D.pure, pureL, gN, gTp, gsCons, gsNil, fSl, gSl, fSomeP, fNoP, fSeq, seqD_tup, seqD_lst, fArgL, gZip, optL, fM1, fLc, pureAt, Res.bind_ok, Res.bind_bad, Res.bind_exc, Res.toS_ok, Res.toS_bad, Res.toS_exc, optR, enc_pure, List.replicate, q]
abbrev Q_log_text (n : Nat) := F_log_text (Q_log_words n)
theorem e_log_text {n : Nat} {L : Lg} {e : Nat} (hn : e < n) (h : LOk L e) (hl : (wds L).length ≤ 1000) : Q_log_text n [.tup (enc L)] = .ok (dW (txt L)) [] := by
  have e1 := e_log_words hn h hl
  have u := user_ok (M := Q_log_words n) (f := fVar 0) (r := [some (.tup (enc L))]) rfl (show (D.tup (enc L)).pure = true from enc_pure L) e1
  have gj := gJoin_ok (c := 32) (ws := wds L) (Nat.le_trans (wds_sum h hl) (by decide))
  show endF [] (fb_log_text (Q_log_words n) [some (.tup (enc L))]) = _
  unfold fb_log_text
  rw [lit_s]
  simp only [sSeq, sRet, fM1, fC, Res.bind_ok, u]
  rw [show (wds L).map dW = (wds L).map (fun w => D.str (St w)) from rfl, gj]
  rfl

/-! the law's own -/
def Q__law_log_text : Nat → List D → FRes
  | 0 => fun _ => .bad
  | n + 1 => F__law_log_text (Q__law_log_text n) F__law_move_word
/-- the words, what stands within written as one -/
def wdsT : Lg → List (List Nat)
  | .nil => []
  | .mv w l r => mvL w l :: wdsT r
  | .rd k i r => opL k :: txt i :: [41] :: wdsT r
theorem joinL_cons {s : List Nat} {a : List Nat} {b : List (List Nat)} (h : b ≠ []) : TL.joinL s (a :: b) = a ++ (s ++ TL.joinL s b) := by
  cases b with
  | nil => exact absurd rfl h
  | cons p b => rfl
theorem joinL_app {s : List Nat} {b : List (List Nat)} (hb : b ≠ []) : ∀ {a : List (List Nat)}, a ≠ [] → TL.joinL s (a ++ b) = TL.joinL s a ++ (s ++ TL.joinL s b)
  | [], h => absurd rfl h
  | [p], _ => joinL_cons hb
  | p :: q :: a, _ => by
    rw [List.cons_append, joinL_cons (by simp), joinL_app hb (by simp), joinL_cons (by simp : q :: a ≠ [])]
    simp
theorem wds_ne {i : Lg} (h : i ≠ .nil) : wds i ≠ [] := by
  cases i with
  | nil => exact absurd rfl h
  | mv w l r => simp [wds]
  | rd k i r => simp [wds]
theorem wdsT_nil {L : Lg} : wdsT L = [] ↔ wds L = [] := by
  cases L <;> simp [wdsT, wds]
theorem txt_T : ∀ {L : Lg} {e : Nat}, LOk L e → TL.joinL [32] (wdsT L) = txt L
  | .nil, _, _ => rfl
  | .mv w l r, e, h => by
    have q := txt_T h.2.2.2
    unfold txt at q ⊢
    simp only [wdsT, wds]
    by_cases c : wds r = []
    · rw [c, wdsT_nil.mpr c]
    · rw [joinL_cons c, joinL_cons (fun z => c (wdsT_nil.mp z)), q]
  | .rd k i r, e, h => by
    obtain ⟨h1, h2, h3, ⟨e', ee, hi⟩, hr⟩ := h
    have q := txt_T hr
    have ni := wds_ne h3
    show TL.joinL [32] (opL k :: txt i :: [41] :: wdsT r) = TL.joinL [32] (opL k :: (wds i ++ [41] :: wds r))
    rw [joinL_cons (by simp : wds i ++ [41] :: wds r ≠ []), joinL_app (by simp : [41] :: wds r ≠ []) ni]
    by_cases c : wds r = []
    · rw [c, wdsT_nil.mpr c]; rfl
    · have c' : wdsT r ≠ [] := fun z => c (wdsT_nil.mp z)
      rw [joinL_cons c, joinL_cons (by simp : txt i :: [41] :: wdsT r ≠ []), joinL_cons (by simp : [41] :: wdsT r ≠ []), joinL_cons c', q]; rfl
theorem wdsT_sum : ∀ {L : Lg} {e : Nat}, LOk L e → ((wdsT L).map (·.length)).sum + (wdsT L).length ≤ ((wds L).map (·.length)).sum + (wds L).length
  | .nil, _, _ => Nat.le_refl _
  | .mv w l r, e, h => by
    have q := wdsT_sum h.2.2.2
    simp only [wdsT, wds, List.map_cons, List.sum_cons, List.length_cons]
    omega
  | .rd k i r, e, h => by
    obtain ⟨h1, h2, h3, ⟨e', ee, hi⟩, hr⟩ := h
    have q := wdsT_sum hr
    have b : (txt i).length + 1 ≤ ((wds i).map (·.length)).sum + (wds i).length := by
      have ni := wds_ne h3
      unfold txt
      generalize wds i = ws at ni
      induction ws with
      | nil => exact absurd rfl ni
      | cons a ws ih =>
        by_cases c : ws = []
        · subst c; simp [TL.joinL]
        · rw [joinL_cons c]
          have := ih c
          simp only [List.length_append, List.map_cons, List.sum_cons, List.length_cons, List.length_nil]
          omega
    simp only [wdsT, wds, List.map_cons, List.map_append, List.sum_cons, List.sum_append, List.length_cons, List.length_append]
    omega
theorem wdsT_le : ∀ {L : Lg} {e : Nat}, LOk L e → (wdsT L).length ≤ (wds L).length
  | .nil, _, _ => Nat.le_refl _
  | .mv w l r, e, h => by
    have q := wdsT_le h.2.2.2
    simp only [wdsT, wds, List.length_cons]
    omega
  | .rd k i r, e, h => by
    obtain ⟨h1, h2, h3, ⟨e', ee, hi⟩, hr⟩ := h
    have q := wdsT_le hr
    have p := List.length_pos_iff.mpr (wds_ne h3)
    simp only [wdsT, wds, List.length_cons, List.length_append]
    omega
theorem lt_mv {M : List D → FRes} {t : Option D} {xs : List D} {w : Int} {l : List (Int × Int)} (hw : w = 1 ∨ w = -1) (h : LdOk (-1) l) (h3 : l.length ≤ 3) (hl : xs.length < 16777216) :
    lb__law_log_text_1 M F__law_move_word [t, some (.lst xs), some (encM w l)] = .next [t, some (.lst (xs ++ [dW (mvL w l)])), some (encM w l)] := by
  have e := e__law_move_word hw h h3
  have eu := user_ok (f := fVar 2) (r := [t, some (.lst xs), some (encM w l)]) rfl (encM_pure w l) e
  have ea := app_root (i := 1) rfl (hold_ok (i := 1) eu rfl (by simp)) hl
  have et : fBl (fBin dEq (fCall dLen (fCons (fVar 2) fNil)) (fC (.int 3))) [t, some (.lst xs), some (encM w l)] = .ok false [t, some (.lst xs), some (encM w l)] := rfl
  unfold lb__law_log_text_1
  simp only [sSeq, sIf, et, Res.toS_ok, Bool.false_eq_true, if_false, sExpr, ea, SRes.seq, sNil]
  rfl
theorem lt_rd {M : List D → FRes} {t : Option D} {xs : List (List Nat)} {k : Int} {i : Lg} (h1 : 1 ≤ k) (h2 : k ≤ 1000000000000000000000000000000) (hM : M [.tup (enc i)] = .ok (dW (txt i)) []) (hl : xs.length + 3 < 16777216) :
    lb__law_log_text_1 M F__law_move_word [t, some (.lst (xs.map dW)), some (encR k (enc i))] = .next [t, some (.lst ((xs ++ [opL k, txt i, [41]]).map dW)), some (encR k (enc i))] := by
  have a := num31 (n := k.toNat) (by omega)
  have et : fBl (fBin dEq (fCall dLen (fCons (fVar 2) fNil)) (fC (.int 3))) [t, some (.lst (xs.map dW)), some (encR k (enc i))] = .ok true [t, some (.lst (xs.map dW)), some (encR k (enc i))] := rfl
  have ix1 : dIx (encR k (enc i)) (.int 1) = some (.int k) := atI1
  have ix2 : dIx (encR k (enc i)) (.int 2) = some (.tup (enc i)) := atI2
  have ed := e_dStr (i := k) (by omega) h2
  have ead : dAdd (.str (St (TL.numL k.toNat))) (.str "(") = some (dW (opL k)) := by rw [lit_o]; exact add_St (by simp; omega)
  have f1 : fBin dAdd (fCall dStr (fCons (fBin dIx (fVar 2) (fC (.int 1))) fNil)) (fC (.str "(")) [t, some (.lst (xs.map dW)), some (encR k (enc i))] = .ok (dW (opL k)) [t, some (.lst (xs.map dW)), some (encR k (enc i))] := by
    simp [fBin, fCall, fCons, fNil, fVar, fC, ix1, ed, ead]
  have f2 : fBin dIx (fVar 2) (fC (.int 2)) [t, some (.lst (xs.map dW)), some (encR k (enc i))] = .ok (.tup (enc i)) [t, some (.lst (xs.map dW)), some (encR k (enc i))] := by
    simp [fBin, fVar, fC, ix2]
  have hp : (D.tup (enc i)).pure = true := enc_pure i
  have u2 := user_ok (M := M) f2 hp hM
  have e4 : dAdd (.lst (xs.map dW)) (.lst [dW (opL k), dW (txt i), .str ")"]) = some (.lst ((xs ++ [opL k, txt i, [41]]).map dW)) := by
    rw [lit_c]
    have p1 := dW_pure xs
    have p2 : pureL [dW (opL k), dW (txt i), .str (St [41])] = true := dW_pure [opL k, txt i, [41]]
    have hs : (xs.map dW).length + [dW (opL k), dW (txt i), .str (St [41])].length ≤ sizeLine := le_line (by simp; omega)
    simp only [dAdd, p1, p2, hs, decide_true, Bool.and_self, if_true, List.map_append]
    rfl
  have el := fLst_ok (fCons_ok f1 (fCons_ok u2 (fOne_ok (fC_ok (d := .str ")"))))) (by simp)
  have e5 := sAsg_ok (g := gN 1) (fBin_ok (g := dAdd) (fVar_ok (i := 1) (r := [t, some (.lst (xs.map dW)), some (encR k (enc i))]) rfl) el e4) rfl
  unfold lb__law_log_text_1
  rw [sSeq_next (r1 := [t, some (.lst ((xs ++ [opL k, txt i, [41]]).map dW)), some (encR k (enc i))])]
  · rfl
  · rw [sIf_t et, sSeq_next e5]
    simp [sNil]
theorem lt_go {M : List D → FRes} {t : Option D} {e : Nat} (hM : ∀ i : Lg, ∀ e', e = e' + 1 → LOk i e' → (wds i).length ≤ 1000 → M [.tup (enc i)] = .ok (dW (txt i)) []) : ∀ {L : Lg} {xs : List (List Nat)} {o : Option D}, LOk L e → xs.length + (wds L).length ≤ 1000 →
    ∃ o', forGo (gN 2) (lb__law_log_text_1 M F__law_move_word) (enc L) [t, some (.lst (xs.map dW)), o] = .next [t, some (.lst ((xs ++ wdsT L).map dW)), o']
  | .nil, xs, o, _, _ => ⟨o, by simp [enc, wdsT, forGo_nil]⟩
  | .mv w l r, xs, o, h, hl => by
    simp only [wds, List.length_cons] at hl
    obtain ⟨o', q⟩ := lt_go hM (t := t) (xs := xs ++ [mvL w l]) (o := some (encM w l)) h.2.2.2 (by simp; omega)
    refine ⟨o', ?_⟩
    show forGo (gN 2) _ (encM w l :: enc r) _ = _
    rw [forGo_cons]
    simp only [gN, List.set_cons_succ, List.set_cons_zero, lt_mv h.1 h.2.1 h.2.2.1 (by simp; omega : (xs.map dW).length < 16777216)]
    rw [List.map_append] at q
    rw [show [dW (mvL w l)] = [mvL w l].map dW from rfl, q]
    simp [wdsT]
  | .rd k i r, xs, o, h, hl => by
    simp only [wds, List.length_cons, List.length_append] at hl
    obtain ⟨h1, h2, h3, ⟨e', ee, hi⟩, hr⟩ := h
    have ni := List.length_pos_iff.mpr (wds_ne h3)
    obtain ⟨o', q⟩ := lt_go hM (t := t) (xs := xs ++ [opL k, txt i, [41]]) (o := some (encR k (enc i))) hr (by simp; omega)
    refine ⟨o', ?_⟩
    show forGo (gN 2) _ (encR k (enc i) :: enc r) _ = _
    rw [forGo_cons]
    simp only [gN, List.set_cons_succ, List.set_cons_zero, lt_rd h1 h2 (hM i e' ee hi (by omega)) (by omega : xs.length + 3 < 16777216)]
    rw [q]
    simp [wdsT]
theorem e__law_log_text : ∀ {n : Nat} {L : Lg} {e : Nat}, e < n → LOk L e → (wds L).length ≤ 1000 → Q__law_log_text n [.tup (enc L)] = .ok (dW (txt L)) []
  | n + 1, L, e, hn, h, hl => by
    obtain ⟨o', q⟩ := lt_go (M := Q__law_log_text n) (t := some (.tup (enc L))) (fun i e' ee hi hl' => e__law_log_text (by omega) hi hl') (xs := []) (o := none) h (by simpa using hl)
    have gj := gJoin_ok (c := 32) (ws := wdsT L) (Nat.le_trans (wdsT_sum h) (Nat.le_trans (wds_sum h hl) (by decide)))
    rw [txt_T h] at gj
    show endF [] (fb__law_log_text (Q__law_log_text n) F__law_move_word [some (.tup (enc L)), none, none]) = _
    unfold fb__law_log_text
    have f0 := fSeq_ok (f := fVar 0) (r := [some (.tup (enc L)), some (.lst []), none]) rfl (show seqD (.tup (enc L)) = some (enc L) by rw [seqD_tup, if_pos (enc_pure L)])
    have gj' : gJoin " " (.lst (([] ++ wdsT L).map dW)) = some (dW (txt L)) := gj
    rw [sSeq_next (r1 := [some (.tup (enc L)), some (.lst []), none]) (sAsg_ok (g := gN 1) (fLst_ok fNil_ok (by simp)) rfl)]
    rw [sSeq_next ((sFor_ok f0).trans q)]
    rw [sSeq_ret (sRet_ok (fM1_ok (a := " ") fC_ok (fVar_ok rfl) gj'))]
    rfl
end DL

set_option Elab.async false
set_option linter.all false
set_option maxRecDepth 100000
set_option maxHeartbeats 1000000
namespace DL
open PySem PySem.Spec L2

/-! ### splitting -/
theorem split_St {c : Nat} {ws : List (List Nat)} (hc : c < 256) (hne : ws ≠ []) (hp : ∀ w ∈ ws, c ∉ w) : Txt.split (St (TL.joinL [c] ws)) (St [c]) = ws.map St := by
  rw [← join_St]
  refine TL.split_join (s := c) (S := []) rfl ?_ (fun h => hne (List.map_eq_nil_iff.mp h)) fun p m => ?_
  · show ([c].toArray).all (fun x => decide (x < 256)) = true
    simp [hc]
  · obtain ⟨w, mw, rfl⟩ := List.mem_map.mp m
    exact hp w mw
theorem gSplit_ok {c : Nat} {ws : List (List Nat)} (hc : c < 256) (hne : ws ≠ []) (hp : ∀ w ∈ ws, c ∉ w) (hl : (TL.joinL [c] ws).length ≤ 16777000) : gSplit (St (TL.joinL [c] ws)) (.str (St [c])) = some (.lst (ws.map dW)) := by
  have a : (!((St [c]).length == 0) && decide ((St (TL.joinL [c] ws)).length + 2 ≤ 16777216)) = true := by
    rw [St_len, St_len]
    simp; omega
  unfold gSplit
  simp only [a, if_true, split_St hc hne hp, List.map_map]
  rfl
theorem pairL_join (p : Int × Int) : pairL p = TL.joinL [120] [TL.numL p.1.toNat, TL.numL p.2.toNat] := rfl
theorem mem_joinL {s c : Nat} : ∀ {ws : List (List Nat)}, c ∈ TL.joinL [s] ws → c = s ∨ ∃ w ∈ ws, c ∈ w
  | [], h => by cases h
  | [p], h => .inr ⟨p, List.mem_cons_self, h⟩
  | p :: q :: r, h => by
    have h' : c ∈ p ++ ([s] ++ TL.joinL [s] (q :: r)) := h
    rcases List.mem_append.mp h' with h' | h'
    · exact .inr ⟨p, List.mem_cons_self, h'⟩
    · rcases List.mem_append.mp h' with h' | h'
      · exact .inl (by simpa using h')
      · rcases mem_joinL h' with e | ⟨w, mw, e⟩
        · exact .inl e
        · exact .inr ⟨w, List.mem_cons_of_mem _ mw, e⟩
theorem mem_pair {p : Int × Int} {c : Nat} (h : c ∈ pairL p) : c = 120 ∨ (48 ≤ c ∧ c ≤ 57) := by
  rcases mem_joinL (pairL_join p ▸ h) with e | ⟨w, mw, e⟩
  · exact .inl e
  · simp at mw
    rcases mw with rfl | rfl
    · exact .inr (TL.numL_digits _ c e)
    · exact .inr (TL.numL_digits _ c e)
theorem mem_mv {w : Int} {l : List (Int × Int)} {c : Nat} (h : c ∈ mvL w l) : c = 43 ∨ c = 45 ∨ c = 44 ∨ c = 120 ∨ (48 ≤ c ∧ c ≤ 57) := by
  rcases List.mem_cons.mp h with e | h
  · unfold wayL at e
    split at e <;> omega
  · rcases mem_joinL h with e | ⟨w, mw, e⟩
    · omega
    · obtain ⟨p, _, rfl⟩ := List.mem_map.mp mw
      have := mem_pair e
      omega
theorem ends_not {l : List Nat} {d : Nat} (h : d ∉ l) : Txt.endswith (St l) (St [d]) = false := by
  rcases List.eq_nil_or_concat l with rfl | ⟨l', c, rfl⟩
  · unfold Txt.endswith
    have h : decide (0 + (St [d]).length ≤ (St []).length) = false := by rw [St_len, St_len]; simp
    rw [h]; rfl
  · rw [List.concat_eq_append] at h ⊢
    rw [ends1]
    have : c ≠ d := fun e => h (by rw [e]; simp)
    simpa using this
theorem cut_tail {c : Nat} {r : List Nat} : cutS (St (c :: r)) (some 1) none = St r := by
  refine TL.ext_tl ?_
  show ((c :: r).drop (HT.sIx (St (c :: r)).length 0 (some 1))).take (HT.sIx (St (c :: r)).length (St (c :: r)).length none - HT.sIx (St (c :: r)).length 0 (some 1)) = r
  rw [St_len]
  have e1 : HT.sIx (c :: r).length 0 (some 1) = 1 := by
    unfold HT.sIx
    simp
  rw [e1, HT.sIx_none]
  simp
theorem cut_init {c : Nat} {r : List Nat} : cutS (St (r ++ [c])) none (some (-1)) = St r := by
  refine TL.ext_tl ?_
  show ((r ++ [c]).drop (HT.sIx (St (r ++ [c])).length 0 none)).take (HT.sIx (St (r ++ [c])).length (St (r ++ [c])).length (some (-1)) - HT.sIx (St (r ++ [c])).length 0 none) = r
  rw [St_len]
  have e1 : HT.sIx (r ++ [c]).length (r ++ [c]).length (some (-1)) = r.length := by
    unfold HT.sIx
    simp
    omega
  rw [e1, HT.sIx_none]
  simp
theorem gSl_str {x : List Nat} {lo hi : OI} (h : x.length ≤ 16777216) : gSl (.str (St x)) lo hi = some (.str (cutS (St x) lo hi)) := by
  have : szOk (St x).length = true := by rw [St_len]; exact decide_eq_true h
  simp only [gSl, this, if_true]

/-! ### pairs -/
abbrev Q_pair_in := F_pair_in F_number_in
abbrev Q_move_in := F_move_in Q_pair_in
abbrev Q_times_in := F_times_in F_number_in
theorem toNat_nn {i : Int} (h : 0 ≤ i) : ((i.toNat : Nat) : Int) = i := Int.toNat_of_nonneg h
theorem e_pair_in {p : Int × Int} (h1 : 0 ≤ p.1) (h2 : p.1 ≤ 1000000000000000000000000000000) (h3 : 0 ≤ p.2) (h4 : p.2 ≤ 1000000000000000000000000000000) : Q_pair_in [dW (pairL p)] = .ok (encP p) [] := by
  have n1 := e_number_in (n := p.1.toNat) (by omega)
  have n2 := e_number_in (n := p.2.toNat) (by omega)
  rw [toNat_nn h1] at n1
  rw [toNat_nn h3] at n2
  have pl := pair_len h2 h4
  have sp : gSplit (St (pairL p)) (.str "x") = some (.lst [dW (TL.numL p.1.toNat), dW (TL.numL p.2.toNat)]) := by
    rw [pairL_join] at pl ⊢
    exact gSplit_ok (by decide) (by simp) (fun w m => by
      simp at m
      rcases m with rfl | rfl <;> exact TL.numL_free (by omega)) (by omega)
  have u1 := user_ok (M := F_number_in) (f := fBin dIx (fVar 1) (fC (.int 0))) (r := [some (dW (pairL p)), some (.lst [dW (TL.numL p.1.toNat), dW (TL.numL p.2.toNat)]), none]) (x := dW (TL.numL p.1.toNat)) (fBin_ok (fVar_ok rfl) fC_ok atI0) rfl n1
  have u2 := user_ok (M := F_number_in) (f := fBin dIx (fVar 1) (fC (.int 1))) (r := [some (dW (pairL p)), some (.lst [dW (TL.numL p.1.toNat), dW (TL.numL p.2.toNat)]), none]) (x := dW (TL.numL p.2.toNat)) (fBin_ok (fVar_ok rfl) fC_ok atI1) rfl n2
  show endF [] (fb_pair_in F_number_in [some (dW (pairL p)), none, none]) = _
  unfold fb_pair_in
  refine endF_ret0 (r := [some (dW (pairL p)), some (.lst [dW (TL.numL p.1.toNat), dW (TL.numL p.2.toNat)]), some (encP p)]) ?_
  refine seq_next (r1 := [some (dW (pairL p)), some (.lst [dW (TL.numL p.1.toNat), dW (TL.numL p.2.toNat)]), none]) (sAsg_ok (fM1_ok (fVar_ok rfl) fC_ok sp) rfl) ?_
  refine seq_next rfl ?_
  exact seq_next (sAsg_ok (fTup_ok (fCons_ok u1 (fOne_ok u2)) (by simp)) rfl) rfl
theorem wayL_in (w : Int) (r : Env) : wIn t_WAYS true (.str (St [wayL w])) r = .ok (.bl false) r := by
  unfold wayL
  split <;> rfl
theorem notway {c : Nat} (h1 : c ≠ 43) (h2 : c ≠ 45) (r : Env) : wIn t_WAYS true (.str (St [c])) r = .ok (.bl true) r := by
  have e1 : ¬ (Sum.inr (Str.ofString "+") : Key) = .inr (St [c]) := fun h => by
    have h' : St [43] = St [c] := Sum.inr.inj h
    have := St_inj.mp h'
    simp at this; omega
  have e2 : ¬ (Sum.inr (Str.ofString "-") : Key) = .inr (St [c]) := fun h => by
    have h' : St [45] = St [c] := Sum.inr.inj h
    have := St_inj.mp h'
    simp at this; omega
  simp [wIn, keyD, t_WAYS, wGet, e1, e2]
theorem in_pairs {l : List (Int × Int)} (h3 : l.length ≤ 3) : dIn .non (.lst (l.map encP)) = some (.bl false) := by
  match l, h3 with
  | [], _ => rfl
  | [a], _ => rfl
  | [a, b], _ => rfl
  | [a, b, c], _ => rfl
theorem lc_mvs {M : List D → FRes} {fe : Env → Res D} {t o : Option D} {l : List (Int × Int)} (hs : ∀ p ∈ l, fe [t, o, some (dW (pairL p))] = .ok (encP p) [t, o, some (dW (pairL p))]) (hl : l.length ≤ 16777216) :
    lcGo (gN 2) tTrue fe [2] ((l.map pairL).map dW) [t, o, none] [] = .ok (.lst (l.map encP)) [t, o, none] := by
  have go : ∀ {l : List (Int × Int)} {acc : List D}, (∀ p ∈ l, fe [t, o, some (dW (pairL p))] = .ok (encP p) [t, o, some (dW (pairL p))]) → acc.length + l.length ≤ 16777216 →
      lcGo (gN 2) tTrue fe [2] ((l.map pairL).map dW) [t, o, none] acc = .ok (.lst (acc ++ l.map encP)) [t, o, none] := fun {l} => by
    induction l with
    | nil => intro acc _ _; simp [lcGo]
    | cons p l ih =>
      intro acc hs hl
      rw [List.length_cons] at hl
      have hl' : acc.length < 16777216 := by omega
      have e1 : gN 2 (dW (pairL p)) (wipeE [t, o, none] [2]) = some [t, o, some (dW (pairL p))] := rfl
      rw [List.map_cons, List.map_cons, lcGo_cons, e1]
      simp only [tTrue, hs p List.mem_cons_self, encP_pure, hl', decide_true, Bool.and_self, if_true]
      rw [show unw [t, o, none] [t, o, some (dW (pairL p))] [2] = [t, o, none] from rfl]
      rw [ih (fun d m => hs d (List.mem_cons_of_mem _ m)) (by rw [List.length_append, List.length_singleton]; omega)]
      simp
  have q := go (acc := []) hs (by simpa using hl)
  rw [q, List.nil_append]
theorem e_move_in {w : Int} {l : List (Int × Int)} (hw : w = 1 ∨ w = -1) (h : LdOk (-1) l) (h3 : l.length ≤ 3) : Q_move_in [dW (mvL w l)] = .ok (encM w l) [] := by
  have ml := mv_len (w := w) h h3
  have lc := lc_mvs (M := Q_pair_in) (fe := le_move_in_1 Q_pair_in) (t := some (dW (mvL w l))) (o := none) (l := l) (fun p m => by
    have q := h.ge p m
    exact user_ok (fVar_ok rfl) rfl (e_pair_in (by omega) (by omega) (by omega) (by omega))) (by omega)
  have ix : dIx (dW (mvL w l)) (.int 0) = some (.str (St [wayL w])) := ix_St0 (c := wayL w) (r := TL.joinL [44] (l.map pairL)) (by unfold mvL at ml; omega)
  have e1 : dEq (dW (mvL w l)) (.str "") = some (.bl false) := by
    rw [lit_e]
    exact (sEq_str _ _).trans (by simp [mvL])
  have t0 : fOr (fBl (fBin dEq (fVar 0) (fC (.str "")))) (fBl (fWIn t_WAYS true (fBin dIx (fVar 0) (fC (.int 0))))) [some (dW (mvL w l)), none, none] = .ok false [some (dW (mvL w l)), none, none] :=
    fOr_f (fBl_ok (fBin_ok (fVar_ok rfl) fC_ok e1)) (fBl_ok (by
      unfold fWIn
      rw [fBin_ok (x := dW (mvL w l)) (fVar_ok rfl) fC_ok ix, Res.bind_ok, wayL_in]))
  have pairs : fIf (fBl (fBin dGt (fCall dLen (fCons (fVar 0) fNil)) (fC (.int 1)))) (fLc (fSeq (fM1 gSplit (fSl (fVar 0) (fSomeP (fC (.int 1))) fNoP) (fC (.str ",")))) (gN 2) tTrue (le_move_in_1 Q_pair_in) [2]) (fLst fNil) [some (dW (mvL w l)), none, none] = .ok (.lst (l.map encP)) [some (dW (mvL w l)), none, none] := by
    have dl : dLen [dW (mvL w l)] = some (.int (mvL w l).length) := by
      have : szOk (St (mvL w l)).length = true := by rw [St_len]; exact decide_eq_true (by omega)
      simp only [dLen, dW, this, if_true]
      rw [St_len]
    by_cases c : l = []
    · subst c
      refine fIf_f (fBl_ok (fBin_ok (fCall_ok (fOne_ok (fVar_ok rfl)) dl) fC_ok rfl)) (fLst_ok fNil_ok (by simp))
    · have ne : l.map pairL ≠ [] := fun z => c (List.map_eq_nil_iff.mp z)
      have l1 : (1 : Int) < ((mvL w l).length : Int) := by
        unfold mvL
        rw [List.length_cons]
        cases l with
        | nil => exact absurd rfl c
        | cons p l =>
          have : TL.numL p.1.toNat ≠ [] := TL.numL_ne _
          have z : 0 < (TL.joinL [44] ((p :: l).map pairL)).length := by
            rw [List.map_cons]
            cases hq : l.map pairL with
            | nil => show 0 < (pairL p).length; simp [pairL]; omega
            | cons a b => show 0 < (pairL p ++ _).length; simp [pairL]; omega
          omega
      have g1 : dGt (.int (mvL w l).length) (.int 1) = some (.bl true) := by
        show some (D.bl (decide ((1 : Int) < ((mvL w l).length : Int)))) = _
        rw [decide_eq_true l1]
      refine fIf_t (fBl_ok (fBin_ok (fCall_ok (fOne_ok (fVar_ok rfl)) dl) fC_ok g1)) ?_
      have gs : gSl (dW (mvL w l)) (some 1) none = some (dW (TL.joinL [44] (l.map pairL))) := by
        rw [show dW (mvL w l) = .str (St (mvL w l)) from rfl, gSl_str (by omega)]
        unfold mvL
        rw [cut_tail]; rfl
      have sp : gSplit (St (TL.joinL [44] (l.map pairL))) (.str ",") = some (.lst ((l.map pairL).map dW)) := gSplit_ok (by decide) ne (fun x m => by
        obtain ⟨p, _, rfl⟩ := List.mem_map.mp m
        intro z
        have := mem_pair z
        omega) (by unfold mvL at ml; rw [List.length_cons] at ml; omega)
      exact lc_ok (fSeq_ok (fM1_ok (a := St (TL.joinL [44] (l.map pairL))) (fSl_ok (fVar_ok rfl) (fSomeP_ok fC_ok) rfl gs) fC_ok sp) (show seqD (.lst ((l.map pairL).map dW)) = some _ by rw [seqD_lst, if_pos (dW_pure _)])) rfl lc
  have fin : fTup (fCons (fWIx t_WAYS (fBin dIx (fVar 0) (fC (.int 0)))) (fCons (fCall dTuple (fCons (fVar 1) fNil)) fNil)) [some (dW (mvL w l)), some (.lst (l.map encP)), none] = .ok (encM w l) [some (dW (mvL w l)), some (.lst (l.map encP)), none] := by
    have k1 : fWIx t_WAYS (fBin dIx (fVar 0) (fC (.int 0))) [some (dW (mvL w l)), some (.lst (l.map encP)), none] = .ok (.int w) [some (dW (mvL w l)), some (.lst (l.map encP)), none] := by
      unfold fWIx
      rw [fBin_ok (x := dW (mvL w l)) (fVar_ok rfl) fC_ok ix, Res.bind_ok]
      rcases hw with rfl | rfl <;> rfl
    have k2 : dTuple [.lst (l.map encP)] = some (.tup (l.map encP)) := by
      have hp : pureL (l.map encP) = true := pure_map encP_pure l
      simp only [dTuple, hp, if_true]
    exact fTup_ok (fCons_ok k1 (fOne_ok (fCall_ok (fOne_ok (fVar_ok rfl)) k2))) (by simp)
  show endF [] (fb_move_in Q_pair_in [some (dW (mvL w l)), none, none]) = _
  unfold fb_move_in
  refine endF_ret0 (r := [some (dW (mvL w l)), some (.lst (l.map encP)), none]) ?_
  refine seq_next (if_f t0 rfl) (seq_next (sAsg_ok pairs rfl) (seq_ret (sRet_ok (fIf_f (fBl_ok (fBin_ok fC_ok (fVar_ok rfl) (in_pairs h3))) fin))))
theorem e_move_not {c : Nat} {r : List Nat} (h1 : c ≠ 43) (h2 : c ≠ 45) (hl : (c :: r).length ≤ 1000) : Q_move_in [dW (c :: r)] = .ok .non [] := by
  have ix : dIx (dW (c :: r)) (.int 0) = some (.str (St [c])) := ix_St0 (by omega)
  have e1 : dEq (dW (c :: r)) (.str "") = some (.bl false) := by
    rw [lit_e]
    exact (sEq_str _ _).trans (by simp)
  have t0 : fOr (fBl (fBin dEq (fVar 0) (fC (.str "")))) (fBl (fWIn t_WAYS true (fBin dIx (fVar 0) (fC (.int 0))))) [some (dW (c :: r)), none, none] = .ok true [some (dW (c :: r)), none, none] :=
    fOr_f (fBl_ok (fBin_ok (fVar_ok rfl) fC_ok e1)) (fBl_ok (by
      unfold fWIn
      rw [fBin_ok (x := dW (c :: r)) (fVar_ok rfl) fC_ok ix, Res.bind_ok, notway h1 h2]))
  show endF [] (fb_move_in Q_pair_in [some (dW (c :: r)), none, none]) = _
  unfold fb_move_in
  exact endF_ret0 (seq_ret (if_t t0 rfl))
theorem e_times_in {k : Int} (h1 : 1 ≤ k) (h2 : k ≤ 1000000000000000000000000000000) : Q_times_in [dW (opL k)] = .ok (.int k) [] := by
  have n1 := e_number_in (n := k.toNat) (by omega)
  rw [toNat_nn (by omega)] at n1
  have a := num31 (n := k.toNat) (by omega)
  have ge : gEnds (St (opL k)) (.str "(") = some (.bl true) := by
    show some (D.bl (Txt.endswith (St (opL k)) "(")) = _
    rw [lit_o]
    unfold opL
    rw [ends1]; rfl
  have gs : gSl (dW (opL k)) none (some (-1)) = some (dW (TL.numL k.toNat)) := by
    rw [show dW (opL k) = .str (St (opL k)) from rfl, gSl_str (by unfold opL; simp; omega)]
    unfold opL
    rw [cut_init]; rfl
  have u := user_ok (M := F_number_in) (fSl_ok (f := fVar 0) (fl := fNoP) (fh := fSomeP (fNeg (fC (.int 1)))) (r := [some (dW (opL k))]) (fVar_ok rfl) rfl (fSomeP_ok rfl) gs) rfl n1
  show endF [] (fb_times_in F_number_in [some (dW (opL k))]) = _
  unfold fb_times_in
  exact endF_ret0 (seq_ret (sRet_ok (fIf_t (fTru_ok (fM1_ok (fVar_ok rfl) fC_ok ge) rfl) u)))
theorem e_times_not {l : List Nat} (h : 40 ∉ l) : Q_times_in [dW l] = .ok .non [] := by
  have ge : gEnds (St l) (.str "(") = some (.bl false) := by
    show some (D.bl (Txt.endswith (St l) "(")) = _
    rw [lit_o, ends_not h]
  show endF [] (fb_times_in F_number_in [some (dW l)]) = _
  unfold fb_times_in
  exact endF_ret0 (seq_ret (sRet_ok (fIf_f (fTru_ok (fM1_ok (fVar_ok rfl) fC_ok ge) rfl) fC_ok)))
end DL

set_option Elab.async false
set_option linter.all false
set_option maxRecDepth 100000
set_option maxHeartbeats 1000000
namespace DL
open PySem PySem.Spec L2

theorem go_step {g : D → Env → Option Env} {body : Env → SRes} {d : D} {ds : List D} {r r1 r2 : Env} (h1 : g d r = some r1) (h2 : body r1 = .next r2) : forGo g body (d :: ds) r = forGo g body ds r2 := by
  rw [forGo_cons, h1]
  simp only [h2]
/-! ### places at a list's end -/
theorem ixN_last {n : Nat} : ixN (n + 1) (-1) = some n := by
  unfold ixN
  rw [if_neg (by decide), if_pos (by omega)]
  congr 1
  omega
theorem kid_last {xs : List D} {y : D} : (xs ++ [y])[xs.length]? = some y := by simp
theorem set_last {xs : List D} {y z : D} : (xs ++ [y]).set xs.length z = xs ++ [z] := by simp
theorem app_last1 {i : Nat} {fe : Env → Res D} {r r1 : Env} {xs acc : List D} {y : D} (h : r[i]? = some (some (.lst (xs ++ [.lst acc])))) (e : fe r = .ok y r1) (hl : acc.length < 16777216) :
    fApp i (pIx i pR (qC (-1))) fe r = .ok .non (r1.set i (some (.lst (xs ++ [.lst (acc ++ [y])])))) := by
  have ep : pIx i pR (qC (-1)) r = some [xs.length] := by
    unfold pIx pR qC
    simp only [h, D.at, seqLen, List.length_append, List.length_cons, List.length_nil, Nat.zero_add, ixN_last, List.nil_append]
  unfold fApp
  simp only [ep, h, D.at, D.kids, kid_last, e, Res.bind_ok, hl, if_true, D.put, D.setKid, set_last]
theorem app_last2 {i : Nat} {fe : Env → Res D} {r r1 : Env} {xs acc : List D} {a y : D} (h : r[i]? = some (some (.lst (xs ++ [.tup [a, .lst acc]])))) (e : fe r = .ok y r1) (hl : acc.length < 16777216) :
    fApp i (pIx i (pIx i pR (qC (-1))) (qC 1)) fe r = .ok .non (r1.set i (some (.lst (xs ++ [.tup [a, .lst (acc ++ [y])]])))) := by
  have ep : pIx i pR (qC (-1)) r = some [xs.length] := by
    unfold pIx pR qC
    simp only [h, D.at, seqLen, List.length_append, List.length_cons, List.length_nil, Nat.zero_add, ixN_last, List.nil_append]
  have i1 : ixN (0 + 1 + 1) 1 = some 1 := by decide
  have ep2 : pIx i (pIx i pR (qC (-1))) (qC 1) r = some [xs.length, 1] := by
    rw [pIx]
    simp only [ep, h, D.at, D.kids, kid_last, qC, seqLen, List.length_cons, List.length_nil, i1]
    rfl
  unfold fApp
  simp only [ep2, h, D.at, D.kids, kid_last, e, Res.bind_ok, hl, if_true, D.put, D.setKid, set_last, List.getElem?_cons_succ, List.getElem?_cons_zero, List.set_cons_succ, List.set_cons_zero]
theorem pop_root {i : Nat} {r : Env} {xs : List D} {y : D} (h : r[i]? = some (some (.lst (xs ++ [y])))) : fPop i pR r = .ok y (r.set i (some (.lst xs))) := by
  unfold fPop pR
  simp only [h, D.at]
  have e : (xs ++ [y])[(xs ++ [y]).length - 1]? = some y := by simp
  rw [e]
  simp [D.put]
theorem atI_last {xs : List D} {y : D} : atI (xs ++ [y]) (-1) = some y := by
  unfold atI
  rw [List.length_append, List.length_singleton, ixN_last]
  simp

/-! ### the words, each behind its place -/
inductive IsW : List D → List (List Nat) → Prop where
  | nil : IsW [] []
  | cons (i : D) {P : List D} {w : List Nat} {ws : List (List Nat)} : IsW P ws → IsW (.tup [i, dW w] :: P) (w :: ws)
theorem IsW.split : ∀ {a b : List (List Nat)} {P : List D}, IsW P (a ++ b) → ∃ P1 P2, P = P1 ++ P2 ∧ IsW P1 a ∧ IsW P2 b
  | [], b, P, h => ⟨[], P, rfl, .nil, h⟩
  | w :: a, b, P, h => by
    cases h with
    | cons i h =>
      obtain ⟨P1, P2, rfl, h1, h2⟩ := IsW.split h
      exact ⟨_ :: P1, P2, rfl, .cons i h1, h2⟩
theorem IsW.pairs : ∀ {ws : List (List Nat)} {I : List D}, I.length = ws.length → IsW (pairD I (ws.map dW)) ws
  | [], I, h => by
    cases I with
    | nil => exact .nil
    | cons a b => cases h
  | w :: ws, I, h => by
    cases I with
    | nil => cases h
    | cons a b => exact .cons a (IsW.pairs (by simpa using h))

/-! ### reading a log -/
abbrev RB (fu : Nat) := lb_read_log_1 F_check_text Q_times_in Q_move_in (Q_check_built fu)
abbrev RG := gTp 2 (gsCons (gN 3) (gsCons (gN 4) gsNil))
def stk (s : List (Int × List D)) : List D := s.map fun x => .tup [.int x.1, .lst x.2]
theorem stk_snoc (s : List (Int × List D)) (m : Int) (acc : List D) : stk (s ++ [(m, acc)]) = stk s ++ [.tup [.int m, .lst acc]] := by simp [stk]
abbrev RE (t w : Option D) (s : List (Int × List D)) (o3 o4 o5 o6 o7 o8 : Option D) : Env := [t, w, some (.lst (stk s)), o3, o4, o5, o6, o7, o8]
section
variable {fu : Nat} {t w o3 o5 o6 o7 o8 : Option D} {s : List (Int × List D)} {m : Int} {acc : List D}
theorem rb_mv {v : Int} {l : List (Int × Int)} (hw : v = 1 ∨ v = -1) (h : LdOk (-1) l) (h3 : l.length ≤ 3) (ha : acc.length < 16777216) :
    RB fu (RE t w (s ++ [(m, acc)]) o3 (some (dW (mvL v l))) o5 o6 o7 o8) = .next (RE t w (s ++ [(m, acc ++ [encM v l])]) o3 (some (dW (mvL v l))) (some .non) (some (encM v l)) o7 o8) := by
  have e1 := e_times_not (l := mvL v l) (fun z => by have := mem_mv z; omega)
  have e2 := e_move_in hw h h3
  have a := app_last2 (i := 2) (r := RE t w (s ++ [(m, acc)]) o3 (some (dW (mvL v l))) (some .non) (some (encM v l)) o7 o8) (xs := stk s) (a := .int m) (acc := acc) (by rw [RE, stk_snoc]; rfl) (hold_ok (i := 2) (fPure_ok (f := fVar 6) (fVar_ok rfl) (encM_pure v l)) rfl (by simp)) ha
  unfold RB lb_read_log_1
  refine seq_next (sAsg_ok (user_ok (fVar_ok rfl) rfl e1) rfl) ?_
  refine seq_next (sAsg_ok (user_ok (fVar_ok rfl) rfl e2) rfl) ?_
  refine seq_next (if_f (fBl_ok (fBin_ok (fVar_ok rfl) fC_ok rfl)) ?_) rfl
  refine seq_next (if_t (fBl_ok (fBin_ok (fVar_ok rfl) fC_ok rfl)) ?_) rfl
  refine seq_next (sExpr_ok a) ?_
  have fin : RE t w (s ++ [(m, acc ++ [encM v l])]) o3 (some (dW (mvL v l))) (some .non) (some (encM v l)) o7 o8 = [t, w, some (.lst (stk s ++ [.tup [.int m, .lst (acc ++ [encM v l])]])), o3, some (dW (mvL v l)), some .non, some (encM v l), o7, o8] := by rw [RE, stk_snoc]
  rw [fin]
  rfl
theorem rb_op {k : Int} (h1 : 1 ≤ k) (h2 : k ≤ 1000000000000000000000000000000) (hs : s.length < 16777216) :
    RB fu (RE t w s o3 (some (dW (opL k))) o5 o6 o7 o8) = .next (RE t w (s ++ [(k, [])]) o3 (some (dW (opL k))) (some (.int k)) (some .non) o7 o8) := by
  have e1 := e_times_in h1 h2
  have a31 := num31 (n := k.toNat) (by omega)
  have e2 : Q_move_in [dW (opL k)] = .ok .non [] := by
    have ne := TL.numL_ne k.toNat
    have dg := TL.numL_digits k.toNat
    cases hq : TL.numL k.toNat with
    | nil => exact absurd hq ne
    | cons c r =>
      have hc := dg c (by rw [hq]; exact List.mem_cons_self)
      have eo : opL k = c :: (r ++ [40]) := by unfold opL; rw [hq]; rfl
      rw [eo]
      rw [hq, List.length_cons] at a31
      exact e_move_not (c := c) (r := r ++ [40]) (by omega) (by omega) (by rw [List.length_cons, List.length_append, List.length_singleton]; omega)
  have a := app_root (i := 2) (r := RE t w s o3 (some (dW (opL k))) (some (.int k)) (some .non) o7 o8) (xs := stk s) rfl (hold_ok (i := 2) (fTup_ok (fCons_ok (fPure_ok (f := fVar 5) (d := .int k) (fVar_ok rfl) rfl) (fOne_ok (fLst_ok fNil_ok (by simp)))) (by simp)) rfl (by simp)) (by simp [stk]; omega)
  unfold RB lb_read_log_1
  refine seq_next (sAsg_ok (user_ok (fVar_ok rfl) rfl e1) rfl) ?_
  refine seq_next (sAsg_ok (user_ok (fVar_ok rfl) rfl e2) rfl) ?_
  refine seq_next (if_t (fBl_ok (fBin_ok (fVar_ok rfl) fC_ok rfl)) (seq_next (sExpr_ok a) rfl)) ?_
  have fin : RE t w (s ++ [(k, [])]) o3 (some (dW (opL k))) (some (.int k)) (some .non) o7 o8 = [t, w, some (.lst (stk s ++ [.tup [.int k, .lst []]])), o3, some (dW (opL k)), some (.int k), some .non, o7, o8] := by rw [RE, stk_snoc]
  rw [fin]
  rfl
theorem rb_cl {k : Int} {b : List D} (hb : 0 < b.length) (hp : pureL b = true) (ha : acc.length < 16777216) :
    RB fu (RE t w (s ++ [(m, acc), (k, b)]) o3 (some (dW [41])) o5 o6 o7 o8) = .next (RE t w (s ++ [(m, acc ++ [encR k b])]) o3 (some (dW [41])) (some .non) (some .non) (some (.int k)) (some (.lst b))) := by
  have e1 := e_times_not (l := [41]) (by simp)
  have e2 := e_move_not (c := 41) (r := []) (by decide) (by decide) (by simp)
  have es : stk (s ++ [(m, acc), (k, b)]) = (stk s ++ [.tup [.int m, .lst acc]]) ++ [.tup [.int k, .lst b]] := by simp [stk]
  have t1 : dEq (dW [41]) (.str ")") = some (.bl true) := by rw [lit_c]; exact (sEq_str _ _).trans rfl
  have t2 : dGt (.int ((stk (s ++ [(m, acc), (k, b)])).length : Nat)) (.int 1) = some (.bl true) := by
    show some (D.bl (decide ((1 : Int) < (((stk (s ++ [(m, acc), (k, b)])).length : Nat) : Int)))) = _
    rw [decide_eq_true (by simp [stk]; omega)]
  have t3 : dGt (.int (b.length : Nat)) (.int 0) = some (.bl true) := by
    show some (D.bl (decide ((0 : Int) < ((b.length : Nat) : Int)))) = _
    rw [decide_eq_true (by omega)]
  have ix : dIx (.lst (stk (s ++ [(m, acc), (k, b)]))) (.int (-1)) = some (.tup [.int k, .lst b]) := by rw [es]; exact atI_last
  have pp := pop_root (i := 2) (r := RE t w (s ++ [(m, acc), (k, b)]) o3 (some (dW [41])) (some .non) (some .non) o7 o8) (xs := stk s ++ [.tup [.int m, .lst acc]]) (y := .tup [.int k, .lst b]) (by rw [RE, es]; rfl)
  have dt : dTuple [.lst b] = some (.tup b) := by simp only [dTuple, hp, if_true]
  have pb : (D.tup b).pure = true := hp
  have a := app_last2 (i := 2) (r := [t, w, some (.lst (stk s ++ [.tup [.int m, .lst acc]])), o3, some (dW [41]), some .non, some .non, some (.int k), some (.lst b)]) (xs := stk s) (a := .int m) (acc := acc) rfl
    (hold_ok (i := 2) (fTup_ok (fCons_ok (fC_ok (d := .str "times")) (fCons_ok (fPure_ok (f := fVar 7) (d := .int k) (fVar_ok rfl) rfl) (fOne_ok (fCall_ok (fOne_ok (f := fVar 8) (fVar_ok rfl)) dt)))) (by simp)) rfl (by simp)) ha
  unfold RB lb_read_log_1
  refine seq_next (sAsg_ok (user_ok (fVar_ok rfl) rfl e1) rfl) ?_
  refine seq_next (sAsg_ok (user_ok (fVar_ok rfl) rfl e2) rfl) ?_
  refine seq_next (if_f (fBl_ok (fBin_ok (fVar_ok rfl) fC_ok rfl)) ?_) rfl
  refine seq_next (if_f (fBl_ok (fBin_ok (fVar_ok rfl) fC_ok rfl)) ?_) rfl
  refine seq_next (if_t (r1 := RE t w (s ++ [(m, acc), (k, b)]) o3 (some (dW [41])) (some .non) (some .non) o7 o8) ?_ ?_) rfl
  · refine fAnd_t (fBl_ok (fBin_ok (fVar_ok rfl) fC_ok t1)) (fAnd_t (fBl_ok (fBin_ok (fCall_ok (fOne_ok (fVar_ok rfl)) rfl) fC_ok t2)) ?_)
    exact fBl_ok (fBin_ok (fCall_ok (fOne_ok (fBin_ok (fBin_ok (fVar_ok rfl) rfl ix) fC_ok atI1)) rfl) fC_ok t3)
  · refine seq_next (sAsg_ok pp rfl) (seq_next (sExpr_ok a) ?_)
    have fin : RE t w (s ++ [(m, acc ++ [encR k b])]) o3 (some (dW [41])) (some .non) (some .non) (some (.int k)) (some (.lst b)) = [t, w, some (.lst (stk s ++ [.tup [.int m, .lst (acc ++ [encR k b])]])), o3, some (dW [41]), some .non, some .non, some (.int k), some (.lst b)] := by rw [RE, stk_snoc]
    rw [fin]
    rfl
end
theorem rl_go {fu : Nat} {t w : Option D} : ∀ {L : Lg} {e : Nat} {P rest : List D} {s : List (Int × List D)} {m : Int} {acc : List D} {o3 o4 o5 o6 o7 o8 : Option D}, LOk L e → IsW P (wds L) → acc.length + (wds L).length ≤ 5000 → s.length + (wds L).length ≤ 5000 →
    ∃ o3' o4' o5' o6' o7' o8', forGo RG (RB fu) (P ++ rest) (RE t w (s ++ [(m, acc)]) o3 o4 o5 o6 o7 o8) = forGo RG (RB fu) rest (RE t w (s ++ [(m, acc ++ enc L)]) o3' o4' o5' o6' o7' o8')
  | .nil, e, P, rest, s, m, acc, o3, o4, o5, o6, o7, o8, _, hP, _, _ => by
    cases hP
    exact ⟨o3, o4, o5, o6, o7, o8, by simp [enc]⟩
  | .mv v l r, e, P, rest, s, m, acc, o3, o4, o5, o6, o7, o8, h, hP, ha, hs => by
    simp only [wds, List.length_cons] at hP ha hs
    cases hP with
    | @cons i P _ _ hP =>
      obtain ⟨a3, a4, a5, a6, a7, a8, q⟩ := rl_go (fu := fu) (t := t) (w := w) (rest := rest) (s := s) (m := m) (acc := acc ++ [encM v l]) (o3 := some i) (o4 := some (dW (mvL v l))) (o5 := some .non) (o6 := some (encM v l)) (o7 := o7) (o8 := o8) h.2.2.2 hP (by simp; omega) (by omega)
      refine ⟨a3, a4, a5, a6, a7, a8, ?_⟩
      rw [List.cons_append, go_step (r1 := RE t w (s ++ [(m, acc)]) (some i) (some (dW (mvL v l))) o5 o6 o7 o8) rfl (rb_mv h.1 h.2.1 h.2.2.1 (by omega)), q]
      simp [enc]
  | .rd k j r, e, P, rest, s, m, acc, o3, o4, o5, o6, o7, o8, h, hP, ha, hs => by
    obtain ⟨h1, h2, h3, ⟨e', ee, hj⟩, hr⟩ := h
    simp only [wds, List.length_cons, List.length_append] at hP ha hs
    cases hP with
    | @cons i P _ _ hP =>
      obtain ⟨P1, P2, rfl, hP1, hP2⟩ := hP.split
      cases hP2 with
      | @cons i2 P2 _ _ hP2 =>
        obtain ⟨b3, b4, b5, b6, b7, b8, qi⟩ := rl_go (fu := fu) (t := t) (w := w) (rest := .tup [i2, dW [41]] :: (P2 ++ rest)) (s := s ++ [(m, acc)]) (m := k) (acc := []) (o3 := some i) (o4 := some (dW (opL k))) (o5 := some (.int k)) (o6 := some .non) (o7 := o7) (o8 := o8) hj hP1 (by simp; omega) (by simp; omega)
        obtain ⟨a3, a4, a5, a6, a7, a8, q⟩ := rl_go (fu := fu) (t := t) (w := w) (rest := rest) (s := s) (m := m) (acc := acc ++ [encR k (enc j)]) (o3 := some i2) (o4 := some (dW [41])) (o5 := some .non) (o6 := some .non) (o7 := some (.int k)) (o8 := some (.lst (enc j))) hr hP2 (by simp; omega) (by omega)
        refine ⟨a3, a4, a5, a6, a7, a8, ?_⟩
        rw [List.cons_append, go_step (r1 := RE t w (s ++ [(m, acc)]) (some i) (some (dW (opL k))) o5 o6 o7 o8) rfl (rb_op h1 h2 (by simp; omega))]
        rw [List.append_assoc, List.cons_append, qi, List.nil_append]
        have e2 : s ++ [(m, acc)] ++ [(k, enc j)] = s ++ [(m, acc), (k, enc j)] := by simp
        rw [e2, go_step (r1 := RE t w (s ++ [(m, acc), (k, enc j)]) (some i2) (some (dW [41])) b5 b6 b7 b8) rfl (rb_cl (len_enc_ne h3) (enc_pure j) (by omega)), q]
        simp [enc]
abbrev Q_read_log (fu : Nat) := F_read_log F_check_text Q_times_in Q_move_in (Q_check_built fu)
theorem txt_ne {L : Lg} (h : L ≠ .nil) : txt L ≠ [] := by
  have first : ∃ c a b, wds L = (c :: a) :: b := by
    cases L with
    | nil => exact absurd rfl h
    | mv w l r => exact ⟨_, _, _, rfl⟩
    | rd k i r =>
      have ne := TL.numL_ne k.toNat
      cases hq : TL.numL k.toNat with
      | nil => exact absurd hq ne
      | cons c a => exact ⟨c, a ++ [40], wds i ++ [41] :: wds r, by simp [wds, opL, hq]⟩
  obtain ⟨c, a, b, e⟩ := first
  unfold txt
  rw [e]
  cases b <;> simp [TL.joinL]
theorem wds_free : ∀ {L : Lg} {e : Nat}, LOk L e → ∀ x ∈ wds L, 32 ∉ x
  | .mv w l r, e, h, x, m => by
    rcases List.mem_cons.mp m with rfl | m
    · intro z
      have := mem_mv z
      omega
    · exact wds_free h.2.2.2 x m
  | .rd k i r, e, h, x, m => by
    obtain ⟨h1, h2, h3, ⟨e', _, hi⟩, hr⟩ := h
    rcases List.mem_cons.mp m with rfl | m
    · intro z
      rcases List.mem_append.mp z with z | z
      · have := TL.numL_digits _ _ z
        omega
      · simp at z
    · rcases List.mem_append.mp m with m | m
      · exact wds_free hi x m
      · rcases List.mem_cons.mp m with rfl | m
        · simp
        · exact wds_free hr x m
theorem e_check_text (l : List Nat) : F_check_text [dW l] = .ok (dW l) [] := rfl
theorem words_of {M : List D → FRes} {L : Lg} {e : Nat} (h : LOk L e) (hl : (wds L).length ≤ 1000) (hn : L ≠ .nil) : gSplit (St (txt L)) (.str " ") = some (.lst ((wds L).map dW)) :=
  gSplit_ok (c := 32) (by decide) (wds_ne hn) (wds_free h) (Nat.le_trans (txt_len h hl) (by decide))
theorem e_read_log {fu : Nat} {L : Lg} (h : LOk L 3) (hl : (wds L).length ≤ 1000) (hm : mvs L ≤ 200) (hw : wt L ≤ 200) (hf : 201 < fu) : Q_read_log fu [dW (txt L)] = .ok (.tup (enc L)) [] := by
  have ec := e_check_built h hm hw hf
  have ws : fIf (fBl (fBin dNe (fVar 0) (fC (.str "")))) (fM1 gSplit (fUser 1 F_check_text (fCons (fVar 0) fNil)) (fC (.str " "))) (fLst fNil) [some (dW (txt L)), none, none, none, none, none, none, none, none] = .ok (.lst ((wds L).map dW)) [some (dW (txt L)), none, none, none, none, none, none, none, none] := by
    by_cases c : L = .nil
    · subst c
      have e1 : dNe (dW (txt .nil)) (.str "") = some (.bl false) := by rw [lit_e]; exact (sNe_str _ _).trans rfl
      exact fIf_f (fBl_ok (fBin_ok (fVar_ok rfl) fC_ok e1)) (fLst_ok fNil_ok (by simp [wds]))
    · have e1 : dNe (dW (txt L)) (.str "") = some (.bl true) := by
        rw [lit_e]
        exact (sNe_str _ _).trans (by simp [txt_ne c])
      exact fIf_t (fBl_ok (fBin_ok (fVar_ok rfl) fC_ok e1)) (fM1_ok (user_ok (fVar_ok rfl) rfl (e_check_text (txt L))) fC_ok (words_of (M := F_check_text) h hl c))
  have ge : gEnum [.lst ((wds L).map dW)] = some (enumD ((wds L).map dW)) := by simp only [gEnum, dW_pure, if_true]
  obtain ⟨a3, a4, a5, a6, a7, a8, q⟩ := rl_go (fu := fu) (t := some (dW (txt L))) (w := some (.lst ((wds L).map dW))) (P := enumD ((wds L).map dW)) (rest := []) (s := []) (m := 1) (acc := []) (o3 := none) (o4 := none) (o5 := none) (o6 := none) (o7 := none) (o8 := none) h (IsW.pairs (by simp [rngD])) (by simp; omega) (by simp; omega)
  rw [List.append_nil, List.nil_append, List.nil_append, forGo_nil, List.nil_append] at q
  have dt : dTuple [.lst (enc L)] = some (.tup (enc L)) := by simp only [dTuple, enc_pure, if_true]
  show endF [] (fb_read_log F_check_text Q_times_in Q_move_in (Q_check_built fu) [some (dW (txt L)), none, none, none, none, none, none, none, none]) = _
  unfold fb_read_log
  refine endF_ret0 (r := RE (some (dW (txt L))) (some (.lst ((wds L).map dW))) [(1, enc L)] a3 a4 a5 a6 a7 a8) ?_
  refine seq_next (sAsg_ok ws rfl) ?_
  refine seq_next (sAsg_ok (fLst_ok (fOne_ok (fTup_ok (fCons_ok fC_ok (fOne_ok (fLst_ok fNil_ok (by simp)))) (by simp))) (by simp)) rfl) ?_
  refine seq_next (for_ok (fArgL_ok (fOne_ok (fVar_ok rfl)) ge) q) ?_
  refine seq_next (if_f (fBl_ok (fBin_ok (fCall_ok (fOne_ok (fVar_ok rfl)) rfl) fC_ok rfl)) rfl) ?_
  exact seq_ret (sRet_ok (user_ok (fCall_ok (fOne_ok (fBin_ok (fBin_ok (fVar_ok rfl) fC_ok atI0) fC_ok atI1)) dt) (enc_pure L) ec))
end DL

set_option Elab.async false
set_option linter.all false
set_option maxRecDepth 100000
set_option maxHeartbeats 1000000
namespace DL
open PySem PySem.Spec L2

/-! ### like -/
def Dep : Nat → D → Prop
  | _, .int _ => True
  | _, .str _ => True
  | n + 1, .tup xs => xs.length ≤ 1000 ∧ ∀ x ∈ xs, Dep n x
  | _, _ => False
theorem Dep.up : ∀ {n : Nat} {d : D}, Dep n d → Dep (n + 1) d
  | 0, d, h => by
    cases d <;> first
      | exact trivial
      | exact h.elim
  | n + 1, d, h => by
    cases d <;> first
      | exact trivial
      | exact ⟨h.1, fun x m => Dep.up (h.2 x m)⟩
      | exact h.elim
theorem Dep.le {n : Nat} {d : D} (h : Dep n d) : ∀ k, Dep (n + k) d
  | 0 => h
  | k + 1 => Dep.up (Dep.le h k)
theorem Dep.ups {n m : Nat} {d : D} (h : Dep n d) (hm : n ≤ m) : Dep m d := by
  obtain ⟨k, rfl⟩ := Nat.le.dest hm
  exact h.le k
theorem Dep.tup {n : Nat} {xs : List D} (hl : xs.length ≤ 1000) (h : ∀ x ∈ xs, Dep n x) : Dep (n + 1) (.tup xs) := ⟨hl, h⟩
theorem Dep.int {n : Nat} (i : Int) : Dep n (.int i) := by cases n <;> exact trivial
theorem Dep.str {n : Nat} (i : Str) : Dep n (.str i) := by cases n <;> exact trivial
theorem pureL_mem {xs : List D} {x : D} (h : pureL xs = true) (m : x ∈ xs) : x.pure = true := by
  induction xs with
  | nil => cases m
  | cons a xs ih =>
    have h' : (a.pure && pureL xs) = true := h
    rw [Bool.and_eq_true] at h'
    rcases List.mem_cons.mp m with rfl | m
    · exact h'.1
    · exact ih h'.2 m
theorem user2_ok {M : List D → FRes} {f g : Env → Res D} {r : Env} {x y z : D} {os : List D} (e1 : f r = .ok x r) (e2 : g r = .ok y r) (hx : x.pure = true) (hy : y.pure = true) (hM : M [x, y] = .ok z os) : fUser 2 M (fCons f (fCons g fNil)) r = .ok z r := by
  simp [fUser, fCons, fNil, e1, e2, oneImp, hx, hy, pureL, hM]
def Q__law_like : Nat → List D → FRes
  | 0 => fun _ => .bad
  | n + 1 => F__law_like (Q__law_like n)
theorem rngD_mem {n : Nat} {d : D} (h : d ∈ rngD 0 n) : ∃ k : Nat, k < n ∧ d = .int k := by
  obtain ⟨k, mk, rfl⟩ := List.mem_map.mp h
  exact ⟨k, List.mem_range.mp mk, by simp⟩
theorem rngD_len (lo : Int) (n : Nat) : (rngD lo n).length = n := by simp [rngD]
theorem andV_t {fa fb : Env → Res D} {r r1 : Env} {u : Res D} (h1 : fa r = .ok (.bl true) r1) (h2 : fb r1 = u) : fAndV fa fb r = u := by
  unfold fAndV; rw [h1, Res.bind_ok]; exact h2
theorem like_ok : ∀ {n : Nat} {d : D}, Dep n d → d.pure = true → Q__law_like (n + 1) [d, d] = .ok (.bl true) []
  | n, .non, h, _ => by cases n <;> exact h.elim
  | n, .bl _, h, _ => by cases n <;> exact h.elim
  | n, .frz _, h, _ => by cases n <;> exact h.elim
  | n, .obj _ _ _, h, _ => by cases n <;> exact h.elim
  | n, .int i, _, _ => by
    have e : dEq (.int i) (.int i) = some (.bl true) := by simp [dEq, eqB, sEq]
    show endF [] (fb__law_like (Q__law_like n) [some (.int i), some (.int i), none]) = _
    unfold fb__law_like
    refine endF_ret0 (seq_next (if_f (fTru_ok (d := .bl false) rfl rfl) rfl) (seq_ret (sRet_ok (r1 := [some (.int i), some (.int i), none]) ?_)))
    exact andV_t (r1 := [some (.int i), some (.int i), none]) rfl (fBin_ok (fVar_ok rfl) (fVar_ok rfl) e)
  | n, .str i, _, _ => by
    have e : dEq (.str i) (.str i) = some (.bl true) := by simp [dEq, eqB, sEq]
    show endF [] (fb__law_like (Q__law_like n) [some (.str i), some (.str i), none]) = _
    unfold fb__law_like
    refine endF_ret0 (seq_next (if_f (fTru_ok (d := .bl false) rfl rfl) rfl) (seq_ret (sRet_ok (r1 := [some (.str i), some (.str i), none]) ?_)))
    exact andV_t (r1 := [some (.str i), some (.str i), none]) rfl (fBin_ok (fVar_ok rfl) (fVar_ok rfl) e)
  | n + 1, .tup xs, h, hp => by
    have hpl : pureL xs = true := hp
    have lc : lcGo (gN 2) tTrue (le__law_like_1 (Q__law_like (n + 1))) [2] (rngD 0 xs.length) [some (.tup xs), some (.tup xs), none] [] = .ok (.lst ((rngD 0 xs.length).map fun _ => .bl true)) [some (.tup xs), some (.tup xs), none] := by
      have q := lcGo_map (g := gN 2) (fe := le__law_like_1 (Q__law_like (n + 1))) (vs := [2]) (h := fun _ => .bl true) (r := [some (.tup xs), some (.tup xs), none]) (ds := rngD 0 xs.length) (acc := []) (fun d m => ?_) (fun _ _ => rfl) (by rw [rngD_len]; have := h.1; simp; omega)
      · rw [q, List.nil_append]
      · obtain ⟨k, hk, rfl⟩ := rngD_mem m
        refine ⟨[some (.tup xs), some (.tup xs), some (.int k)], rfl, ?_, rfl⟩
        have mk : xs[k] ∈ xs := List.getElem_mem hk
        have ix : dIx (.tup xs) (.int k) = some xs[k] := atI_nat (j := k) (List.getElem?_eq_getElem hk)
        exact user2_ok (fBin_ok (fVar_ok rfl) (fVar_ok rfl) ix) (fBin_ok (fVar_ok rfl) (fVar_ok rfl) ix) (pureL_mem hpl mk) (pureL_mem hpl mk) (like_ok (h.2 _ mk) (pureL_mem hpl mk))
    have gr : gRange1 [.int (xs.length : Nat)] = some (rngD 0 xs.length) := by
      have : rngOk ((xs.length : Nat) : Int) = true := by
        have := h.1
        unfold rngOk
        rw [Bool.and_eq_true, decide_eq_true_eq, decide_eq_true_eq]
        omega
      simp only [gRange1, this, if_true, Int.toNat_natCast]
    have el : dEq (.int (xs.length : Nat)) (.int (xs.length : Nat)) = some (.bl true) := by simp [dEq, eqB, sEq]
    show endF [] (fb__law_like (Q__law_like (n + 1)) [some (.tup xs), some (.tup xs), none]) = _
    unfold fb__law_like
    refine endF_ret0 (r := [some (.tup xs), some (.tup xs), none]) (seq_ret (if_t (fTru_ok (d := .bl true) rfl rfl) (seq_next (if_f (r1 := [some (.tup xs), some (.tup xs), none]) rfl rfl) (seq_ret (sRet_ok ?_)))))
    unfold fAndV
    rw [fBin_ok (g := dEq) (r2 := [some (.tup xs), some (.tup xs), none]) (fCall_ok (fOne_ok (fVar_ok rfl)) rfl) (fCall_ok (fOne_ok (fVar_ok rfl)) rfl) el, Res.bind_ok]
    exact fCall_ok (fOne_ok (lc_ok (fArgL_ok (fOne_ok (fCall_ok (fOne_ok (fVar_ok rfl)) rfl)) gr) rfl lc)) dAll_true
theorem dep_ld : ∀ l : List (Int × Int), ∀ x ∈ l.map encP, Dep 1 x := fun l x m => by
  obtain ⟨p, _, rfl⟩ := List.mem_map.mp m
  exact .tup (by simp) fun y my => by
    simp at my
    rcases my with rfl | rfl <;> exact .int _
theorem dep_mv {w : Int} {l : List (Int × Int)} (h3 : l.length ≤ 3) : Dep 3 (encM w l) := .tup (by simp) fun x m => by
  simp at m
  rcases m with rfl | rfl
  · exact .int _
  · exact .tup (by rw [List.length_map]; omega) (dep_ld l)
theorem enc_len : ∀ L : Lg, (enc L).length ≤ mvs L + wt L
  | .nil => Nat.le_refl _
  | .mv _ _ r => by have := enc_len r; simp only [enc, mvs, wt, List.length_cons]; omega
  | .rd _ i r => by have := enc_len r; simp only [enc, mvs, wt, List.length_cons]; omega
theorem dep_log : ∀ {L : Lg} {e : Nat}, LOk L e → mvs L + wt L ≤ 1000 → ∀ x ∈ enc L, Dep (3 + 2 * e) x
  | .mv w l r, e, h, hs, x, m => by
    simp only [mvs, wt] at hs
    rcases List.mem_cons.mp m with rfl | m
    · exact (dep_mv h.2.2.1).ups (by omega)
    · exact dep_log h.2.2.2 (by omega) x m
  | .rd k i r, e, h, hs, x, m => by
    simp only [mvs, wt] at hs
    obtain ⟨h1, h2, h3, ⟨e', rfl, hi⟩, hr⟩ := h
    rcases List.mem_cons.mp m with rfl | m
    · have q : Dep (3 + 2 * e' + 1) (.tup (enc i)) := .tup (by have := enc_len i; omega) (dep_log hi (by omega))
      have : Dep (3 + 2 * e' + 1 + 1) (encR k (enc i)) := .tup (by simp) fun x m => by
        simp at m
        rcases m with rfl | rfl | rfl
        · exact .str _
        · exact .int _
        · exact q
      exact this.ups (by omega)
    · exact dep_log hr (by omega) x m
theorem dep_tup {L : Lg} {e : Nat} (h : LOk L e) (hs : mvs L + wt L ≤ 1000) : Dep (4 + 2 * e) (.tup (enc L)) := by
  have := Dep.tup (by have := enc_len L; omega) (dep_log h hs)
  exact this.ups (by omega)

/-! ### the law's look at moves -/
theorem e__law_is_whole (n : Int) : F__law_is_whole [.int n] = .ok (.bl true) [] := rfl
abbrev Q__law_is_load := F__law_is_load F__law_is_whole
abbrev Q__law_is_built := F__law_is_built F__law_is_whole Q__law_is_load
theorem lb_load {p : Int × Int} {t : Option D} {a : Int} (h0 : a < p.1) (h1 : 1 ≤ p.2) : lb__law_is_load_1 F__law_is_whole [t, some (.int a), some (encP p)] = .next [t, some (.int p.1), some (encP p)] := by
  have e1 : ¬ p.1 ≤ a := by omega
  have e2 : ¬ p.2 < 1 := by omega
  simp [lb__law_is_load_1, encP, e__law_is_whole, fnF, sSeq, SRes.seq, sRet, sRetN, sAsg, optS, sAug, augAdd, augSub, sIf, sFor, sNil, sBad, sExpr, fAndV, fOrV, fNotV, fNeg, fUser, fCons, fNil, fVar, fC, fPure, fTup, fLst, szOk, fTru, truR, truD, fBl, fBin, fChain, fAnd, fOr, fNot, fIf, fCall, fIsi, fIsi2, isR, isR2, isTy_non, isTy_bl, isTy_int, isTy_str, isTy_tup, isTy_lst, tyTab, dLe, dLt, dGt, dGe, iBin, dIsN, dNotN, dAdd, dSub, dMod, dLen, dIx, initE, argPure, oneImp, endF, retF, outsOf, D.pure, pureL, gN, gTp, gsCons, gsNil, fSl, gSl, fSomeP, fNoP, fSeq, seqD_tup, seqD_lst, fArgL, gZip, optL, fM1, fLc, pureAt, Res.bind_ok, Res.bind_bad, Res.bind_exc, Res.toS_ok, Res.toS_bad, Res.toS_exc, optR, atI0, atI1, dNe, eqB, sEq, e1, e2]
theorem go_load {t : Option D} : ∀ {l : List (Int × Int)} {a : Int} {o : Option D}, LdOk a l → ∃ o1 o', forGo (gN 2) (lb__law_is_load_1 F__law_is_whole) (l.map encP) [t, some (.int a), o] = .next [t, o1, o']
  | [], a, o, _ => ⟨_, _, rfl⟩
  | p :: l, a, o, h => by
    rw [List.map_cons, go_step (r1 := [t, some (.int a), some (encP p)]) rfl (lb_load h.1 h.2.2.1)]
    exact go_load h.2.2.2.2
theorem e__law_is_load {l : List (Int × Int)} (h : LdOk (-1) l) : Q__law_is_load [.tup (l.map encP)] = .ok (.bl true) [] := by
  obtain ⟨o1, o', q⟩ := go_load (t := some (.tup (l.map encP))) (o := none) h
  have hp : pureL (l.map encP) = true := pure_map encP_pure l
  show endF [] (fb__law_is_load F__law_is_whole [some (.tup (l.map encP)), none, none]) = _
  unfold fb__law_is_load
  refine endF_ret0 (r := [some (.tup (l.map encP)), o1, o']) ?_
  refine seq_next (r1 := [some (.tup (l.map encP)), none, none]) rfl ?_
  refine seq_next (r1 := [some (.tup (l.map encP)), some (.int (-1)), none]) rfl ?_
  refine seq_next (for_ok (fSeq_ok (fVar_ok rfl) (show seqD (.tup (l.map encP)) = some _ by rw [seqD_tup, if_pos hp])) q) ?_
  rfl
theorem e__law_is_built {w : Int} {l : List (Int × Int)} (hw : w = 1 ∨ w = -1) (h : LdOk (-1) l) : Q__law_is_built [encM w l] = .ok (.bl true) [] := by
  have e2 := e__law_is_load h
  have hp : pureL (l.map encP) = true := pure_map encP_pure l
  have t0 : fOr (fNot (fTru (fIsi "tuple" (fVar 0)))) (fOr (fBl (fBin dNe (fCall dLen (fCons (fVar 0) fNil)) (fC (.int 2)))) (fOr (fNot (fTru (fUser 1 F__law_is_whole (fCons (fBin dIx (fVar 0) (fC (.int 0))) fNil)))) (fBl (fBin dNotIn (fBin dIx (fVar 0) (fC (.int 0))) (fTup (fCons (fC (.int 1)) (fCons (fNeg (fC (.int 1))) fNil))))))) [some (encM w l)] = .ok false [some (encM w l)] := by
    rcases hw with rfl | rfl <;> rfl
  show endF [] (fb__law_is_built F__law_is_whole Q__law_is_load [some (encM w l)]) = _
  unfold fb__law_is_built
  refine endF_ret0 (seq_next (if_f t0 rfl) (seq_ret (sRet_ok (user_ok (fBin_ok (fVar_ok rfl) fC_ok atI1) hp e2))))

/-! ### the law's look at logs, level by level -/
def inn : Lg → List Lg
  | .nil => []
  | .mv _ _ r => inn r
  | .rd _ i r => i :: inn r
def encT (L : Lg) : D := .tup (enc L)
theorem encT_pure (L : Lg) : (encT L).pure = true := enc_pure L
def nxt : List Lg → List Lg
  | [] => []
  | L :: s => inn L ++ nxt s
def dmS : List Lg → Nat
  | [] => 0
  | L :: s => dm L + dmS s
def mvL' : List Lg → Nat
  | [] => 0
  | L :: s => mvs L + mvL' s
def wtL : List Lg → Nat
  | [] => 0
  | L :: s => wt L + wtL s
theorem mvL'_app : ∀ a b : List Lg, mvL' (a ++ b) = mvL' a + mvL' b
  | [], b => by simp [mvL']
  | x :: a, b => by simp [mvL', mvL'_app a b]; omega
theorem wtL_app : ∀ a b : List Lg, wtL (a ++ b) = wtL a + wtL b
  | [], b => by simp [wtL]
  | x :: a, b => by simp [wtL, wtL_app a b]; omega
theorem mvs_inn : ∀ L : Lg, dm L + mvL' (inn L) = mvs L
  | .nil => rfl
  | .mv _ _ r => by have := mvs_inn r; simp only [dm, inn, mvs]; omega
  | .rd _ i r => by have := mvs_inn r; simp only [dm, inn, mvs, mvL']; omega
theorem wt_inn : ∀ L : Lg, (inn L).length + wtL (inn L) = wt L
  | .nil => rfl
  | .mv _ _ r => by have := wt_inn r; simp only [inn, wt]; omega
  | .rd _ i r => by have := wt_inn r; simp only [inn, wt, wtL, List.length_cons]; omega
theorem mvs_nxt : ∀ s : List Lg, dmS s + mvL' (nxt s) = mvL' s
  | [] => rfl
  | L :: s => by have a := mvs_nxt s; have b := mvs_inn L; simp only [dmS, nxt, mvL', mvL'_app]; omega
theorem wt_nxt : ∀ s : List Lg, (nxt s).length + wtL (nxt s) = wtL s
  | [] => rfl
  | L :: s => by have a := wt_nxt s; have b := wt_inn L; simp only [nxt, wtL, wtL_app, List.length_append]; omega
theorem inn_ok : ∀ {L : Lg} {e : Nat}, LOk L e → ∀ x ∈ inn L, ∃ e', e = e' + 1 ∧ LOk x e'
  | .mv _ _ r, e, h, x, m => inn_ok h.2.2.2 x m
  | .rd _ i r, e, h, x, m => by
    rcases List.mem_cons.mp m with rfl | m
    · exact h.2.2.2.1
    · exact inn_ok h.2.2.2.2 x m
theorem nxt_ok : ∀ {s : List Lg} {e : Nat}, (∀ x ∈ s, LOk x (e + 1)) → ∀ x ∈ nxt s, LOk x e
  | L :: s, e, h, x, m => by
    rcases List.mem_append.mp m with m | m
    · obtain ⟨e', e1, q⟩ := inn_ok (h L List.mem_cons_self) x m
      have : e' = e := by omega
      rw [← this]; exact q
    · exact nxt_ok (fun y my => h y (List.mem_cons_of_mem _ my)) x m
theorem nxt_0 : ∀ {s : List Lg}, (∀ x ∈ s, LOk x 0) → nxt s = []
  | [], _ => rfl
  | L :: s, h => by
    have a : inn L = [] := by
      cases q : inn L with
      | nil => rfl
      | cons x r =>
        obtain ⟨e', e1, _⟩ := inn_ok (h L List.mem_cons_self) x (by rw [q]; exact List.mem_cons_self)
        omega
    show inn L ++ nxt s = []
    rw [a, nxt_0 fun y my => h y (List.mem_cons_of_mem _ my)]; rfl
abbrev L1 := lb__law_is_right_log_1 Q__law_is_built
abbrev L2' := lb__law_is_right_log_2 Q__law_is_built
abbrev L3 := lb__law_is_right_log_3 Q__law_is_built
section
variable {a b c d o : Option D} {f : Int} {ys : List D}
theorem l1_mv {w : Int} {l : List (Int × Int)} (hw : w = 1 ∨ w = -1) (h : LdOk (-1) l) : L1 [a, b, some (.int f), c, some (.lst ys), d, some (encM w l)] = .next [a, b, some (.int (f + 1)), c, some (.lst ys), d, some (encM w l)] := by
  have e := e__law_is_built hw h
  unfold L1 lb__law_is_right_log_1
  refine seq_next (if_f (r1 := [a, b, some (.int f), c, some (.lst ys), d, some (encM w l)]) rfl ?_) rfl
  refine seq_next (if_f (fNot_ok (fTru_ok (user_ok (fVar_ok rfl) (encM_pure w l) e) rfl)) ?_) rfl
  exact seq_next (sAsg_ok (fBin_ok (fVar_ok rfl) fC_ok rfl) rfl) rfl
theorem l1_rd {k : Int} {i : Lg} (h1 : 1 ≤ k) (h2 : k ≤ 1000000000000000000000000000000) (hl : ys.length < 16777216) : L1 [a, b, some (.int f), c, some (.lst ys), d, some (encR k (enc i))] = .next [a, b, some (.int f), c, some (.lst (ys ++ [encT i])), d, some (encR k (enc i))] := by
  have ix1 : dIx (encR k (enc i)) (.int 1) = some (.int k) := atI1
  have ix2 : dIx (encR k (enc i)) (.int 2) = some (encT i) := atI2
  have pw : dPow (.int 10) (.int 30) = some (.int 1000000000000000000000000000000) := by simp [dPow, iBin]
  have ch : fChain dLe dLe (fC (.int 1)) (fBin dIx (fVar 6) (fC (.int 1))) (fBin dPow (fC (.int 10)) (fC (.int 30))) [a, b, some (.int f), c, some (.lst ys), d, some (encR k (enc i))] = .ok (.bl true) [a, b, some (.int f), c, some (.lst ys), d, some (encR k (enc i))] := by
    have q1 : fBin dIx (fVar 6) (fC (.int 1)) [a, b, some (.int f), c, some (.lst ys), d, some (encR k (enc i))] = .ok (.int k) [a, b, some (.int f), c, some (.lst ys), d, some (encR k (enc i))] := fBin_ok (fVar_ok rfl) fC_ok ix1
    have q2 : fBin dPow (fC (.int 10)) (fC (.int 30)) [a, b, some (.int f), c, some (.lst ys), d, some (encR k (enc i))] = .ok (.int 1000000000000000000000000000000) [a, b, some (.int f), c, some (.lst ys), d, some (encR k (enc i))] := fBin_ok fC_ok fC_ok pw
    unfold fChain
    rw [fC_ok, Res.bind_ok, q1, Res.bind_ok]
    have d1 : dLe (.int 1) (.int k) = some (.bl true) := by simp [dLe, iBin, h1]
    have d2 : dLe (.int k) (.int 1000000000000000000000000000000) = some (.bl true) := by simp [dLe, iBin, h2]
    rw [d1]
    show (fBin dPow (fC (.int 10)) (fC (.int 30)) _).bind _ = _
    rw [q2, Res.bind_ok, d2]; rfl
  have ap := app_root (i := 4) (r := [a, b, some (.int f), c, some (.lst ys), d, some (encR k (enc i))]) rfl (hold_ok (i := 4) (fPure_ok (fBin_ok (fVar_ok (i := 6) rfl) fC_ok ix2) (encT_pure i)) rfl (by simp)) hl
  unfold L1 lb__law_is_right_log_1
  refine seq_next (if_t (r1 := [a, b, some (.int f), c, some (.lst ys), d, some (encR k (enc i))]) rfl ?_) rfl
  refine seq_next (if_f (fNot_ok (fBl_ok ch)) rfl) ?_
  exact seq_next (sExpr_ok ap) rfl
end
theorem l1_go {a b c d : Option D} : ∀ {L : Lg} {e : Nat} {f : Int} {ys : List D} {o : Option D}, LOk L e → ys.length + (inn L).length ≤ 10000 →
    ∃ o', forGo (gN 6) L1 (enc L) [a, b, some (.int f), c, some (.lst ys), d, o] = .next [a, b, some (.int (f + dm L)), c, some (.lst (ys ++ (inn L).map encT)), d, o']
  | .nil, e, f, ys, o, _, _ => ⟨o, by simp [enc, inn, dm, forGo_nil]⟩
  | .mv w l r, e, f, ys, o, h, hl => by
    obtain ⟨o', q⟩ := l1_go (a := a) (b := b) (c := c) (d := d) (f := f + 1) (ys := ys) (o := some (encM w l)) h.2.2.2 hl
    refine ⟨o', ?_⟩
    show forGo (gN 6) L1 (encM w l :: enc r) _ = _
    rw [go_step (r1 := [a, b, some (.int f), c, some (.lst ys), d, some (encM w l)]) rfl (l1_mv h.1 h.2.1), q]
    simp only [inn, dm]
    rw [show f + 1 + ((dm r : Nat) : Int) = f + ((1 + dm r : Nat) : Int) by omega]
  | .rd k i r, e, f, ys, o, h, hl => by
    simp only [inn, List.length_cons] at hl
    obtain ⟨o', q⟩ := l1_go (a := a) (b := b) (c := c) (d := d) (f := f) (ys := ys ++ [encT i]) (o := some (encR k (enc i))) h.2.2.2.2 (by simp; omega)
    refine ⟨o', ?_⟩
    show forGo (gN 6) L1 (encR k (enc i) :: enc r) _ = _
    rw [go_step (r1 := [a, b, some (.int f), c, some (.lst ys), d, some (encR k (enc i))]) rfl (l1_rd h.1 h.2.1 (by omega)), q]
    simp [inn, dm]
theorem l2_go {a b c : Option D} : ∀ {s : List Lg} {e : Nat} {f : Int} {ys : List D} {d o : Option D}, (∀ x ∈ s, LOk x e) → ys.length + (nxt s).length ≤ 10000 →
    ∃ d' o', forGo (gN 5) L2' (s.map encT) [a, b, some (.int f), c, some (.lst ys), d, o] = .next [a, b, some (.int (f + dmS s)), c, some (.lst (ys ++ (nxt s).map encT)), d', o']
  | [], e, f, ys, d, o, _, _ => ⟨d, o, by simp [nxt, dmS, forGo_nil]⟩
  | L :: s, e, f, ys, d, o, h, hl => by
    simp only [nxt, List.length_append] at hl
    obtain ⟨o1, q1⟩ := l1_go (a := a) (b := b) (c := c) (d := some (encT L)) (f := f) (ys := ys) (o := o) (h L List.mem_cons_self) (by omega)
    obtain ⟨d', o', q⟩ := l2_go (a := a) (b := b) (c := c) (s := s) (f := f + dm L) (ys := ys ++ (inn L).map encT) (d := some (encT L)) (o := o1) (fun x m => h x (List.mem_cons_of_mem _ m)) (by simp; omega)
    refine ⟨d', o', ?_⟩
    have st : L2' [a, b, some (.int f), c, some (.lst ys), some (encT L), o] = .next [a, b, some (.int (f + dm L)), c, some (.lst (ys ++ (inn L).map encT)), some (encT L), o1] := by
      unfold L2' lb__law_is_right_log_2
      exact seq_next (for_ok (fSeq_ok (fVar_ok rfl) (show seqD (encT L) = some (enc L) by unfold encT; rw [seqD_tup, if_pos (enc_pure L)])) q1) rfl
    rw [List.map_cons, go_step (r1 := [a, b, some (.int f), c, some (.lst ys), some (encT L), o]) rfl st, q]
    simp only [nxt, dmS]
    rw [show f + ((dm L : Nat) : Int) + ((dmS s : Nat) : Int) = f + ((dm L + dmS s : Nat) : Int) by omega]
    simp
theorem l3_step {a : Option D} {s : List Lg} {e : Nat} {f : Int} {c o4 d o : Option D} (h : ∀ x ∈ s, LOk x e) (hl : (nxt s).length ≤ 10000) :
    ∃ d' o', L3 [a, some (.lst (s.map encT)), some (.int f), c, o4, d, o] = .next [a, some (.lst ((nxt s).map encT)), some (.int (f + dmS s)), c, none, d', o'] := by
  obtain ⟨d', o', q⟩ := l2_go (a := a) (b := some (.lst (s.map encT))) (c := c) (f := f) (ys := []) (d := d) (o := o) h (by simpa using hl)
  refine ⟨d', o', ?_⟩
  rw [List.nil_append] at q
  unfold L3 lb__law_is_right_log_3
  refine seq_next (sAsg_ok (fLst_ok fNil_ok (by simp)) rfl) ?_
  refine seq_next (for_ok (fSeq_ok (fVar_ok rfl) (show seqD (.lst (s.map encT)) = some _ by rw [seqD_lst, if_pos (pure_map encT_pure s)])) q) ?_
  rfl
abbrev Q__law_is_right_log := F__law_is_right_log Q__law_is_built
theorem e__law_is_right_log {L : Lg} (h : LOk L 3) (hm : mvs L ≤ 200) (hw : wt L ≤ 200) : Q__law_is_right_log [.tup (enc L)] = .ok (.bl true) [] := by
  have w0 := wt_nxt [L]
  have w1 := wt_nxt (nxt [L])
  have w2 := wt_nxt (nxt (nxt [L]))
  have w3 := wt_nxt (nxt (nxt (nxt [L])))
  have m0 := mvs_nxt [L]
  have m1 := mvs_nxt (nxt [L])
  have m2 := mvs_nxt (nxt (nxt [L]))
  have m3 := mvs_nxt (nxt (nxt (nxt [L])))
  simp only [wtL, mvL', Nat.add_zero] at w0 m0
  have k0 : ∀ x ∈ [L], LOk x 3 := fun x m => by rw [List.mem_singleton.mp m]; exact h
  have k1 := nxt_ok k0
  have k2 := nxt_ok k1
  have k3 := nxt_ok k2
  have z := nxt_0 k3
  rw [z] at m3
  simp only [mvL', Nat.add_zero] at m3
  obtain ⟨d0, o0, q0⟩ := l3_step (a := some (.tup (enc L))) (f := 0) (c := some (.int 0)) (o4 := none) (d := none) (o := none) k0 (by omega)
  obtain ⟨d1, o1, q1⟩ := l3_step (a := some (.tup (enc L))) (f := 0 + (dmS [L] : Int)) (c := some (.int 1)) (o4 := none) (d := d0) (o := o0) k1 (by omega)
  obtain ⟨d2, o2, q2⟩ := l3_step (a := some (.tup (enc L))) (f := 0 + (dmS [L] : Int) + (dmS (nxt [L]) : Int)) (c := some (.int 2)) (o4 := none) (d := d1) (o := o1) k2 (by omega)
  obtain ⟨d3, o3, q3⟩ := l3_step (a := some (.tup (enc L))) (f := 0 + (dmS [L] : Int) + (dmS (nxt [L]) : Int) + (dmS (nxt (nxt [L])) : Int)) (c := some (.int 3)) (o4 := none) (d := d2) (o := o2) k3 (by omega)
  rw [z] at q3
  have fo : forGo (gN 3) L3 [.int 0, .int 1, .int 2, .int 3] [some (.tup (enc L)), some (.lst ([L].map encT)), some (.int 0), none, none, none, none] = .next [some (.tup (enc L)), some (.lst []), some (.int (0 + (dmS [L] : Int) + (dmS (nxt [L]) : Int) + (dmS (nxt (nxt [L])) : Int) + (dmS (nxt (nxt (nxt [L]))) : Int))), some (.int 3), none, d3, o3] := by
    rw [go_step rfl q0, go_step rfl q1, go_step rfl q2, go_step rfl q3]
    rfl
  have hle : dLe (.int (0 + (dmS [L] : Int) + (dmS (nxt [L]) : Int) + (dmS (nxt (nxt [L])) : Int) + (dmS (nxt (nxt (nxt [L]))) : Int))) (.int 200) = some (.bl true) := by
    show some (D.bl (decide (_ ≤ (200 : Int)))) = _
    rw [decide_eq_true (by omega)]
  show endF [] (fb__law_is_right_log Q__law_is_built [some (.tup (enc L)), none, none, none, none, none, none]) = _
  unfold fb__law_is_right_log
  refine endF_ret0 (r := [some (.tup (enc L)), some (.lst []), some (.int (0 + (dmS [L] : Int) + (dmS (nxt [L]) : Int) + (dmS (nxt (nxt [L])) : Int) + (dmS (nxt (nxt (nxt [L]))) : Int))), some (.int 3), none, d3, o3]) ?_
  refine seq_next (sAsg_ok (fLst_ok (fOne_ok (fPure_ok (fVar_ok rfl) (show (D.tup (enc L)).pure = true from enc_pure L))) (by simp)) rfl) ?_
  refine seq_next (r1 := [some (.tup (enc L)), some (.lst ([L].map encT)), some (.int 0), none, none, none, none]) rfl ?_
  refine seq_next (for_ok (r1 := [some (.tup (enc L)), some (.lst ([L].map encT)), some (.int 0), none, none, none, none]) (ds := [.int 0, .int 1, .int 2, .int 3]) rfl fo) ?_
  refine seq_ret (sRet_ok ?_)
  unfold fAndV
  rw [fBin_ok (g := dEq) (fVar_ok (i := 1) (r := [some (.tup (enc L)), some (.lst []), some (.int (0 + (dmS [L] : Int) + (dmS (nxt [L]) : Int) + (dmS (nxt (nxt [L])) : Int) + (dmS (nxt (nxt (nxt [L]))) : Int))), some (.int 3), none, d3, o3]) rfl) (fLst_ok fNil_ok (by simp)) eq0_nil, Res.bind_ok]
  exact fBin_ok (fVar_ok rfl) fC_ok hle
end DL

set_option Elab.async false
set_option linter.all false
set_option maxRecDepth 100000
set_option maxHeartbeats 1000000
namespace DL
open PySem PySem.Spec L2

abbrev Q__law_word_move := F__law_word_move F__law_digits
theorem lit_pm : ("+-" : Str) = St [43, 45] := rfl
theorem notin_pm (c : Nat) : dNotIn (.str (St [c])) (.str "+-") = some (.bl (!decide (c ∈ [43, 45]))) := by
  show some (D.bl (!strIn (St [c]) "+-")) = _
  rw [strIn_one, lit_pm, tl_St]
theorem lc2_ok {fe : Env → Res D} {a b c d : Option D} {x y u v : D} (h1 : fe [a, b, c, d, some x] = .ok u [a, b, c, d, some x]) (h2 : fe [a, b, c, d, some y] = .ok v [a, b, c, d, some y]) (hu : u.pure = true) (hv : v.pure = true) :
    lcGo (gN 4) tTrue fe [4] [x, y] [a, b, c, d, none] [] = .ok (.lst [u, v]) [a, b, c, d, none] := by
  rw [lcGo_cons, show gN 4 x (wipeE [a, b, c, d, none] [4]) = some [a, b, c, d, some x] from rfl]
  simp only [tTrue, h1, hu]
  rw [show unw [a, b, c, d, none] [a, b, c, d, some x] [4] = [a, b, c, d, none] from rfl]
  simp only [List.length_nil, show decide ((0 : Nat) < 16777216) = true from rfl, Bool.and_self, if_true]
  rw [lcGo_cons, show gN 4 y (wipeE [a, b, c, d, none] [4]) = some [a, b, c, d, some y] from rfl]
  simp only [tTrue, h2, hv]
  rw [show unw [a, b, c, d, none] [a, b, c, d, some y] [4] = [a, b, c, d, none] from rfl]
  simp [lcGo]
theorem wm_step {t d : Option D} {ys : List D} {p : Int × Int} (h1 : 0 ≤ p.1) (h2 : p.1 ≤ 1000000000000000000000000000000) (h3 : 0 ≤ p.2) (h4 : p.2 ≤ 1000000000000000000000000000000) (hl : ys.length < 16777216) :
    lb__law_word_move_1 F__law_digits [t, some (.lst ys), some (dW (pairL p)), d, none] = .next [t, some (.lst (ys ++ [encP p])), some (dW (pairL p)), some (.lst [.int p.1, .int p.2]), none] := by
  have n1 := e__law_digits (n := p.1.toNat) (by omega)
  have n2 := e__law_digits (n := p.2.toNat) (by omega)
  rw [toNat_nn h1] at n1
  rw [toNat_nn h3] at n2
  have pl := pair_len h2 h4
  have sp : gSplit (St (pairL p)) (.str "x") = some (.lst [dW (TL.numL p.1.toNat), dW (TL.numL p.2.toNat)]) := by
    rw [pairL_join] at pl ⊢
    exact gSplit_ok (by decide) (by simp) (fun w m => by
      simp at m
      rcases m with rfl | rfl <;> exact TL.numL_free (by omega)) (by omega)
  have lc := lc2_ok (fe := le__law_word_move_1 F__law_digits) (a := t) (b := some (.lst ys)) (c := some (dW (pairL p))) (d := d) (x := dW (TL.numL p.1.toNat)) (y := dW (TL.numL p.2.toNat)) (u := .int p.1) (v := .int p.2)
    (user_ok (fVar_ok rfl) rfl n1) (user_ok (fVar_ok rfl) rfl n2) rfl rfl
  have ap := app_root (i := 1) (r := [t, some (.lst ys), some (dW (pairL p)), some (.lst [.int p.1, .int p.2]), none]) rfl (hold_ok (i := 1) (fTup_ok (fCons_ok (fPure_ok (d := .int p.1) (fBin_ok (g := dIx) (y := .int 0) (fVar_ok (i := 3) rfl) fC_ok atI0) rfl) (fOne_ok (fPure_ok (d := .int p.2) (fBin_ok (g := dIx) (y := .int 1) (fVar_ok (i := 3) rfl) fC_ok atI1) rfl))) (by simp)) rfl (by simp)) hl
  unfold lb__law_word_move_1
  refine seq_next (sAsg_ok (lc_ok (fSeq_ok (fM1_ok (fVar_ok rfl) fC_ok sp) (show seqD (.lst [dW (TL.numL p.1.toNat), dW (TL.numL p.2.toNat)]) = some _ by rw [seqD_lst]; rfl)) rfl lc) rfl) ?_
  refine seq_next (if_f (r1 := [t, some (.lst ys), some (dW (pairL p)), some (.lst [.int p.1, .int p.2]), none]) rfl rfl) ?_
  exact seq_next (sExpr_ok ap) rfl
theorem wm_go {t : Option D} : ∀ {l : List (Int × Int)} {ys : List D} {o d : Option D}, (∀ p ∈ l, 0 ≤ p.1 ∧ p.1 ≤ 1000000000000000000000000000000 ∧ 0 ≤ p.2 ∧ p.2 ≤ 1000000000000000000000000000000) → ys.length + l.length ≤ 1000 →
    ∃ o' d', forGo (gN 2) (lb__law_word_move_1 F__law_digits) ((l.map pairL).map dW) [t, some (.lst ys), o, d, none] = .next [t, some (.lst (ys ++ l.map encP)), o', d', none]
  | [], ys, o, d, _, _ => ⟨o, d, by simp [forGo_nil]⟩
  | p :: l, ys, o, d, h, hl => by
    rw [List.length_cons] at hl
    obtain ⟨a1, a2, a3, a4⟩ := h p List.mem_cons_self
    obtain ⟨o', d', q⟩ := wm_go (t := t) (l := l) (ys := ys ++ [encP p]) (o := some (dW (pairL p))) (d := some (.lst [.int p.1, .int p.2])) (fun x m => h x (List.mem_cons_of_mem _ m)) (by simp; omega)
    refine ⟨o', d', ?_⟩
    rw [List.map_cons, List.map_cons, go_step (r1 := [t, some (.lst ys), some (dW (pairL p)), d, none]) rfl (wm_step a1 a2 a3 a4 (by omega)), q]
    simp
theorem e__law_word_move {w : Int} {l : List (Int × Int)} (hw : w = 1 ∨ w = -1) (h : LdOk (-1) l) (h3 : l.length ≤ 3) : Q__law_word_move [dW (mvL w l)] = .ok (encM w l) [] := by
  have ml := mv_len (w := w) h h3
  have ix : dIx (dW (mvL w l)) (.int 0) = some (.str (St [wayL w])) := ix_St0 (c := wayL w) (r := TL.joinL [44] (l.map pairL)) (by unfold mvL at ml; omega)
  have e1 : dEq (dW (mvL w l)) (.str "") = some (.bl false) := by
    rw [lit_e]
    exact (sEq_str _ _).trans (by simp [mvL])
  have en : dNotIn (.str (St [wayL w])) (.str "+-") = some (.bl false) := by
    rw [notin_pm]
    unfold wayL
    split <;> rfl
  have t0 : fOr (fBl (fBin dEq (fVar 0) (fC (.str "")))) (fBl (fBin dNotIn (fBin dIx (fVar 0) (fC (.int 0))) (fC (.str "+-")))) [some (dW (mvL w l)), none, none, none, none] = .ok false [some (dW (mvL w l)), none, none, none, none] :=
    fOr_f (fBl_ok (fBin_ok (fVar_ok rfl) fC_ok e1)) (fBl_ok (fBin_ok (fBin_ok (fVar_ok rfl) fC_ok ix) fC_ok en))
  obtain ⟨o', d', q⟩ := wm_go (t := some (dW (mvL w l))) (l := l) (ys := []) (o := none) (d := none) (fun p m => by
    have := h.ge p m
    exact ⟨by omega, by omega, by omega, by omega⟩) (by simp; omega)
  rw [List.nil_append] at q
  have dl : dLen [dW (mvL w l)] = some (.int (mvL w l).length) := by
    have : szOk (St (mvL w l)).length = true := by rw [St_len]; exact decide_eq_true (by omega)
    simp only [dLen, dW, this, if_true]
    rw [St_len]
  have lp : ∃ o' d', sIf (fBl (fBin dGt (fCall dLen (fCons (fVar 0) fNil)) (fC (.int 1)))) (sSeq (sFor (fSeq (fM1 gSplit (fSl (fVar 0) (fSomeP (fC (.int 1))) fNoP) (fC (.str ",")))) (gN 2) (lb__law_word_move_1 F__law_digits)) sNil) sNil [some (dW (mvL w l)), some (.lst []), none, none, none] = .next [some (dW (mvL w l)), some (.lst (l.map encP)), o', d', none] := by
    by_cases c : l = []
    · subst c
      exact ⟨none, none, if_f (fBl_ok (fBin_ok (fCall_ok (fOne_ok (fVar_ok rfl)) dl) fC_ok rfl)) rfl⟩
    · have ne : l.map pairL ≠ [] := fun z => c (List.map_eq_nil_iff.mp z)
      have l1 : (1 : Int) < ((mvL w l).length : Int) := by
        unfold mvL
        rw [List.length_cons]
        cases l with
        | nil => exact absurd rfl c
        | cons p l =>
          have z : 0 < (TL.joinL [44] ((p :: l).map pairL)).length := by
            rw [List.map_cons]
            cases hq : l.map pairL with
            | nil => show 0 < (pairL p).length; simp [pairL]; omega
            | cons a b => show 0 < (pairL p ++ _).length; simp [pairL]; omega
          omega
      have g1 : dGt (.int (mvL w l).length) (.int 1) = some (.bl true) := by
        show some (D.bl (decide ((1 : Int) < ((mvL w l).length : Int)))) = _
        rw [decide_eq_true l1]
      have gs : gSl (dW (mvL w l)) (some 1) none = some (dW (TL.joinL [44] (l.map pairL))) := by
        rw [show dW (mvL w l) = .str (St (mvL w l)) from rfl, gSl_str (by omega)]
        unfold mvL
        rw [cut_tail]; rfl
      have sp : gSplit (St (TL.joinL [44] (l.map pairL))) (.str ",") = some (.lst ((l.map pairL).map dW)) := gSplit_ok (by decide) ne (fun x m => by
        obtain ⟨p, _, rfl⟩ := List.mem_map.mp m
        intro z
        have := mem_pair z
        omega) (by unfold mvL at ml; rw [List.length_cons] at ml; omega)
      refine ⟨o', d', if_t (fBl_ok (fBin_ok (fCall_ok (fOne_ok (fVar_ok rfl)) dl) fC_ok g1)) (seq_next (for_ok (fSeq_ok (fM1_ok (a := St (TL.joinL [44] (l.map pairL))) (fSl_ok (fVar_ok rfl) (fSomeP_ok fC_ok) rfl gs) fC_ok sp) (show seqD (.lst ((l.map pairL).map dW)) = some _ by rw [seqD_lst, if_pos (dW_pure _)])) q) rfl)⟩
  obtain ⟨o2, d2, lp⟩ := lp
  have fin : fTup (fCons (fBin dIx (fLst (fCons (fNeg (fC (.int 1))) (fCons (fC (.int 1)) fNil))) (fCall dInt (fCons (fBin dEq (fBin dIx (fVar 0) (fC (.int 0))) (fC (.str "+"))) fNil))) (fCons (fCall dTuple (fCons (fVar 1) fNil)) fNil)) [some (dW (mvL w l)), some (.lst (l.map encP)), o2, d2, none] = .ok (encM w l) [some (dW (mvL w l)), some (.lst (l.map encP)), o2, d2, none] := by
    have k1 : fBin dIx (fLst (fCons (fNeg (fC (.int 1))) (fCons (fC (.int 1)) fNil))) (fCall dInt (fCons (fBin dEq (fBin dIx (fVar 0) (fC (.int 0))) (fC (.str "+"))) fNil)) [some (dW (mvL w l)), some (.lst (l.map encP)), o2, d2, none] = .ok (.int w) [some (dW (mvL w l)), some (.lst (l.map encP)), o2, d2, none] := by
      have eq : dEq (.str (St [wayL w])) (.str "+") = some (.bl (decide (w = 1))) := by
        rw [lit_p]
        refine (sEq_str _ _).trans ?_
        rcases hw with rfl | rfl <;> rfl
      refine fBin_ok (x := .lst [.int (-1), .int 1]) rfl (fCall_ok (fOne_ok (fBin_ok (fBin_ok (fVar_ok rfl) fC_ok ix) fC_ok eq)) rfl) ?_
      rcases hw with rfl | rfl
      · exact atI1
      · exact atI0
    have k2 : dTuple [.lst (l.map encP)] = some (.tup (l.map encP)) := by
      have hp : pureL (l.map encP) = true := pure_map encP_pure l
      simp only [dTuple, hp, if_true]
    exact fTup_ok (fCons_ok k1 (fOne_ok (fCall_ok (fOne_ok (fVar_ok rfl)) k2))) (by simp)
  show endF [] (fb__law_word_move F__law_digits [some (dW (mvL w l)), none, none, none, none]) = _
  unfold fb__law_word_move
  refine endF_ret0 (r := [some (dW (mvL w l)), some (.lst (l.map encP)), o2, d2, none]) ?_
  refine seq_next (if_f t0 rfl) (seq_next (sAsg_ok (fLst_ok fNil_ok (by simp)) rfl) (seq_next lp (seq_ret (sRet_ok fin))))
theorem e__law_word_not {c : Nat} {r : List Nat} (h1 : c ≠ 43) (h2 : c ≠ 45) (hl : (c :: r).length ≤ 1000) : Q__law_word_move [dW (c :: r)] = .ok .non [] := by
  have ix : dIx (dW (c :: r)) (.int 0) = some (.str (St [c])) := ix_St0 (by omega)
  have e1 : dEq (dW (c :: r)) (.str "") = some (.bl false) := by
    rw [lit_e]
    exact (sEq_str _ _).trans (by simp)
  have en : dNotIn (.str (St [c])) (.str "+-") = some (.bl true) := by
    rw [notin_pm]
    simp [h1, h2]
  have t0 : fOr (fBl (fBin dEq (fVar 0) (fC (.str "")))) (fBl (fBin dNotIn (fBin dIx (fVar 0) (fC (.int 0))) (fC (.str "+-")))) [some (dW (c :: r)), none, none, none, none] = .ok true [some (dW (c :: r)), none, none, none, none] :=
    fOr_f (fBl_ok (fBin_ok (fVar_ok rfl) fC_ok e1)) (fBl_ok (fBin_ok (fBin_ok (fVar_ok rfl) fC_ok ix) fC_ok en))
  show endF [] (fb__law_word_move F__law_digits [some (dW (c :: r)), none, none, none, none]) = _
  unfold fb__law_word_move
  exact endF_ret0 (seq_ret (if_t t0 rfl))
theorem opL_cons {k : Int} (h2 : k ≤ 1000000000000000000000000000000) : ∃ c r, opL k = c :: r ∧ c ≠ 43 ∧ c ≠ 45 ∧ (c :: r).length ≤ 1000 := by
  have a31 := num31 (n := k.toNat) (by omega)
  have ne := TL.numL_ne k.toNat
  have dg := TL.numL_digits k.toNat
  cases hq : TL.numL k.toNat with
  | nil => exact absurd hq ne
  | cons c r =>
    have hc := dg c (by rw [hq]; exact List.mem_cons_self)
    rw [hq, List.length_cons] at a31
    exact ⟨c, r ++ [40], by unfold opL; rw [hq]; rfl, by omega, by omega, by rw [List.length_cons, List.length_append, List.length_singleton]; omega⟩

/-! ### the law's reading of logs -/
inductive IsA (W : List (List Nat)) : List D → List (List Nat) → Prop where
  | nil : IsA W [] []
  | cons (k : Nat) {P : List D} {w : List Nat} {ws : List (List Nat)} (hk : W[k]? = some w) : IsA W P ws → IsA W (.int k :: P) (w :: ws)
theorem IsA.split {W : List (List Nat)} : ∀ {a b : List (List Nat)} {P : List D}, IsA W P (a ++ b) → ∃ P1 P2, P = P1 ++ P2 ∧ IsA W P1 a ∧ IsA W P2 b
  | [], b, P, h => ⟨[], P, rfl, .nil, h⟩
  | w :: a, b, P, h => by
    cases h with
    | cons i hk h =>
      obtain ⟨P1, P2, rfl, h1, h2⟩ := IsA.split h
      exact ⟨_ :: P1, P2, rfl, .cons i hk h1, h2⟩
theorem rngD_succ (lo : Int) (n : Nat) : rngD lo (n + 1) = .int lo :: rngD (lo + 1) n := by
  unfold rngD
  rw [List.range_succ_eq_map, List.map_cons, List.map_map]
  congr 1
  · simp
  · apply List.map_congr_left
    intro i _
    simp only [Function.comp]
    congr 1
    omega
theorem IsA.rng {W : List (List Nat)} : ∀ {ws pre : List (List Nat)}, W = pre ++ ws → IsA W (rngD (pre.length : Nat) ws.length) ws
  | [], pre, _ => .nil
  | w :: ws, pre, e => by
    rw [List.length_cons, rngD_succ]
    refine .cons pre.length (by rw [e]; simp) ?_
    have := IsA.rng (W := W) (ws := ws) (pre := pre ++ [w]) (by rw [e]; simp)
    rw [List.length_append, List.length_singleton] at this
    rw [show ((pre.length : Nat) : Int) + 1 = ((pre.length + 1 : Nat) : Int) by omega]
    exact this
abbrev AB := lb__law_read_log_1 F__law_digits Q__law_word_move Q__law_is_right_log
def lvs (s : List (List D)) : D := .lst (s.map .lst)
def tms (s : List Int) : D := .lst (s.map .int)
theorem lvs_snoc (s : List (List D)) (acc : List D) : lvs (s ++ [acc]) = .lst (s.map D.lst ++ [.lst acc]) := by simp [lvs]
theorem tms_snoc (s : List Int) (k : Int) : tms (s ++ [k]) = .lst (s.map D.int ++ [.int k]) := by simp [tms]
abbrev AE (t : Option D) (W : List (List Nat)) (s : List (List D)) (ts : List Int) (o4 o5 o6 o7 o8 : Option D) : Env := [t, some (.lst (W.map dW)), some (lvs s), some (tms ts), o4, o5, o6, o7, o8, none]
section
variable {t o5 o6 o7 o8 : Option D} {W : List (List Nat)} {s : List (List D)} {ts : List Int} {acc : List D} {k : Nat}
theorem word_at {w : List Nat} (hk : W[k]? = some w) : dIx (.lst (W.map dW)) (.int k) = some (dW w) := atI_nat (j := k) (by rw [List.getElem?_map, hk]; rfl)
theorem ab_mv {v : Int} {l : List (Int × Int)} (hk : W[k]? = some (mvL v l)) (hw : v = 1 ∨ v = -1) (h : LdOk (-1) l) (h3 : l.length ≤ 3) (ha : acc.length < 16777216) :
    AB (AE t W (s ++ [acc]) ts (some (.int k)) o5 o6 o7 o8) = .next (AE t W (s ++ [acc ++ [encM v l]]) ts (some (.int k)) (some (dW (mvL v l))) (some .non) (some (encM v l)) o8) := by
  have ge : gEnds (St (mvL v l)) (.str "(") = some (.bl false) := by
    show some (D.bl (Txt.endswith (St (mvL v l)) "(")) = _
    rw [lit_o, ends_not (fun z => by have := mem_mv z; omega)]
  have e2 := e__law_word_move hw h h3
  have a := app_last1 (i := 2) (r := AE t W (s ++ [acc]) ts (some (.int k)) (some (dW (mvL v l))) (some .non) (some (encM v l)) o8) (xs := s.map D.lst) (acc := acc) (by rw [AE, lvs_snoc]; rfl) (hold_ok (i := 2) (fPure_ok (f := fVar 7) (fVar_ok rfl) (encM_pure v l)) rfl (by simp)) ha
  unfold AB lb__law_read_log_1
  refine seq_next (sAsg_ok (fPure_ok (fBin_ok (fVar_ok rfl) (fVar_ok rfl) (word_at hk)) rfl) rfl) ?_
  refine seq_next (sAsg_ok fC_ok rfl) ?_
  refine seq_next (if_f (fTru_ok (fM1_ok (fVar_ok rfl) fC_ok ge) rfl) rfl) ?_
  refine seq_next (sAsg_ok (user_ok (fVar_ok rfl) rfl e2) rfl) ?_
  refine seq_next (if_f (fBl_ok (fBin_ok (fVar_ok rfl) fC_ok rfl)) ?_) rfl
  refine seq_next (if_t (fBl_ok (fBin_ok (fVar_ok rfl) fC_ok rfl)) ?_) rfl
  refine seq_next (sExpr_ok a) ?_
  have fin : AE t W (s ++ [acc ++ [encM v l]]) ts (some (.int k)) (some (dW (mvL v l))) (some .non) (some (encM v l)) o8 = [t, some (.lst (W.map dW)), some (.lst (s.map D.lst ++ [.lst (acc ++ [encM v l])])), some (tms ts), some (.int k), some (dW (mvL v l)), some .non, some (encM v l), o8, none] := by rw [AE, lvs_snoc]
  rw [fin]
  rfl
theorem ab_op {n : Int} (hk : W[k]? = some (opL n)) (h1 : 1 ≤ n) (h2 : n ≤ 1000000000000000000000000000000) (hs : s.length < 16777216) (ht : ts.length < 16777216) :
    AB (AE t W s ts (some (.int k)) o5 o6 o7 o8) = .next (AE t W (s ++ [[]]) (ts ++ [n]) (some (.int k)) (some (dW (opL n))) (some (.int n)) (some .non) o8) := by
  have n1 := e__law_digits (n := n.toNat) (by omega)
  rw [toNat_nn (by omega)] at n1
  have a31 := num31 (n := n.toNat) (by omega)
  have ge : gEnds (St (opL n)) (.str "(") = some (.bl true) := by
    show some (D.bl (Txt.endswith (St (opL n)) "(")) = _
    rw [lit_o]
    unfold opL
    rw [ends1]; rfl
  have gs : gSl (dW (opL n)) none (some (-1)) = some (dW (TL.numL n.toNat)) := by
    rw [show dW (opL n) = .str (St (opL n)) from rfl, gSl_str (by unfold opL; simp; omega)]
    unfold opL
    rw [cut_init]; rfl
  obtain ⟨c, r, eo, c1, c2, cl⟩ := opL_cons h2
  have e2 : Q__law_word_move [dW (opL n)] = .ok .non [] := by
    rw [eo]; exact e__law_word_not c1 c2 cl
  have a1 := app_root (i := 3) (r := AE t W s ts (some (.int k)) (some (dW (opL n))) (some (.int n)) (some .non) o8) (xs := ts.map D.int) rfl (hold_ok (i := 3) (fPure_ok (f := fVar 6) (d := .int n) (fVar_ok rfl) rfl) rfl (by simp)) (by simp; omega)
  have a2 := app_root (i := 2) (r := [t, some (.lst (W.map dW)), some (lvs s), some (.lst (ts.map D.int ++ [.int n])), some (.int k), some (dW (opL n)), some (.int n), some .non, o8, none]) (xs := s.map D.lst) rfl (hold_ok (i := 2) (fLst_ok fNil_ok (by simp)) rfl (by simp)) (by simp; omega)
  unfold AB lb__law_read_log_1
  refine seq_next (sAsg_ok (fPure_ok (fBin_ok (fVar_ok rfl) (fVar_ok rfl) (word_at hk)) rfl) rfl) ?_
  refine seq_next (sAsg_ok fC_ok rfl) ?_
  refine seq_next (if_t (fTru_ok (fM1_ok (fVar_ok rfl) fC_ok ge) rfl) (seq_next (sAsg_ok (user_ok (fSl_ok (fVar_ok rfl) rfl (fSomeP_ok rfl) gs) rfl n1) rfl) rfl)) ?_
  refine seq_next (sAsg_ok (user_ok (x := dW (opL n)) (fVar_ok rfl) rfl e2) rfl) ?_
  refine seq_next (if_t (fBl_ok (fBin_ok (fVar_ok rfl) fC_ok rfl)) (seq_next (sExpr_ok a1) (seq_next (sExpr_ok a2) rfl))) ?_
  have fin : AE t W (s ++ [[]]) (ts ++ [n]) (some (.int k)) (some (dW (opL n))) (some (.int n)) (some .non) o8 = [t, some (.lst (W.map dW)), some (.lst (s.map D.lst ++ [.lst []])), some (.lst (ts.map D.int ++ [.int n])), some (.int k), some (dW (opL n)), some (.int n), some .non, o8, none] := by rw [AE, lvs_snoc, tms_snoc]
  rw [fin]
  rfl
theorem ab_cl {n : Int} {b : List D} (hk : W[k]? = some [41]) (hb : 0 < b.length) (hp : pureL b = true) (ha : acc.length < 16777216) :
    AB (AE t W (s ++ [acc, b]) (ts ++ [n]) (some (.int k)) o5 o6 o7 o8) = .next (AE t W (s ++ [acc ++ [encR n b]]) ts (some (.int k)) (some (dW [41])) (some .non) (some .non) (some (.tup b))) := by
  have ge : gEnds (St [41]) (.str "(") = some (.bl false) := by
    show some (D.bl (Txt.endswith (St [41]) "(")) = _
    rw [lit_o, ends_not (by simp)]
  have e2 := e__law_word_not (c := 41) (r := []) (by decide) (by decide) (by simp)
  have es : lvs (s ++ [acc, b]) = .lst ((s.map D.lst ++ [.lst acc]) ++ [.lst b]) := by simp [lvs]
  have t1 : dEq (dW [41]) (.str ")") = some (.bl true) := by rw [lit_c]; exact (sEq_str _ _).trans rfl
  have t2 : fBl (fBin dGt (fCall dLen (fCons (fVar 3) fNil)) (fC (.int 0))) (AE t W (s ++ [acc, b]) (ts ++ [n]) (some (.int k)) (some (dW [41])) (some .non) (some .non) o8) = .ok true (AE t W (s ++ [acc, b]) (ts ++ [n]) (some (.int k)) (some (dW [41])) (some .non) (some .non) o8) := by
    refine fBl_ok (fBin_ok (fCall_ok (fOne_ok (fVar_ok rfl)) (show dLen [tms (ts ++ [n])] = some (.int ((ts ++ [n]).map D.int).length) from rfl)) fC_ok ?_)
    show some (D.bl (decide ((0 : Int) < ((((ts ++ [n]).map D.int).length : Nat) : Int)))) = _
    rw [decide_eq_true (by simp)]
  have t3 : dGt (.int (b.length : Nat)) (.int 0) = some (.bl true) := by
    show some (D.bl (decide ((0 : Int) < ((b.length : Nat) : Int)))) = _
    rw [decide_eq_true (by omega)]
  have ix : dIx (lvs (s ++ [acc, b])) (.int (-1)) = some (.lst b) := by rw [es]; exact atI_last
  have pp := pop_root (i := 2) (r := AE t W (s ++ [acc, b]) (ts ++ [n]) (some (.int k)) (some (dW [41])) (some .non) (some .non) o8) (xs := s.map D.lst ++ [.lst acc]) (y := .lst b) (by rw [AE, es]; rfl)
  have dt : dTuple [.lst b] = some (.tup b) := by simp only [dTuple, hp, if_true]
  have pt := pop_root (i := 3) (r := [t, some (.lst (W.map dW)), some (.lst (s.map D.lst ++ [.lst acc])), some (tms (ts ++ [n])), some (.int k), some (dW [41]), some .non, some .non, some (.tup b), none]) (xs := ts.map D.int) (y := .int n) (by rw [tms_snoc]; rfl)
  have a := app_last1 (i := 2) (r := [t, some (.lst (W.map dW)), some (.lst (s.map D.lst ++ [.lst acc])), some (tms (ts ++ [n])), some (.int k), some (dW [41]), some .non, some .non, some (.tup b), none]) (xs := s.map D.lst) (acc := acc) rfl
    (hold_ok (i := 2) (fTup_ok (fCons_ok (fC_ok (d := .str "times")) (fCons_ok pt (fOne_ok (fPure_ok (f := fVar 8) (d := .tup b) (fVar_ok rfl) hp)))) (by simp)) rfl (by simp)) ha
  unfold AB lb__law_read_log_1
  refine seq_next (sAsg_ok (fPure_ok (fBin_ok (fVar_ok rfl) (fVar_ok rfl) (word_at hk)) rfl) rfl) ?_
  refine seq_next (sAsg_ok fC_ok rfl) ?_
  refine seq_next (if_f (fTru_ok (fM1_ok (fVar_ok rfl) fC_ok ge) rfl) rfl) ?_
  refine seq_next (sAsg_ok (user_ok (fVar_ok rfl) rfl e2) rfl) ?_
  refine seq_next (if_f (fBl_ok (fBin_ok (fVar_ok rfl) fC_ok rfl)) ?_) rfl
  refine seq_next (if_f (fBl_ok (fBin_ok (fVar_ok rfl) fC_ok rfl)) ?_) rfl
  refine seq_next (if_t (r1 := AE t W (s ++ [acc, b]) (ts ++ [n]) (some (.int k)) (some (dW [41])) (some .non) (some .non) o8) ?_ ?_) rfl
  · refine fAnd_t (fBl_ok (fBin_ok (fVar_ok rfl) fC_ok t1)) (fAnd_t t2 ?_)
    exact fBl_ok (fBin_ok (fCall_ok (fOne_ok (fBin_ok (fVar_ok rfl) rfl ix)) rfl) fC_ok t3)
  · refine seq_next (sAsg_ok (fCall_ok (fOne_ok pp) dt) rfl) (seq_next (sExpr_ok a) ?_)
    have fin : AE t W (s ++ [acc ++ [encR n b]]) ts (some (.int k)) (some (dW [41])) (some .non) (some .non) (some (.tup b)) = [t, some (.lst (W.map dW)), some (.lst (s.map D.lst ++ [.lst (acc ++ [encR n b])])), some (.lst (ts.map D.int)), some (.int k), some (dW [41]), some .non, some .non, some (.tup b), none] := by rw [AE, lvs_snoc]; rfl
    rw [fin]
    rfl
end
theorem al_go {t : Option D} {W : List (List Nat)} : ∀ {L : Lg} {e : Nat} {P rest : List D} {s : List (List D)} {ts : List Int} {acc : List D} {o4 o5 o6 o7 o8 : Option D}, LOk L e → IsA W P (wds L) → acc.length + (wds L).length ≤ 5000 → s.length + (wds L).length ≤ 5000 → ts.length + (wds L).length ≤ 5000 →
    ∃ o4' o5' o6' o7' o8', forGo (gN 4) AB (P ++ rest) (AE t W (s ++ [acc]) ts o4 o5 o6 o7 o8) = forGo (gN 4) AB rest (AE t W (s ++ [acc ++ enc L]) ts o4' o5' o6' o7' o8')
  | .nil, e, P, rest, s, ts, acc, o4, o5, o6, o7, o8, _, hP, _, _, _ => by
    cases hP
    exact ⟨o4, o5, o6, o7, o8, by simp [enc]⟩
  | .mv v l r, e, P, rest, s, ts, acc, o4, o5, o6, o7, o8, h, hP, ha, hs, ht => by
    simp only [wds, List.length_cons] at hP ha hs ht
    cases hP with
    | @cons i P _ _ hk hP =>
      obtain ⟨a4, a5, a6, a7, a8, q⟩ := al_go (t := t) (W := W) (rest := rest) (s := s) (ts := ts) (acc := acc ++ [encM v l]) (o4 := some (.int i)) (o5 := some (dW (mvL v l))) (o6 := some .non) (o7 := some (encM v l)) (o8 := o8) h.2.2.2 hP (by simp; omega) (by omega) (by omega)
      refine ⟨a4, a5, a6, a7, a8, ?_⟩
      rw [List.cons_append, go_step (r1 := AE t W (s ++ [acc]) ts (some (.int i)) o5 o6 o7 o8) rfl (ab_mv hk h.1 h.2.1 h.2.2.1 (by omega)), q]
      simp [enc]
  | .rd n j r, e, P, rest, s, ts, acc, o4, o5, o6, o7, o8, h, hP, ha, hs, ht => by
    obtain ⟨h1, h2, h3, ⟨e', ee, hj⟩, hr⟩ := h
    simp only [wds, List.length_cons, List.length_append] at hP ha hs ht
    cases hP with
    | @cons i P _ _ hk hP =>
      obtain ⟨P1, P2, rfl, hP1, hP2⟩ := hP.split
      cases hP2 with
      | @cons i2 P2 _ _ hk2 hP2 =>
        obtain ⟨b4, b5, b6, b7, b8, qi⟩ := al_go (t := t) (W := W) (rest := .int i2 :: (P2 ++ rest)) (s := s ++ [acc]) (ts := ts ++ [n]) (acc := []) (o4 := some (.int i)) (o5 := some (dW (opL n))) (o6 := some (.int n)) (o7 := some .non) (o8 := o8) hj hP1 (by simp; omega) (by simp; omega) (by simp; omega)
        obtain ⟨a4, a5, a6, a7, a8, q⟩ := al_go (t := t) (W := W) (rest := rest) (s := s) (ts := ts) (acc := acc ++ [encR n (enc j)]) (o4 := some (.int i2)) (o5 := some (dW [41])) (o6 := some .non) (o7 := some .non) (o8 := some (.tup (enc j))) hr hP2 (by simp; omega) (by omega) (by omega)
        refine ⟨a4, a5, a6, a7, a8, ?_⟩
        rw [List.cons_append, go_step (r1 := AE t W (s ++ [acc]) ts (some (.int i)) o5 o6 o7 o8) rfl (ab_op hk h1 h2 (by simp; omega) (by omega))]
        rw [List.append_assoc, List.cons_append, qi, List.nil_append]
        have e2 : s ++ [acc] ++ [enc j] = s ++ [acc, enc j] := by simp
        rw [e2, go_step (r1 := AE t W (s ++ [acc, enc j]) (ts ++ [n]) (some (.int i2)) b5 b6 b7 b8) rfl (ab_cl hk2 (len_enc_ne h3) (enc_pure j) (by omega)), q]
        simp [enc]
abbrev Q__law_read_log := F__law_read_log F__law_digits Q__law_word_move Q__law_is_right_log
theorem e__law_read_log {L : Lg} (h : LOk L 3) (hl : (wds L).length ≤ 1000) (hm : mvs L ≤ 200) (hw : wt L ≤ 200) : Q__law_read_log [dW (txt L)] = .ok (.tup [.str "told", .tup (enc L)]) [] := by
  have ec := e__law_is_right_log h hm hw
  have dt : dTuple [.lst (enc L)] = some (.tup (enc L)) := by simp only [dTuple, enc_pure, if_true]
  have ws : sIf (fBl (fBin dNe (fVar 0) (fC (.str "")))) (sSeq (sAsg (fM1 gSplit (fVar 0) (fC (.str " "))) (gN 1)) sNil) sNil [some (dW (txt L)), some (.lst []), none, none, none, none, none, none, none, none] = .next [some (dW (txt L)), some (.lst ((wds L).map dW)), none, none, none, none, none, none, none, none] := by
    by_cases c : L = .nil
    · subst c
      have e1 : dNe (dW (txt .nil)) (.str "") = some (.bl false) := by rw [lit_e]; exact (sNe_str _ _).trans rfl
      exact if_f (fBl_ok (fBin_ok (fVar_ok rfl) fC_ok e1)) rfl
    · have e1 : dNe (dW (txt L)) (.str "") = some (.bl true) := by
        rw [lit_e]
        exact (sNe_str _ _).trans (by simp [txt_ne c])
      exact if_t (fBl_ok (fBin_ok (fVar_ok rfl) fC_ok e1)) (seq_next (sAsg_ok (fM1_ok (fVar_ok rfl) fC_ok (words_of (M := F_check_text) h hl c)) rfl) rfl)
  obtain ⟨a4, a5, a6, a7, a8, q⟩ := al_go (t := some (dW (txt L))) (W := wds L) (P := rngD 0 (wds L).length) (rest := []) (s := []) (ts := []) (acc := []) (o4 := none) (o5 := none) (o6 := none) (o7 := none) (o8 := none) h (IsA.rng (pre := []) rfl) (by simp; omega) (by simp; omega) (by simp; omega)
  rw [List.append_nil, List.nil_append, List.nil_append, forGo_nil, List.nil_append] at q
  have gr : gRange1 [.int ((wds L).length : Nat)] = some (rngD 0 (wds L).length) := by
    have : rngOk (((wds L).length : Nat) : Int) = true := by
      unfold rngOk
      rw [Bool.and_eq_true, decide_eq_true_eq, decide_eq_true_eq]
      omega
    simp only [gRange1, this, if_true, Int.toNat_natCast]
  have dl : dLen [.lst ((wds L).map dW)] = some (.int ((wds L).length : Nat)) := by simp [dLen]
  show endF [] (fb__law_read_log F__law_digits Q__law_word_move Q__law_is_right_log [some (dW (txt L)), none, none, none, none, none, none, none, none, none]) = _
  unfold fb__law_read_log
  refine endF_ret0 (r := [some (dW (txt L)), some (.lst ((wds L).map dW)), some (lvs [enc L]), some (tms []), a4, a5, a6, a7, a8, some (.tup (enc L))]) ?_
  refine seq_next (r1 := [some (dW (txt L)), none, none, none, none, none, none, none, none, none]) rfl ?_
  refine seq_next (sAsg_ok (fLst_ok fNil_ok (by simp)) rfl) ?_
  refine seq_next ws ?_
  refine seq_next (sAsg_ok (fLst_ok (fOne_ok (fLst_ok fNil_ok (by simp))) (by simp)) rfl) ?_
  refine seq_next (sAsg_ok (fLst_ok fNil_ok (by simp)) rfl) ?_
  refine seq_next (for_ok (fArgL_ok (fOne_ok (fCall_ok (fOne_ok (fVar_ok rfl)) dl)) gr) q) ?_
  refine seq_next (if_f (fBl_ok (fBin_ok (fCall_ok (fOne_ok (fVar_ok rfl)) rfl) fC_ok rfl)) rfl) ?_
  refine seq_next (sAsg_ok (fCall_ok (fOne_ok (fBin_ok (fVar_ok rfl) fC_ok atI0)) dt) rfl) ?_
  refine seq_next (if_f (fNot_ok (fTru_ok (user_ok (fVar_ok rfl) (show (D.tup (enc L)).pure = true from enc_pure L) ec) rfl)) rfl) ?_
  exact seq_ret (sRet_ok (fTup_ok (fCons_ok fC_ok (fOne_ok (fPure_ok (fVar_ok rfl) (show (D.tup (enc L)).pure = true from enc_pure L)))) (by simp)))
end DL

set_option Elab.async false
set_option linter.all false
set_option maxRecDepth 100000
set_option maxHeartbeats 1000000
namespace DL
open PySem PySem.Spec L2

/-! ### the deck -/
def Dk (cs : List Int) (i a b s : Int) : D := .lst [.lst (cs.map .int), .int i, .int a, .int b, .int s]
structure DkInv (cs : List Int) (i a b s : Int) : Prop where
  nn : ∀ c ∈ cs, 0 ≤ c
  i0 : 0 ≤ i
  i1 : i ≤ cs.length
  a : 0 ≤ a
  s0 : 0 ≤ s
  s1 : s < 2147483647
def DkOk (d : D) : Prop := ∃ cs i a b s, d = Dk cs i a b s ∧ DkInv cs i a b s
theorem atI3 {α : Type} {a b c d : α} {l : List α} : atI (a :: b :: c :: d :: l) 3 = some d := atI_nat (j := 3) rfl
theorem atI4 {α : Type} {a b c d e : α} {l : List α} : atI (a :: b :: c :: d :: e :: l) 4 = some e := atI_nat (j := 4) rfl
theorem set_ok {i : Nat} {fe : Env → Res D} {r r1 : Env} {xs : List D} {y : D} {k : Int} {j : Nat} (e : fe r = .ok y r1) (h : r1[i]? = some (some (.lst xs))) (hk : ixN xs.length k = some j) : sSet i pR (qC k) fe r = .next (r1.set i (some (.lst (xs.set j y)))) := by
  unfold sSet
  rw [e, Res.toS_ok]
  simp only [pR, qC, h, D.at, hk, D.put]
theorem mul_l {i j : Int} (h : sm64 i = true) : dMul (.int i) (.int j) = some (.int (i * j)) := by
  simp [dMul, iBin, mulOk, h]
theorem mul_r {i j : Int} (h : sm64 j = true) : dMul (.int i) (.int j) = some (.int (i * j)) := by
  simp [dMul, iBin, mulOk, h]
theorem mod_ok {i j : Int} (h : 0 < j) : dMod (.int i) (.int j) = some (.int (i % j)) := by
  simp [dMod, iBin, h]
theorem div_ok {i j : Int} (h : 0 < j) (h2 : j < 18446744073709551616) : dDiv (.int i) (.int j) = some (.int (i / j)) := by
  simp [dDiv, iBin, h, h2]
theorem sm_of {i : Int} (h : 0 ≤ i) (h2 : i < 2147483647) : sm64 i = true := by
  unfold sm64
  rw [Bool.and_eq_true, decide_eq_true_eq, decide_eq_true_eq]
  omega
theorem eqI (i j : Int) : dEq (.int i) (.int j) = some (.bl (decide (i = j))) := rfl
section
variable {cs : List Int} {i a b s : Int} {o1 o2 o3 : Option D}
abbrev TE' (cs : List Int) (i a b s : Int) (o1 o2 o3 : Option D) : Env := [some (Dk cs i a b s), o1, o2, o3]
theorem k1 : fBin dIx (fVar 0) (fC (.int 1)) (TE' cs i a b s o1 o2 o3) = .ok (.int i) (TE' cs i a b s o1 o2 o3) := fBin_ok (fVar_ok rfl) fC_ok atI1
theorem k2 : fBin dIx (fVar 0) (fC (.int 2)) (TE' cs i a b s o1 o2 o3) = .ok (.int a) (TE' cs i a b s o1 o2 o3) := fBin_ok (fVar_ok rfl) fC_ok atI2
theorem k3 : fBin dIx (fVar 0) (fC (.int 3)) (TE' cs i a b s o1 o2 o3) = .ok (.int b) (TE' cs i a b s o1 o2 o3) := fBin_ok (fVar_ok rfl) fC_ok atI3
theorem k4 : fBin dIx (fVar 0) (fC (.int 4)) (TE' cs i a b s o1 o2 o3) = .ok (.int s) (TE' cs i a b s o1 o2 o3) := fBin_ok (fVar_ok rfl) fC_ok atI4
theorem set1 {fe : Env → Res D} {v : Int} (e : fe (TE' cs i a b s o1 o2 o3) = .ok (.int v) (TE' cs i a b s o1 o2 o3)) : sSet 0 pR (qC 1) fe (TE' cs i a b s o1 o2 o3) = .next (TE' cs v a b s o1 o2 o3) := (set_ok (xs := [.lst (cs.map .int), .int i, .int a, .int b, .int s]) (j := 1) e rfl (show ixN 5 1 = some 1 by decide)).trans rfl
theorem set2 {fe : Env → Res D} {v : Int} (e : fe (TE' cs i a b s o1 o2 o3) = .ok (.int v) (TE' cs i a b s o1 o2 o3)) : sSet 0 pR (qC 2) fe (TE' cs i a b s o1 o2 o3) = .next (TE' cs i v b s o1 o2 o3) := (set_ok (xs := [.lst (cs.map .int), .int i, .int a, .int b, .int s]) (j := 2) e rfl (show ixN 5 2 = some 2 by decide)).trans rfl
theorem set3 {fe : Env → Res D} {v : Int} (e : fe (TE' cs i a b s o1 o2 o3) = .ok (.int v) (TE' cs i a b s o1 o2 o3)) : sSet 0 pR (qC 3) fe (TE' cs i a b s o1 o2 o3) = .next (TE' cs i a v s o1 o2 o3) := (set_ok (xs := [.lst (cs.map .int), .int i, .int a, .int b, .int s]) (j := 3) e rfl (show ixN 5 3 = some 3 by decide)).trans rfl
theorem set4 {fe : Env → Res D} {v : Int} (e : fe (TE' cs i a b s o1 o2 o3) = .ok (.int v) (TE' cs i a b s o1 o2 o3)) : sSet 0 pR (qC 4) fe (TE' cs i a b s o1 o2 o3) = .next (TE' cs i a b v o1 o2 o3) := (set_ok (xs := [.lst (cs.map .int), .int i, .int a, .int b, .int s]) (j := 4) e rfl (show ixN 5 4 = some 4 by decide)).trans rfl
theorem int_ok {f : Env → Res D} {r : Env} {v : Int} (e : f r = .ok (.int v) r) : fCall dInt (fCons f fNil) r = .ok (.int v) r := fCall_ok (fOne_ok e) rfl
end
def blkA : Env → SRes := (sIf (fAnd (fBl (fBin dEq (fBin dIx (fVar 0) (fC (.int 2))) (fC (.int 0)))) (fBl (fBin dLt (fBin dIx (fVar 0) (fC (.int 1))) (fCall dLen (fCons (fBin dIx (fVar 0) (fC (.int 0))) fNil))))) (sSeq (sSet 0 pR (qC 1) (fBin dAdd (fBin dIx (fVar 0) (fC (.int 1))) (fC (.int 1))))
    (sSeq (sSet 0 pR (qC 2) (fPure (fBin dIx (fBin dIx (fVar 0) (fC (.int 0))) (fBin dSub (fBin dIx (fVar 0) (fC (.int 1))) (fC (.int 1))))))
    (sSeq (sIf (fBl (fBin dLt (fBin dIx (fVar 0) (fC (.int 2))) (fBin dPow (fC (.int 10)) (fC (.int 18))))) (sSeq (sSet 0 pR (qC 4) (fBin dMod (fCall dInt (fCons (fBin dAdd (fBin dAdd (fBin dMul (fBin dIx (fVar 0) (fC (.int 4))) (fC (.int 69621))) (fBin dIx (fVar 0) (fC (.int 2)))) (fC (.int 1))) fNil)) (fC (.int 2147483647))))
    (sSeq (sSet 0 pR (qC 2) (fC (.int 0)))
    sNil)) sNil)
    sNil))) sNil)
theorem blkA_ok {cs : List Int} {i a b s : Int} {o1 o2 o3 : Option D} (I : DkInv cs i a b s) : ∃ i' a' s', blkA (TE' cs i a b s o1 o2 o3) = .next (TE' cs i' a' b s' o1 o2 o3) ∧ DkInv cs i' a' b s' := by
  have t1 : fBl (fBin dEq (fBin dIx (fVar 0) (fC (.int 2))) (fC (.int 0))) (TE' cs i a b s o1 o2 o3) = .ok (decide (a = 0)) (TE' cs i a b s o1 o2 o3) := fBl_ok (fBin_ok k2 fC_ok (eqI _ _))
  have dl : dLen [.lst (cs.map D.int)] = some (.int (cs.length : Nat)) := by simp [dLen]
  have t2 : fBl (fBin dLt (fBin dIx (fVar 0) (fC (.int 1))) (fCall dLen (fCons (fBin dIx (fVar 0) (fC (.int 0))) fNil))) (TE' cs i a b s o1 o2 o3) = .ok (decide (i < (cs.length : Int))) (TE' cs i a b s o1 o2 o3) := fBl_ok (fBin_ok k1 (fCall_ok (fOne_ok (fBin_ok (fVar_ok rfl) fC_ok atI0)) dl) rfl)
  by_cases c1 : a = 0
  · rw [decide_eq_true c1] at t1
    by_cases c2 : i < (cs.length : Int)
    · rw [decide_eq_true c2] at t2
      have hi := I.i0
      have hk : i.toNat < cs.length := by omega
      have cm : cs[i.toNat] ∈ cs := List.getElem_mem hk
      have ix : dIx (.lst (cs.map D.int)) (.int (i + 1 - 1)) = some (.int cs[i.toNat]) := by
        have e : i + 1 - 1 = ((i.toNat : Nat) : Int) := by omega
        rw [e]
        exact atI_nat (j := i.toNat) (by rw [List.getElem?_map, List.getElem?_eq_getElem hk]; rfl)
      have s1 := set1 (o1 := o1) (o2 := o2) (o3 := o3) (a := a) (b := b) (s := s) (fBin_ok (g := dAdd) (k1 (cs := cs) (i := i)) (fC_ok (d := .int 1)) rfl)
      have g2 : fPure (fBin dIx (fBin dIx (fVar 0) (fC (.int 0))) (fBin dSub (fBin dIx (fVar 0) (fC (.int 1))) (fC (.int 1)))) (TE' cs (i + 1) a b s o1 o2 o3) = .ok (.int cs[i.toNat]) (TE' cs (i + 1) a b s o1 o2 o3) := fPure_ok (fBin_ok (fBin_ok (fVar_ok rfl) fC_ok atI0) (fBin_ok k1 fC_ok rfl) ix) rfl
      have s2 := set2 g2
      have pw : dPow (.int 10) (.int 18) = some (.int 1000000000000000000) := by simp [dPow, iBin]
      have t3 : fBl (fBin dLt (fBin dIx (fVar 0) (fC (.int 2))) (fBin dPow (fC (.int 10)) (fC (.int 18)))) (TE' cs (i + 1) cs[i.toNat] b s o1 o2 o3) = .ok (decide (cs[i.toNat] < (1000000000000000000 : Int))) (TE' cs (i + 1) cs[i.toNat] b s o1 o2 o3) := fBl_ok (fBin_ok k2 (fBin_ok fC_ok fC_ok pw) rfl)
      by_cases c3 : cs[i.toNat] < (1000000000000000000 : Int)
      · rw [decide_eq_true c3] at t3
        have g4 : fBin dMod (fCall dInt (fCons (fBin dAdd (fBin dAdd (fBin dMul (fBin dIx (fVar 0) (fC (.int 4))) (fC (.int 69621))) (fBin dIx (fVar 0) (fC (.int 2)))) (fC (.int 1))) fNil)) (fC (.int 2147483647)) (TE' cs (i + 1) cs[i.toNat] b s o1 o2 o3) = .ok (.int ((s * 69621 + cs[i.toNat] + 1) % 2147483647)) (TE' cs (i + 1) cs[i.toNat] b s o1 o2 o3) :=
          fBin_ok (int_ok (fBin_ok (fBin_ok (fBin_ok k4 fC_ok (mul_r (by decide))) k2 rfl) fC_ok rfl)) fC_ok (mod_ok (by decide))
        have s4 := set4 g4
        have s5 := set2 (fe := fC (.int 0)) (cs := cs) (i := i + 1) (a := cs[i.toNat]) (b := b) (s := (s * 69621 + cs[i.toNat] + 1) % 2147483647) (o1 := o1) (o2 := o2) (o3 := o3) fC_ok
        refine ⟨i + 1, 0, (s * 69621 + cs[i.toNat] + 1) % 2147483647, ?_, ⟨I.nn, by omega, by omega, Int.le_refl _, Int.emod_nonneg _ (by decide), Int.emod_lt_of_pos _ (by decide)⟩⟩
        exact if_t (fAnd_t t1 t2) (seq_next s1 (seq_next s2 (seq_next (if_t t3 (seq_next s4 (seq_next s5 rfl))) rfl)))
      · rw [decide_eq_false c3] at t3
        refine ⟨i + 1, cs[i.toNat], s, ?_, ⟨I.nn, by omega, by omega, I.nn _ cm, I.s0, I.s1⟩⟩
        exact if_t (fAnd_t t1 t2) (seq_next s1 (seq_next s2 (seq_next (if_f t3 rfl) rfl)))
    · rw [decide_eq_false c2] at t2
      exact ⟨i, a, s, if_f (fAnd_t t1 t2) rfl, I⟩
  · rw [decide_eq_false c1] at t1
    exact ⟨i, a, s, if_f (fAnd_f t1) rfl, I⟩
theorem e_take {d : D} {m : Int} (h : DkOk d) (h0 : 0 < m) (h1 : m ≤ 1000) : ∃ v d', F__law_take [d, .int m] = .ok (.int v) [d'] ∧ 0 ≤ v ∧ v < m ∧ DkOk d' := by
  obtain ⟨cs, i, a, b, s, rfl, I⟩ := h
  have s3 := set3 (cs := cs) (i := i) (a := a) (b := b) (s := s) (o1 := some (.int m)) (o2 := none) (o3 := none) (fBin_ok (g := dAdd) k3 (fC_ok (d := .int 1)) rfl)
  obtain ⟨i', a', s', eb, I'⟩ := blkA_ok (b := b + 1) (o1 := some (.int m)) (o2 := none) (o3 := none) ⟨I.nn, I.i0, I.i1, I.a, I.s0, I.s1⟩
  have t3 : fBl (fBin dGt (fBin dIx (fVar 0) (fC (.int 2))) (fC (.int 0))) (TE' cs i' a' (b + 1) s' (some (.int m)) none none) = .ok (decide ((0 : Int) < a')) (TE' cs i' a' (b + 1) s' (some (.int m)) none none) := fBl_ok (fBin_ok k2 fC_ok rfl)
  by_cases c : 0 < a'
  · rw [decide_eq_true c] at t3
    refine ⟨a' % m, Dk cs i' (a' / m) (b + 1) s', ?_, Int.emod_nonneg _ (by omega), Int.emod_lt_of_pos _ h0, ⟨_, _, _, _, _, rfl, ⟨I'.nn, I'.i0, I'.i1, Int.ediv_nonneg I'.a (by omega), I'.s0, I'.s1⟩⟩⟩
    have g1 : fBin dMod (fCall dInt (fCons (fBin dIx (fVar 0) (fC (.int 2))) fNil)) (fVar 1) (TE' cs i' a' (b + 1) s' (some (.int m)) none none) = .ok (.int (a' % m)) (TE' cs i' a' (b + 1) s' (some (.int m)) none none) := fBin_ok (int_ok k2) (fVar_ok rfl) (mod_ok h0)
    have g2 : fBin dDiv (fBin dIx (fVar 0) (fC (.int 2))) (fVar 1) (TE' cs i' a' (b + 1) s' (some (.int m)) (some (.int (a' % m))) none) = .ok (.int (a' / m)) (TE' cs i' a' (b + 1) s' (some (.int m)) (some (.int (a' % m))) none) := fBin_ok k2 (fVar_ok rfl) (div_ok h0 (by omega))
    have s2 := set2 g2
    show endF [0] (fb__law_take (TE' cs i a b s (some (.int m)) none none)) = _
    unfold fb__law_take
    refine endF_ret (r := TE' cs i' (a' / m) (b + 1) s' (some (.int m)) (some (.int (a' % m))) none) (seq_next s3 (seq_next eb (seq_ret (if_t t3 ?_)))) rfl
    exact seq_next (sAsg_ok g1 rfl) (seq_next s2 (seq_ret (sRet_ok (fVar_ok rfl))))
  · rw [decide_eq_false c] at t3
    let x1 := ((s' + 7919 * (b + 1) + 1) * 48271) % 2147483647
    let x2 := (x1 * (x1 / 1009 + 69621)) % 2147483647
    let x3 := (x2 * (x2 / 2003 + 40692)) % 2147483399
    have n1 : 0 ≤ x1 := Int.emod_nonneg _ (by decide)
    have n2 : 0 ≤ x2 := Int.emod_nonneg _ (by decide)
    have m1 : x1 < 2147483647 := Int.emod_lt_of_pos _ (by decide)
    have m2 : x2 < 2147483647 := Int.emod_lt_of_pos _ (by decide)
    refine ⟨(x3 / 32) % m, Dk cs i' a' (b + 1) s', ?_, Int.emod_nonneg _ (by omega), Int.emod_lt_of_pos _ h0, ⟨_, _, _, _, _, rfl, I'⟩⟩
    have g1 : fBin dMod (fCall dInt (fCons (fBin dMul (fBin dAdd (fBin dAdd (fBin dIx (fVar 0) (fC (.int 4))) (fBin dMul (fC (.int 7919)) (fBin dIx (fVar 0) (fC (.int 3))))) (fC (.int 1))) (fC (.int 48271))) fNil)) (fC (.int 2147483647)) (TE' cs i' a' (b + 1) s' (some (.int m)) none none) = .ok (.int x1) (TE' cs i' a' (b + 1) s' (some (.int m)) none none) :=
      fBin_ok (int_ok (fBin_ok (fBin_ok (fBin_ok k4 (fBin_ok fC_ok k3 (mul_l (by decide))) rfl) fC_ok rfl) fC_ok (mul_r (by decide)))) fC_ok (mod_ok (by decide))
    have g2 : fBin dMod (fCall dInt (fCons (fBin dMul (fVar 3) (fBin dAdd (fBin dDiv (fVar 3) (fC (.int 1009))) (fC (.int 69621)))) fNil)) (fC (.int 2147483647)) (TE' cs i' a' (b + 1) s' (some (.int m)) none (some (.int x1))) = .ok (.int x2) (TE' cs i' a' (b + 1) s' (some (.int m)) none (some (.int x1))) :=
      fBin_ok (int_ok (fBin_ok (fVar_ok rfl) (fBin_ok (fBin_ok (fVar_ok rfl) fC_ok (div_ok (by decide) (by decide))) fC_ok rfl) (mul_l (sm_of n1 m1)))) fC_ok (mod_ok (by decide))
    have g3 : fBin dMod (fCall dInt (fCons (fBin dMul (fVar 3) (fBin dAdd (fBin dDiv (fVar 3) (fC (.int 2003))) (fC (.int 40692)))) fNil)) (fC (.int 2147483399)) (TE' cs i' a' (b + 1) s' (some (.int m)) none (some (.int x2))) = .ok (.int x3) (TE' cs i' a' (b + 1) s' (some (.int m)) none (some (.int x2))) :=
      fBin_ok (int_ok (fBin_ok (fVar_ok rfl) (fBin_ok (fBin_ok (fVar_ok rfl) fC_ok (div_ok (by decide) (by decide))) fC_ok rfl) (mul_l (sm_of n2 m2)))) fC_ok (mod_ok (by decide))
    have g4 : fBin dMod (fCall dInt (fCons (fBin dDiv (fVar 3) (fC (.int 32))) fNil)) (fVar 1) (TE' cs i' a' (b + 1) s' (some (.int m)) none (some (.int x3))) = .ok (.int ((x3 / 32) % m)) (TE' cs i' a' (b + 1) s' (some (.int m)) none (some (.int x3))) :=
      fBin_ok (int_ok (fBin_ok (fVar_ok rfl) fC_ok (div_ok (by decide) (by decide)))) (fVar_ok rfl) (mod_ok h0)
    show endF [0] (fb__law_take (TE' cs i a b s (some (.int m)) none none)) = _
    unfold fb__law_take
    refine endF_ret (r := TE' cs i' a' (b + 1) s' (some (.int m)) none (some (.int x3))) (seq_next s3 (seq_next eb (seq_next (if_f t3 rfl) ?_))) rfl
    exact seq_next (sAsg_ok g1 rfl) (seq_next (sAsg_ok g2 rfl) (seq_next (sAsg_ok g3 rfl) (seq_ret (sRet_ok g4))))

/-! ### what uses the deck -/
theorem userM_ok {i n : Nat} {M : List D → FRes} {fs : Env → Res (List D)} {r r1 : Env} {dz d0 v d1 : D} {ds : List D} (hr : r[i]? = some (some dz)) (e : fs r = .ok ds r1) (h : r1[i]? = some (some d0)) (hp : pureL ds = true) (hn : ds.length + 1 = n) (hM : M (d0 :: ds) = .ok v [d1]) : fUserM i n M fs r = .ok v (r1.set i (some d1)) := by
  unfold fUserM
  simp only [hr, e, Res.bind_ok, h, hp, Bool.true_and]
  have hn' : (ds.length + 1 == n) = true := by rw [hn]; simp
  simp only [hn', if_true, hM]
abbrev Q__law_amount := F__law_amount F__law_take
theorem e_amount {d : D} (h : DkOk d) : ∃ v d', Q__law_amount [d] = .ok (.int v) [d'] ∧ 1 ≤ v ∧ v ≤ 1000000000000000000000000000000 ∧ DkOk d' := by
  obtain ⟨v0, d0, q0, a0, b0, h0⟩ := e_take h (m := 12) (by decide) (by decide)
  have g0 : fUserM 0 2 F__law_take (fCons (fC (.int 12)) fNil) [some d, none] = .ok (.int v0) [some d0, none] := userM_ok rfl rfl rfl rfl rfl q0
  have t1 : fBl (fBin dEq (fVar 1) (fC (.int 0))) [some d0, some (.int v0)] = .ok (decide (v0 = 0)) [some d0, some (.int v0)] := fBl_ok (fBin_ok (fVar_ok rfl) fC_ok (eqI _ _))
  have t2 : fBl (fBin dEq (fVar 1) (fC (.int 1))) [some d0, some (.int v0)] = .ok (decide (v0 = 1)) [some d0, some (.int v0)] := fBl_ok (fBin_ok (fVar_ok rfl) fC_ok (eqI _ _))
  have pw : dPow (.int 10) (.int 30) = some (.int 1000000000000000000000000000000) := by simp [dPow, iBin]
  have use : ∀ {m : Int}, 0 < m → m ≤ 1000 → ∃ v d', fUserM 0 2 F__law_take (fCons (fC (.int m)) fNil) [some d0, some (.int v0)] = .ok (.int v) [some d', some (.int v0)] ∧ 0 ≤ v ∧ v < m ∧ DkOk d' := fun {m} hm hm2 => by
    obtain ⟨v, d', q, a, b, h'⟩ := e_take h0 hm hm2
    exact ⟨v, d', userM_ok rfl rfl rfl rfl rfl q, a, b, h'⟩
  have en : ∀ {x : SRes} {v : D} {d' : D}, x = .ret v [some d', some (.int v0)] → endF [0] x = .ok v [d'] := fun {x v d'} e => endF_ret e rfl
  by_cases c1 : v0 = 0
  · rw [decide_eq_true c1] at t1
    obtain ⟨v, d', g, a, b, h'⟩ := use (m := 1000) (by decide) (by decide)
    refine ⟨1000000000000000000000000000000 - v, d', ?_, by omega, by omega, h'⟩
    show endF [0] (fb__law_amount F__law_take [some d, none]) = _
    unfold fb__law_amount
    exact en (seq_next (sAsg_ok g0 rfl) (seq_ret (if_t t1 (seq_ret (sRet_ok (fBin_ok (fBin_ok fC_ok fC_ok pw) g rfl))))))
  · rw [decide_eq_false c1] at t1
    by_cases c2 : v0 = 1
    · rw [decide_eq_true c2] at t2
      obtain ⟨v, d', g, a, b, h'⟩ := use (m := 200) (by decide) (by decide)
      refine ⟨1 + v, d', ?_, by omega, by omega, h'⟩
      show endF [0] (fb__law_amount F__law_take [some d, none]) = _
      unfold fb__law_amount
      exact en (seq_next (sAsg_ok g0 rfl) (seq_next (if_f t1 rfl) (seq_ret (if_t t2 (seq_ret (sRet_ok (fBin_ok fC_ok g rfl)))))))
    · rw [decide_eq_false c2] at t2
      obtain ⟨v, d', g, a, b, h'⟩ := use (m := 4) (by decide) (by decide)
      refine ⟨1 + v, d', ?_, by omega, by omega, h'⟩
      show endF [0] (fb__law_amount F__law_take [some d, none]) = _
      unfold fb__law_amount
      exact en (seq_next (sAsg_ok g0 rfl) (seq_next (if_f t1 rfl) (seq_next (if_f t2 rfl) (seq_ret (sRet_ok (fBin_ok fC_ok g rfl))))))
end DL

set_option Elab.async false
set_option linter.all false
set_option maxRecDepth 100000
set_option maxHeartbeats 1000000
namespace DL
open PySem PySem.Spec L2

theorem gRange1_nat {n : Nat} (h : n ≤ 100000) : gRange1 [.int (n : Nat)] = some (rngD 0 n) := by
  have : rngOk ((n : Nat) : Int) = true := by
    unfold rngOk
    rw [Bool.and_eq_true, decide_eq_true_eq, decide_eq_true_eq]
    omega
  simp only [gRange1, this, if_true, Int.toNat_natCast]
theorem gRange1_int {v : Int} (h0 : 0 ≤ v) (h : v ≤ 100000) : gRange1 [.int v] = some (rngD 0 v.toNat) := by
  obtain ⟨n, rfl⟩ := Int.eq_ofNat_of_zero_le h0
  exact gRange1_nat (by omega)
theorem inD_ints (x : Int) : ∀ ns : List Int, inD (.int x) (ns.map D.int) = decide (x ∈ ns)
  | [] => by simp [inD]
  | n :: ns => by
    have q := inD_ints x ns
    unfold inD at q ⊢
    rw [List.map_cons, List.any_cons, q]
    show ((n == x) || decide (x ∈ ns)) = decide (x ∈ n :: ns)
    by_cases c : n = x
    · subst c; simp
    · have : (n == x) = false := by simpa using c
      rw [this, Bool.false_or]
      refine decide_eq_decide.mpr ⟨fun h => List.mem_cons_of_mem _ h, fun h => ?_⟩
      rcases List.mem_cons.mp h with h | h
      · exact absurd h.symm c
      · exact h
theorem flat_ints : ∀ ns : List Int, (ns.map D.int).all flatD = true
  | [] => rfl
  | n :: ns => by rw [List.map_cons, List.all_cons, flat_ints ns]; rfl
theorem notin_ints (x : Int) (ns : List Int) : dNotIn (.int x) (.lst (ns.map D.int)) = some (.bl (!decide (x ∈ ns))) := by
  have : inB (.int x) (.lst (ns.map D.int)) = some (inD (.int x) (ns.map D.int)) := by
    show (if (flatD (.int x) && (ns.map D.int).all flatD) = true then some (inD (.int x) (ns.map D.int)) else pIn (.int x) (ns.map D.int)) = _
    rw [flat_ints]; rfl
  unfold dNotIn
  rw [this, inD_ints]; rfl
theorem intsOf_map : ∀ ns : List Int, intsOf (ns.map D.int) = some ns
  | [] => rfl
  | n :: ns => by
    rw [List.map_cons]
    show (intsOf (ns.map D.int)).map (n :: ·) = _
    rw [intsOf_map ns]; rfl
theorem ints_pure (ns : List Int) : pureL (ns.map D.int) = true := pure_map (fun _ => rfl) ns
theorem cut_take {ns : List Int} {k : Nat} (h : k ≤ ns.length) : gSl (.lst (ns.map D.int)) none (some (k : Int)) = some (.lst ((ns.take k).map D.int)) := by
  have e : cutD (ns.map D.int) none (some (k : Int)) = (ns.take k).map D.int := by
    unfold cutD
    rw [HT.sIx_none, HT.sIx_nat, List.length_map, Nat.min_eq_left h, List.drop_zero, Nat.sub_zero, List.map_take]
  show (if pureL (cutD (ns.map D.int) none (some (k : Int))) = true then some (D.lst (cutD (ns.map D.int) none (some (k : Int)))) else none) = _
  rw [e, ints_pure]; rfl

/-! ### a move drawn -/
abbrev ME (d : D) (xs : List Int) (o2 o3 o4 o5 : Option D) : Env := [some d, some (.lst (xs.map D.int)), o2, o3, o4, o5]
abbrev MB := lb__law_built_move_1 F__law_take Q__law_amount
theorem mb_step {d : D} {xs : List Int} {o2 o3 o4 o5 : Option D} (h : DkOk d) (hl : xs.length ≤ 1000) : ∃ (v : Int) (d' : D), MB (ME d xs o2 o3 o4 o5) = .next (ME d' (xs ++ [v]) o2 o3 o4 o5) ∧ 0 ≤ v ∧ v ≤ 40 ∧ DkOk d' := by
  obtain ⟨v, d', q, a, b, h'⟩ := e_take h (m := 41) (by decide) (by decide)
  refine ⟨v, d', ?_, a, by omega, h'⟩
  have u : fUserM 0 2 F__law_take (fCons (fC (.int 41)) fNil) (ME d xs o2 o3 o4 o5) = .ok (.int v) (ME d' xs o2 o3 o4 o5) := userM_ok rfl rfl rfl rfl rfl q
  have ap := app_root (i := 1) (r := ME d xs o2 o3 o4 o5) (xs := xs.map D.int) rfl (hold_ok (i := 1) u rfl (by simp)) (by simp; omega)
  unfold MB lb__law_built_move_1
  refine (seq_next (sExpr_ok ap) rfl : sSeq _ _ _ = .next ((ME d' xs o2 o3 o4 o5).set 1 (some (.lst (xs.map D.int ++ [.int v]))))).trans ?_
  rw [show xs.map D.int ++ [D.int v] = (xs ++ [v]).map D.int by simp]
  rfl
theorem mb_go : ∀ {ds : List D} {d : D} {xs : List Int} {o2 o3 o4 o5 : Option D}, DkOk d → xs.length + ds.length ≤ 1000 → (∀ x ∈ xs, 0 ≤ x ∧ x ≤ 40) →
    ∃ (ys : List Int) (d' : D) (o' : Option D), forGo (gN 2) MB ds (ME d xs o2 o3 o4 o5) = .next (ME d' ys o' o3 o4 o5) ∧ ys.length = xs.length + ds.length ∧ (∀ x ∈ ys, 0 ≤ x ∧ x ≤ 40) ∧ DkOk d'
  | [], d, xs, o2, o3, o4, o5, h, _, hx => ⟨xs, d, o2, rfl, rfl, hx, h⟩
  | e :: ds, d, xs, o2, o3, o4, o5, h, hl, hx => by
    rw [List.length_cons] at hl
    obtain ⟨v, d1, q1, a, b, h1⟩ := mb_step (d := d) (xs := xs) (o2 := some e) (o3 := o3) (o4 := o4) (o5 := o5) h (by omega)
    obtain ⟨ys, d', o', q, ly, hy, h'⟩ := mb_go (ds := ds) (d := d1) (xs := xs ++ [v]) (o2 := some e) (o3 := o3) (o4 := o4) (o5 := o5) h1 (by simp; omega) (fun x m => by
      rcases List.mem_append.mp m with m | m
      · exact hx x m
      · rw [List.mem_singleton.mp m]; exact ⟨a, b⟩)
    refine ⟨ys, d', o', ?_, by rw [ly]; simp; omega, hy, h'⟩
    rw [go_step (r1 := ME d xs (some e) o3 o4 o5) rfl q1, q]
abbrev WT' := lt__law_built_move_1 F__law_take Q__law_amount
abbrev WE' := le__law_built_move_1 F__law_take Q__law_amount
theorem wants_go {d : D} {fs : List Int} {o2 o3 o5 : Option D} (hfs : fs.length ≤ 1000) : ∀ {n k : Nat} {acc : List Int}, k + n = fs.length → acc.Nodup → (∀ x ∈ acc, x ∈ fs.take k) → acc.length ≤ k →
    ∃ acc' : List Int, lcGo (gN 4) WT' WE' [4] (rngD (k : Nat) n) (ME d fs o2 o3 none o5) (acc.map D.int) = .ok (.lst (acc'.map D.int)) (ME d fs o2 o3 none o5) ∧ acc'.Nodup ∧ (∀ x ∈ acc', x ∈ fs) ∧ acc'.length ≤ fs.length
  | 0, k, acc, e, nd, hx, hl => ⟨acc, by simp [rngD, lcGo], nd, fun x m => List.mem_of_mem_take (hx x m), by omega⟩
  | n + 1, k, acc, e, nd, hx, hl => by
    have hk : k < fs.length := by omega
    have ix : dIx (.lst (fs.map D.int)) (.int k) = some (.int fs[k]) := atI_nat (j := k) (by rw [List.getElem?_map, List.getElem?_eq_getElem hk]; rfl)
    have r4 : gN 4 (.int k) (wipeE (ME d fs o2 o3 none o5) [4]) = some (ME d fs o2 o3 (some (.int k)) o5) := rfl
    have tt : WT' (ME d fs o2 o3 (some (.int k)) o5) = .ok (!decide (fs[k] ∈ fs.take k)) (ME d fs o2 o3 (some (.int k)) o5) :=
      fBl_ok (fBin_ok (fBin_ok (fVar_ok rfl) (fVar_ok rfl) ix) (fSl_ok (fVar_ok rfl) rfl (fSomeP_ok (fVar_ok rfl)) (cut_take (by omega))) (notin_ints _ _))
    have ee : WE' (ME d fs o2 o3 (some (.int k)) o5) = .ok (.int fs[k]) (ME d fs o2 o3 (some (.int k)) o5) := fBin_ok (fVar_ok rfl) (fVar_ok rfl) ix
    have un : unw (ME d fs o2 o3 none o5) (ME d fs o2 o3 (some (.int k)) o5) [4] = ME d fs o2 o3 none o5 := rfl
    have ek : ((k : Nat) : Int) + 1 = ((k + 1 : Nat) : Int) := by omega
    rw [rngD_succ, lcGo_cons, r4]
    by_cases c : fs[k] ∈ fs.take k
    · rw [decide_eq_true c] at tt
      obtain ⟨acc', q, p1, p2, p3⟩ := wants_go (d := d) (o2 := o2) (o3 := o3) (o5 := o5) hfs (n := n) (k := k + 1) (acc := acc) (by omega) nd (fun x m => by
        rw [List.take_succ]
        exact List.mem_append_left _ (hx x m)) (by omega)
      refine ⟨acc', ?_, p1, p2, p3⟩
      simp only [tt, Bool.not_true, un, ek]
      exact q
    · rw [decide_eq_false c] at tt
      obtain ⟨acc', q, p1, p2, p3⟩ := wants_go (d := d) (o2 := o2) (o3 := o3) (o5 := o5) hfs (n := n) (k := k + 1) (acc := acc ++ [fs[k]]) (by omega) (by
        refine List.nodup_append.mpr ⟨nd, by simp, fun x m y my z => ?_⟩
        rw [List.mem_singleton.mp my] at z
        exact c (z ▸ hx x m)) (fun x m => by
        rw [List.take_succ, List.getElem?_eq_getElem hk]
        rcases List.mem_append.mp m with m | m
        · exact List.mem_append_left _ (hx x m)
        · exact List.mem_append_right _ m) (by simp; omega)
      refine ⟨acc', ?_, p1, p2, p3⟩
      have la : decide ((acc.map D.int).length < 16777216) = true := decide_eq_true (by simp; omega)
      simp only [tt, Bool.not_false, ee, D.pure, la, Bool.and_self, if_true, un, ek]
      rw [show acc.map D.int ++ [D.int fs[k]] = (acc ++ [fs[k]]).map D.int by simp]
      exact q
abbrev AE2 := le__law_built_move_2 F__law_take Q__law_amount
theorem amounts_go {o1 o2 o3 o4 : Option D} : ∀ {ns : List Int} {d : D} {acc : List D}, DkOk d → acc.length + ns.length ≤ 1000 →
    ∃ (l : List (Int × Int)) (d' : D), lcGo (gN 5) tTrue AE2 [5] (ns.map D.int) [some d, o1, o2, o3, o4, none] acc = .ok (.lst (acc ++ l.map encP)) [some d', o1, o2, o3, o4, none] ∧ l.map Prod.fst = ns ∧ (∀ p ∈ l, 1 ≤ p.2 ∧ p.2 ≤ 1000000000000000000000000000000) ∧ DkOk d'
  | [], d, acc, h, _ => ⟨[], d, by simp [lcGo], rfl, fun _ m => (nomatch m), h⟩
  | n :: ns, d, acc, h, hl => by
    rw [List.length_cons] at hl
    obtain ⟨v, d1, q1, a, b, h1⟩ := e_amount h
    have r5 : gN 5 (.int n) (wipeE [some d, o1, o2, o3, o4, none] [5]) = some [some d, o1, o2, o3, o4, some (.int n)] := rfl
    have u : fUserM 0 1 Q__law_amount fNil [some d, o1, o2, o3, o4, some (.int n)] = .ok (.int v) [some d1, o1, o2, o3, o4, some (.int n)] := userM_ok rfl rfl rfl rfl rfl q1
    have ee : AE2 [some d, o1, o2, o3, o4, some (.int n)] = .ok (encP (n, v)) [some d1, o1, o2, o3, o4, some (.int n)] := fTup_ok (fCons_ok (fPure_ok (fVar_ok rfl) rfl) (fOne_ok u)) (by simp)
    have un : unw [some d, o1, o2, o3, o4, none] [some d1, o1, o2, o3, o4, some (.int n)] [5] = [some d1, o1, o2, o3, o4, none] := rfl
    obtain ⟨l, d', q, p1, p2, p3⟩ := amounts_go (o1 := o1) (o2 := o2) (o3 := o3) (o4 := o4) (ns := ns) (d := d1) (acc := acc ++ [encP (n, v)]) h1 (by simp; omega)
    refine ⟨(n, v) :: l, d', ?_, by rw [List.map_cons, p1], fun p m => ?_, p3⟩
    · rw [List.map_cons, lcGo_cons, r5]
      have la : decide (acc.length < 16777216) = true := decide_eq_true (by omega)
      simp only [tTrue, ee, encP_pure, la, Bool.and_self, if_true, un]
      rw [q]
      simp
    · rcases List.mem_cons.mp m with rfl | m
      · exact ⟨a, b⟩
      · exact p2 p m
theorem ld_of : ∀ {l : List (Int × Int)} {a : Int}, (l.map Prod.fst).Pairwise (· < ·) → (∀ p ∈ l, a < p.1 ∧ p.1 ≤ 40 ∧ 1 ≤ p.2 ∧ p.2 ≤ 1000000000000000000000000000000) → LdOk a l
  | [], _, _, _ => trivial
  | p :: l, a, hp, h => by
    obtain ⟨h1, h2, h3, h4⟩ := h p List.mem_cons_self
    rw [List.map_cons, List.pairwise_cons] at hp
    exact ⟨h1, h2, h3, h4, ld_of hp.2 fun q m => ⟨hp.1 q.1 (List.mem_map_of_mem m), (h q (List.mem_cons_of_mem _ m)).2⟩⟩
abbrev Q__law_built_move := F__law_built_move F__law_take Q__law_amount
theorem e_built_move {d : D} (h : DkOk d) : ∃ (w : Int) (l : List (Int × Int)) (d' : D), Q__law_built_move [d] = .ok (encM w l) [d'] ∧ (w = 1 ∨ w = -1) ∧ LdOk (-1) l ∧ l.length ≤ 3 ∧ DkOk d' := by
  obtain ⟨v0, d0, q0, a0, b0, h0⟩ := e_take h (m := 4) (by decide) (by decide)
  have u0 : fUserM 0 2 F__law_take (fCons (fC (.int 4)) fNil) (ME d [] none none none none) = .ok (.int v0) (ME d0 [] none none none none) := userM_ok rfl rfl rfl rfl rfl q0
  obtain ⟨fs, d1, o1, q1, lf, hf, h1⟩ := mb_go (ds := rngD 0 v0.toNat) (d := d0) (xs := []) (o2 := none) (o3 := none) (o4 := none) (o5 := none) h0 (by rw [rngD_len]; simp; omega) (fun _ m => nomatch m)
  rw [rngD_len, List.length_nil, Nat.zero_add] at lf
  have lf3 : fs.length ≤ 3 := by omega
  obtain ⟨ns, q2, nd, hn, ln⟩ := wants_go (d := d1) (fs := fs) (o2 := o1) (o3 := none) (o5 := none) (by omega) (n := fs.length) (k := 0) (acc := []) (by omega) List.nodup_nil (fun _ m => nomatch m) (Nat.le_refl _)
  obtain ⟨v3, d3, q3, a3, b3, h3⟩ := e_take h1 (m := 2) (by decide) (by decide)
  have u3 : fUserM 0 2 F__law_take (fCons (fC (.int 2)) fNil) [some d1, some (.lst (fs.map D.int)), o1, some (.lst (ns.map D.int)), none, none] = .ok (.int v3) [some d3, some (.lst (fs.map D.int)), o1, some (.lst (ns.map D.int)), none, none] := userM_ok rfl rfl rfl rfl rfl q3
  have sl : (sortI ns).length = ns.length := (sortI_perm ns).length_eq
  obtain ⟨l, d4, q4, p1, p2, h4⟩ := amounts_go (o1 := some (.lst (fs.map D.int))) (o2 := o1) (o3 := some (.lst (ns.map D.int))) (o4 := none) (ns := sortI ns) (d := d3) (acc := []) h3 (by simp; omega)
  rw [List.nil_append] at q4
  have sorted : (sortI ns).Pairwise (· < ·) := by
    have nd' : (sortI ns).Nodup := (sortI_perm ns).nodup_iff.mpr nd
    exact ((sortI_sorted ns).and nd').imp fun {a b} z => by
      have z2 : a ≠ b := z.2
      have z1 := z.1
      omega
  have ll : l.length = ns.length := by rw [← sl, ← p1, List.length_map]
  have ds : dSorted [.lst (ns.map D.int)] = some (.lst ((sortI ns).map D.int)) := by
    have : decide (ns.length < 64) = true := decide_eq_true (by omega)
    simp only [dSorted, intsOf_map, this, if_true]
  obtain ⟨w, hw, ew⟩ : ∃ w, (w = 1 ∨ w = -1) ∧ dIx (.tup [.int 1, .int (-1)]) (.int v3) = some (.int w) := by
    have : v3 = 0 ∨ v3 = 1 := by omega
    rcases this with rfl | rfl
    · exact ⟨1, .inl rfl, atI0⟩
    · exact ⟨-1, .inr rfl, atI1⟩
  refine ⟨w, l, d4, ?_, hw, ld_of (by rw [p1]; exact sorted) (fun p m => ?_), by omega, h4⟩
  · have dt : dTuple [.lst (l.map encP)] = some (.tup (l.map encP)) := by
      have hp : pureL (l.map encP) = true := pure_map encP_pure l
      simp only [dTuple, hp, if_true]
    have dl : dLen [.lst (fs.map D.int)] = some (.int (fs.length : Nat)) := by simp [dLen]
    show endF [0] (fb__law_built_move F__law_take Q__law_amount [some d, none, none, none, none, none]) = _
    unfold fb__law_built_move
    refine endF_ret (r := [some d4, some (.lst (fs.map D.int)), o1, some (.lst (ns.map D.int)), none, none]) ?_ rfl
    refine seq_next (sAsg_ok (fLst_ok fNil_ok (by simp)) rfl) ?_
    refine seq_next (for_ok (fArgL_ok (fOne_ok u0) (gRange1_int a0 (by omega))) q1) ?_
    refine seq_next (sAsg_ok (lc_ok (fArgL_ok (fOne_ok (fCall_ok (fOne_ok (fVar_ok rfl)) dl)) (gRange1_nat (by omega))) rfl q2) rfl) ?_
    exact seq_ret (sRet_ok (fTup_ok (fCons_ok (fBin_ok (x := .tup [.int 1, .int (-1)]) rfl u3 ew) (fOne_ok (fCall_ok (fOne_ok (lc_ok (fSeq_ok (fCall_ok (fOne_ok (fVar_ok rfl)) ds) (show seqD (.lst ((sortI ns).map D.int)) = some _ by rw [seqD_lst, if_pos (ints_pure _)])) rfl q4)) dt))) (by simp)))
  · have m1 : p.1 ∈ sortI ns := by rw [← p1]; exact List.mem_map_of_mem m
    have m2 := hf p.1 (hn p.1 ((sortI_perm ns).mem_iff.mp m1))
    exact ⟨by omega, m2.2, p2 p m⟩
end DL

set_option Elab.async false
set_option linter.all false
set_option maxRecDepth 100000
set_option maxHeartbeats 1000000
namespace DL
open PySem PySem.Spec L2

def Lg.app : Lg → Lg → Lg
  | .nil, b => b
  | .mv w l r, b => .mv w l (r.app b)
  | .rd k i r, b => .rd k i (r.app b)
theorem enc_app : ∀ a b : Lg, enc (a.app b) = enc a ++ enc b
  | .nil, b => rfl
  | .mv w l r, b => by show _ :: enc (r.app b) = _; rw [enc_app r b]; rfl
  | .rd k i r, b => by show _ :: enc (r.app b) = _; rw [enc_app r b]; rfl
theorem ok_app : ∀ {a b : Lg} {e : Nat}, LOk a e → LOk b e → LOk (a.app b) e
  | .nil, b, e, _, hb => hb
  | .mv w l r, b, e, h, hb => ⟨h.1, h.2.1, h.2.2.1, ok_app h.2.2.2 hb⟩
  | .rd k i r, b, e, h, hb => ⟨h.1, h.2.1, h.2.2.1, h.2.2.2.1, ok_app h.2.2.2.2 hb⟩
theorem mvs_app : ∀ a b : Lg, mvs (a.app b) = mvs a + mvs b
  | .nil, b => by simp [Lg.app, mvs]
  | .mv w l r, b => by simp only [Lg.app, mvs, mvs_app r b]; omega
  | .rd k i r, b => by simp only [Lg.app, mvs, mvs_app r b]; omega
theorem wt_app : ∀ a b : Lg, wt (a.app b) = wt a + wt b
  | .nil, b => by simp [Lg.app, wt]
  | .mv w l r, b => by simp only [Lg.app, wt, wt_app r b]
  | .rd k i r, b => by simp only [Lg.app, wt, wt_app r b]; omega
def mB : Nat → Nat
  | 0 => 1
  | e + 1 => 3 * mB e
def wB : Nat → Nat
  | 0 => 0
  | e + 1 => 1 + 3 * wB e
theorem mB_pos : ∀ e, 1 ≤ mB e
  | 0 => Nat.le_refl _
  | e + 1 => by have := mB_pos e; show 1 ≤ 3 * mB e; omega
structure Blt (e most : Nat) (L : Lg) : Prop where
  ok : LOk L e
  m : mvs L ≤ most * mB e
  w : wt L ≤ most * wB e
def Q__law_built_log : Nat → List D → FRes
  | 0 => fun _ => .bad
  | n + 1 => F__law_built_log F__law_take (Q__law_built_log n) Q__law_built_move Q__law_amount
abbrev LE (d : D) (e m : Int) (A : Lg) (o4 o5 : Option D) : Env := [some d, some (.int e), some (.int m), some (.lst (enc A)), o4, o5]
theorem le_snoc {d : D} {e m : Int} {A B : Lg} {o4 o5 : Option D} {x : D} (h : enc B = [x]) : LE d e m (A.app B) o4 o5 = [some d, some (.int e), some (.int m), some (.lst (enc A ++ [x])), o4, o5] := by
  unfold LE
  rw [enc_app, h]
theorem bl_step {M : List D → FRes} {e : Nat} {m : Int} (hM : ∀ e', e = e' + 1 → ∀ d, DkOk d → ∃ (L : Lg) (d' : D), M [d, .int e', .int 3] = .ok (.tup (enc L)) [d'] ∧ Blt e' 3 L ∧ DkOk d')
    {d : D} {A : Lg} {o4 o5 : Option D} (h : DkOk d) (hl : (enc A).length ≤ 1000) (h5 : ∀ x, o5 = some x → True) :
    ∃ (B : Lg) (d' : D) (o5' : Option D), lb__law_built_log_1 F__law_take M Q__law_built_move Q__law_amount (LE d e m A o4 o5) = .next (LE d' e m (A.app B) o4 o5') ∧ Blt e 1 B ∧ (enc B).length = 1 ∧ DkOk d' := by
  have mp := mB_pos e
  -- a move
  have move : ∀ {d0 : D} {t : Env → Res Bool} {s : Env → SRes}, DkOk d0 → t (LE d e m A o4 o5) = .ok false (LE d0 e m A o4 o5) →
      ∃ (B : Lg) (d' : D) (o5' : Option D), sIf t s (sSeq (sExpr (fApp 3 pR (fHold 3 (fUserM 0 1 Q__law_built_move fNil)))) sNil) (LE d e m A o4 o5) = .next (LE d' e m (A.app B) o4 o5') ∧ Blt e 1 B ∧ (enc B).length = 1 ∧ DkOk d' := fun {d0 t s} h0 ht => by
    obtain ⟨w, l, d', q, hw, hld, h3, h'⟩ := e_built_move h0
    have u : fUserM 0 1 Q__law_built_move fNil (LE d0 e m A o4 o5) = .ok (encM w l) (LE d' e m A o4 o5) := userM_ok rfl rfl rfl rfl rfl q
    have ap := app_root (i := 3) (r := LE d0 e m A o4 o5) (xs := enc A) rfl (hold_ok (i := 3) u rfl (by simp)) (by omega)
    refine ⟨.mv w l .nil, d', o5, ?_, ⟨⟨hw, hld, h3, trivial⟩, by simp [mvs]; omega, by simp [wt]⟩, rfl, h'⟩
    rw [le_snoc (x := encM w l) rfl]
    exact if_f ht (seq_next (sExpr_ok ap) rfl)
  unfold lb__law_built_log_1
  have t1 : fBl (fBin dGt (fVar 1) (fC (.int 0))) (LE d e m A o4 o5) = .ok (decide ((0 : Int) < (e : Int))) (LE d e m A o4 o5) := fBl_ok (fBin_ok (fVar_ok rfl) fC_ok rfl)
  cases e with
  | zero =>
    have t0 : fAnd (fBl (fBin dGt (fVar 1) (fC (.int 0)))) (fBl (fBin dEq (fUserM 0 2 F__law_take (fCons (fC (.int 3)) fNil)) (fC (.int 0)))) (LE d (0 : Nat) m A o4 o5) = .ok false (LE d (0 : Nat) m A o4 o5) := fAnd_f t1
    obtain ⟨B, d', o5', q, b, l1, h'⟩ := move h t0
    exact ⟨B, d', o5', seq_next q rfl, b, l1, h'⟩
  | succ e =>
    rw [decide_eq_true (by omega : (0 : Int) < ((e + 1 : Nat) : Int))] at t1
    obtain ⟨v, d1, q1, a1, b1, h1⟩ := e_take h (m := 3) (by decide) (by decide)
    have u1 : fUserM 0 2 F__law_take (fCons (fC (.int 3)) fNil) (LE d (e + 1 : Nat) m A o4 o5) = .ok (.int v) (LE d1 (e + 1 : Nat) m A o4 o5) := userM_ok rfl rfl rfl rfl rfl q1
    have t2 : fBl (fBin dEq (fUserM 0 2 F__law_take (fCons (fC (.int 3)) fNil)) (fC (.int 0))) (LE d (e + 1 : Nat) m A o4 o5) = .ok (decide (v = 0)) (LE d1 (e + 1 : Nat) m A o4 o5) := fBl_ok (fBin_ok u1 fC_ok (eqI _ _))
    by_cases c : v = 0
    · rw [decide_eq_true c] at t2
      obtain ⟨L, d2, q2, bl, h2⟩ := hM e rfl d1 h1
      have sub : dSub (.int ((e + 1 : Nat) : Int)) (.int 1) = some (.int (e : Nat)) := by
        show some (D.int (((e + 1 : Nat) : Int) - 1)) = _
        rw [show ((e + 1 : Nat) : Int) - 1 = ((e : Nat) : Int) by omega]
      have u2 : fUserM 0 3 M (fCons (fBin dSub (fVar 1) (fC (.int 1))) (fCons (fC (.int 3)) fNil)) (LE d1 (e + 1 : Nat) m A o4 o5) = .ok (.tup (enc L)) (LE d2 (e + 1 : Nat) m A o4 o5) := userM_ok rfl (fCons_ok (fBin_ok (fVar_ok rfl) fC_ok sub) (fOne_ok fC_ok)) rfl rfl rfl q2
      -- the inner log, never empty
      have inner : ∃ (L' : Lg) (d3 : D), sIf (fBl (fBin dEq (fCall dLen (fCons (fVar 5) fNil)) (fC (.int 0)))) (sSeq (sAsg (fTup (fCons (fUserM 0 1 Q__law_built_move fNil) fNil)) (gN 5)) sNil) sNil (LE d2 (e + 1 : Nat) m A o4 (some (.tup (enc L)))) = .next (LE d3 (e + 1 : Nat) m A o4 (some (.tup (enc L')))) ∧ Blt e 3 L' ∧ L' ≠ .nil ∧ DkOk d3 := by
        have tl : fBl (fBin dEq (fCall dLen (fCons (fVar 5) fNil)) (fC (.int 0))) (LE d2 (e + 1 : Nat) m A o4 (some (.tup (enc L)))) = .ok (decide (((enc L).length : Int) = 0)) (LE d2 (e + 1 : Nat) m A o4 (some (.tup (enc L)))) := fBl_ok (fBin_ok (fCall_ok (fOne_ok (fVar_ok rfl)) rfl) fC_ok (eqI _ _))
        by_cases cl : L = .nil
        · subst cl
          obtain ⟨w, l, d3, q3, hw, hld, hl3, h3⟩ := e_built_move h2
          have u3 : fUserM 0 1 Q__law_built_move fNil (LE d2 (e + 1 : Nat) m A o4 (some (.tup (enc .nil)))) = .ok (encM w l) (LE d3 (e + 1 : Nat) m A o4 (some (.tup (enc .nil)))) := userM_ok rfl rfl rfl rfl rfl q3
          have mp' := mB_pos e
          refine ⟨.mv w l .nil, d3, ?_, ⟨⟨hw, hld, hl3, trivial⟩, by simp [mvs]; omega, by simp [wt]⟩, (fun z => nomatch z), h3⟩
          exact if_t tl (seq_next (sAsg_ok (fTup_ok (fOne_ok u3) (by simp)) rfl) rfl)
        · have := len_enc_ne cl
          rw [decide_eq_false (by omega)] at tl
          exact ⟨L, d2, if_f tl rfl, bl, cl, h2⟩
      obtain ⟨L', d3, q3, bl', ne', h3⟩ := inner
      obtain ⟨k, d4, q4, k1, k2', h4⟩ := e_amount h3
      have u4 : fUserM 0 1 Q__law_amount fNil (LE d3 (e + 1 : Nat) m A o4 (some (.tup (enc L')))) = .ok (.int k) (LE d4 (e + 1 : Nat) m A o4 (some (.tup (enc L')))) := userM_ok rfl rfl rfl rfl rfl q4
      have ap := app_root (i := 3) (r := LE d3 (e + 1 : Nat) m A o4 (some (.tup (enc L')))) (xs := enc A) rfl (hold_ok (i := 3) (fTup_ok (fCons_ok (fC_ok (d := .str "times")) (fCons_ok u4 (fOne_ok (fPure_ok (f := fVar 5) (d := .tup (enc L')) (fVar_ok rfl) (enc_pure L'))))) (by simp)) rfl (by simp)) (by omega)
      refine ⟨.rd k L' .nil, d4, some (.tup (enc L')), ?_, ⟨⟨k1, k2', ne', ⟨e, rfl, bl'.ok⟩, trivial⟩, ?_, ?_⟩, rfl, h4⟩
      · rw [le_snoc (x := encR k (enc L')) rfl]
        exact seq_next (if_t (fAnd_t t1 t2) (seq_next (sAsg_ok u2 rfl) (seq_next q3 (seq_next (sExpr_ok ap) rfl)))) rfl
      · have := bl'.m
        simp only [mvs, mB]; omega
      · have := bl'.w
        simp only [wt, wB]; omega
    · rw [decide_eq_false c] at t2
      obtain ⟨B, d', o5', q, b, l1, h'⟩ := move h1 (fAnd_t t1 t2)
      exact ⟨B, d', o5', seq_next q rfl, b, l1, h'⟩
theorem bl_go {M : List D → FRes} {e : Nat} {m : Int} (hM : ∀ e', e = e' + 1 → ∀ d, DkOk d → ∃ (L : Lg) (d' : D), M [d, .int e', .int 3] = .ok (.tup (enc L)) [d'] ∧ Blt e' 3 L ∧ DkOk d') :
    ∀ {ds : List D} {d : D} {A : Lg} {o4 o5 : Option D} {j : Nat}, DkOk d → (enc A).length = j → Blt e j A → j + ds.length ≤ 1000 →
    ∃ (B : Lg) (d' : D) (o4' o5' : Option D), forGo (gN 4) (lb__law_built_log_1 F__law_take M Q__law_built_move Q__law_amount) ds (LE d e m A o4 o5) = .next (LE d' e m B o4' o5') ∧ Blt e (j + ds.length) B ∧ DkOk d'
  | [], d, A, o4, o5, j, h, _, b, _ => ⟨A, d, o4, o5, rfl, b, h⟩
  | x :: ds, d, A, o4, o5, j, h, hj, b, hl => by
    rw [List.length_cons] at hl ⊢
    obtain ⟨B, d1, o5', q1, b1, l1, h1⟩ := bl_step (m := m) hM (o4 := some x) (o5 := o5) h (by omega : (enc A).length ≤ 1000) (fun _ _ => trivial)
    have bb : Blt e (j + 1) (A.app B) := ⟨ok_app b.ok b1.ok, by rw [mvs_app, Nat.add_mul]; have := b.m; have := b1.m; omega, by rw [wt_app, Nat.add_mul]; have := b.w; have := b1.w; omega⟩
    obtain ⟨C, d', o4', o5'', q, b2, h'⟩ := bl_go (m := m) hM (ds := ds) (d := d1) (A := A.app B) (o4 := some x) (o5 := o5') (j := j + 1) h1 (by rw [enc_app, List.length_append, hj, l1]) bb (by omega)
    refine ⟨C, d', o4', o5'', ?_, by rw [show j + (ds.length + 1) = j + 1 + ds.length by omega]; exact b2, h'⟩
    rw [go_step (r1 := LE d e m A (some x) o5) rfl q1, q]
theorem Blt.le {e a b : Nat} {L : Lg} (h : Blt e a L) (hab : a ≤ b) : Blt e b L := ⟨h.ok, Nat.le_trans h.m (Nat.mul_le_mul_right _ hab), Nat.le_trans h.w (Nat.mul_le_mul_right _ hab)⟩
theorem e_built_log : ∀ {n e most : Nat} {d : D}, e < n → most ≤ 6 → DkOk d → ∃ (L : Lg) (d' : D), Q__law_built_log n [d, .int e, .int most] = .ok (.tup (enc L)) [d'] ∧ Blt e most L ∧ DkOk d'
  | n + 1, e, most, d, hn, hm, h => by
    obtain ⟨v, d1, q1, a1, b1, h1⟩ := e_take h (m := (most : Int) + 1) (by omega) (by omega)
    have u1 : fUserM 0 2 F__law_take (fCons (fBin dAdd (fVar 2) (fC (.int 1))) fNil) (LE d e most .nil none none) = .ok (.int v) (LE d1 e most .nil none none) := userM_ok rfl (fOne_ok (fBin_ok (fVar_ok rfl) fC_ok rfl)) rfl rfl rfl q1
    obtain ⟨L, d', o4', o5', q, b, h'⟩ := bl_go (M := Q__law_built_log n) (e := e) (m := (most : Int)) (fun e' ee d0 hd0 => e_built_log (most := 3) (by omega) (by omega) hd0) (ds := rngD 0 v.toNat) (d := d1) (A := .nil) (o4 := none) (o5 := none) (j := 0) h1 rfl ⟨trivial, by simp [mvs], by simp [wt]⟩ (by rw [rngD_len]; omega)
    rw [rngD_len] at b
    refine ⟨L, d', ?_, b.le (by omega), h'⟩
    have dt : dTuple [.lst (enc L)] = some (.tup (enc L)) := by simp only [dTuple, enc_pure, if_true]
    show endF [0] (fb__law_built_log F__law_take (Q__law_built_log n) Q__law_built_move Q__law_amount [some d, some (.int e), some (.int most), none, none, none]) = _
    unfold fb__law_built_log
    refine endF_ret (r := LE d' e most L o4' o5') ?_ rfl
    refine seq_next (sAsg_ok (fLst_ok fNil_ok (by simp)) rfl) ?_
    refine seq_next (for_ok (fArgL_ok (fOne_ok u1) (gRange1_int a1 (by omega))) q) ?_
    exact seq_ret (sRet_ok (fCall_ok (fOne_ok (fVar_ok rfl)) dt))

/-! ### the deck, laid -/
theorem deck_go {t : Option D} : ∀ {ns : List Int} {s : Int} {o : Option D}, ∃ (s' : Int) (o' : Option D), forGo (gN 2) lb__law_deck_1 (ns.map D.int) [t, some (.int s), o] = .next [t, some (.int s'), o'] ∧ (ns ≠ [] → 0 ≤ s' ∧ s' < 2147483647) ∧ (ns = [] → s' = s)
  | [], s, o => ⟨s, o, rfl, fun h => absurd rfl h, fun _ => rfl⟩
  | n :: ns, s, o => by
    have g : fBin dMod (fCall dInt (fCons (fBin dAdd (fBin dAdd (fBin dMul (fVar 1) (fC (.int 48271))) (fBin dMul (fCall dInt (fCons (fVar 2) fNil)) (fC (.int 69621)))) (fC (.int 7))) fNil)) (fC (.int 2147483647)) [t, some (.int s), some (.int n)] = .ok (.int ((s * 48271 + n * 69621 + 7) % 2147483647)) [t, some (.int s), some (.int n)] :=
      fBin_ok (int_ok (fBin_ok (fBin_ok (fBin_ok (fVar_ok rfl) fC_ok (mul_r (by decide))) (fBin_ok (int_ok (fVar_ok rfl)) fC_ok (mul_r (by decide))) rfl) fC_ok rfl)) fC_ok (mod_ok (by decide))
    have st : lb__law_deck_1 [t, some (.int s), some (.int n)] = .next [t, some (.int ((s * 48271 + n * 69621 + 7) % 2147483647)), some (.int n)] := by
      unfold lb__law_deck_1
      exact seq_next (sAsg_ok g rfl) rfl
    obtain ⟨s', o', q, p1, p2⟩ := deck_go (t := t) (ns := ns) (s := (s * 48271 + n * 69621 + 7) % 2147483647) (o := some (.int n))
    refine ⟨s', o', ?_, fun _ => ?_, fun z => nomatch z⟩
    · rw [List.map_cons, go_step (r1 := [t, some (.int s), some (.int n)]) rfl st, q]
    · by_cases c : ns = []
      · rw [p2 c]
        exact ⟨Int.emod_nonneg _ (by decide), Int.emod_lt_of_pos _ (by decide)⟩
      · exact p1 c
theorem e_deck {ns : List Int} (h : ns.length ≤ 63) : ∃ d, F__law_deck [.frz (ns.map D.int)] = .ok d [] ∧ DkOk d := by
  have sl : ∀ r : Env, fSl (fVar 0) fNoP (fSomeP (fC (.int 63))) (some (.frz (ns.map D.int)) :: r) = .ok (.lst (ns.map D.int)) (some (.frz (ns.map D.int)) :: r) := fun r => by
    have e : cutD (ns.map D.int) none (some (63 : Int)) = ns.map D.int := by
      unfold cutD
      rw [HT.sIx_none, show (63 : Int) = ((63 : Nat) : Int) from rfl, HT.sIx_nat, List.length_map, Nat.min_eq_right h, List.drop_zero, Nat.sub_zero]
      rw [List.take_of_length_le (by simp)]
    refine fSl_ok (fVar_ok rfl) rfl (fSomeP_ok fC_ok) ?_
    show (if pureL (cutD (ns.map D.int) none (some (63 : Int))) = true then some (D.lst (cutD (ns.map D.int) none (some (63 : Int)))) else none) = _
    rw [e, ints_pure]; rfl
  have it : ∀ r : Env, fSeq (fSl (fVar 0) fNoP (fSomeP (fC (.int 63)))) (some (.frz (ns.map D.int)) :: r) = .ok (ns.map D.int) (some (.frz (ns.map D.int)) :: r) := fun r => fSeq_ok (sl r) (by rw [seqD_lst, if_pos (ints_pure ns)])
  obtain ⟨s', o', q, p1, p2⟩ := deck_go (t := some (.frz (ns.map D.int))) (ns := ns) (s := (ns.length : Int) + 1) (o := none)
  have sb : 0 ≤ s' ∧ s' < 2147483647 := by
    by_cases c : ns = []
    · rw [p2 c, c]; simp
    · exact p1 c
  let f : D → D := fun d => match d with
    | .int i => .int (if i < 0 then -i else i)
    | d => d
  have lc : lcGo (gN 2) tTrue le__law_deck_1 [2] (ns.map D.int) [some (.frz (ns.map D.int)), some (.int s'), o'] [] = .ok (.lst ((ns.map D.int).map f)) [some (.frz (ns.map D.int)), some (.int s'), o'] := by
    have z := lcGo_map (g := gN 2) (fe := le__law_deck_1) (vs := [2]) (h := f) (r := [some (.frz (ns.map D.int)), some (.int s'), o']) (ds := ns.map D.int) (acc := []) (fun d m => ?_) (fun d m => ?_) (by simp; omega)
    · rw [z, List.nil_append]
    · obtain ⟨n, _, rfl⟩ := List.mem_map.mp m
      refine ⟨[some (.frz (ns.map D.int)), some (.int s'), some (.int n)], rfl, ?_, rfl⟩
      exact fCall_ok (fOne_ok (int_ok (fVar_ok rfl))) rfl
    · obtain ⟨n, _, rfl⟩ := List.mem_map.mp m
      rfl
  have ef : (ns.map D.int).map f = (ns.map fun i => if i < 0 then -i else i).map D.int := by
    rw [List.map_map, List.map_map]; rfl
  rw [ef] at lc
  have pa : pureAt [some (D.frz (ns.map D.int)), some (.int s'), o'] [2] = true := by
    -- the slot 2 holds an int or nothing
    have go : ∀ {ns : List Int} {s : Int} {o : Option D} {t : Option D} {s' : Int} {o' : Option D}, forGo (gN 2) lb__law_deck_1 (ns.map D.int) [t, some (.int s), o] = .next [t, some (.int s'), o'] → (∀ d, o = some d → d.pure = true) → ∀ d, o' = some d → d.pure = true := fun {ns} => by
      induction ns with
      | nil => intro s o t s' o' e h; cases e; exact h
      | cons n ns ih =>
        intro s o t s' o' e h
        have g : lb__law_deck_1 [t, some (.int s), some (.int n)] = .next [t, some (.int ((s * 48271 + n * 69621 + 7) % 2147483647)), some (.int n)] := by
          unfold lb__law_deck_1
          exact seq_next (sAsg_ok (fBin_ok (int_ok (fBin_ok (fBin_ok (fBin_ok (fVar_ok rfl) fC_ok (mul_r (by decide))) (fBin_ok (int_ok (fVar_ok rfl)) fC_ok (mul_r (by decide))) rfl) fC_ok rfl)) fC_ok (mod_ok (by decide))) rfl) rfl
        rw [List.map_cons, go_step (r1 := [t, some (.int s), some (.int n)]) rfl g] at e
        exact ih e (fun d hd => by cases hd; rfl)
    have h2 := go q (fun d hd => nomatch hd)
    clear q lc
    cases o' with
    | none => rfl
    | some d => simp [pureAt, h2 d rfl]
  refine ⟨Dk (ns.map fun i => if i < 0 then -i else i) 0 0 0 s', ?_, ⟨_, _, _, _, _, rfl, ⟨fun c m => ?_, Int.le_refl _, by omega, Int.le_refl _, sb.1, sb.2⟩⟩⟩
  · have dl : dLen [.frz (ns.map D.int)] = some (.int (ns.length : Nat)) := by simp [dLen]
    show endF [] (fb__law_deck [some (.frz (ns.map D.int)), none, none]) = _
    unfold fb__law_deck
    refine endF_ret0 (r := [some (.frz (ns.map D.int)), some (.int s'), o']) ?_
    refine seq_next (sAsg_ok (fBin_ok (fCall_ok (fOne_ok (fVar_ok rfl)) dl) fC_ok rfl) rfl) ?_
    refine seq_next (for_ok (it _) q) ?_
    exact seq_ret (sRet_ok (fLst_ok (fCons_ok (lc_ok (it _) pa lc) (fCons_ok fC_ok (fCons_ok fC_ok (fCons_ok fC_ok (fOne_ok (fPure_ok (fVar_ok rfl) rfl)))))) (by simp)))
  · obtain ⟨n, _, rfl⟩ := List.mem_map.mp m
    show 0 ≤ if n < 0 then -n else n
    split <;> omega
end DL

set_option Elab.async false
set_option linter.all false
set_option maxRecDepth 100000
set_option maxHeartbeats 1000000
namespace DL
open PySem PySem.Spec L2

theorem LOk.up : ∀ {L : Lg} {e : Nat}, LOk L e → LOk L (e + 1)
  | .nil, _, _ => trivial
  | .mv w l r, e, h => ⟨h.1, h.2.1, h.2.2.1, h.2.2.2.up⟩
  | .rd k i r, e, h => by
    obtain ⟨h1, h2, h3, ⟨e', rfl, hi⟩, hr⟩ := h
    exact ⟨h1, h2, h3, ⟨e' + 1, rfl, hi.up⟩, hr.up⟩
theorem LOk.to3 {L : Lg} {e : Nat} (h : LOk L e) (he : e ≤ 3) : LOk L 3 := by
  have : e = 0 ∨ e = 1 ∨ e = 2 ∨ e = 3 := by omega
  rcases this with rfl | rfl | rfl | rfl
  · exact h.up.up.up
  · exact h.up.up
  · exact h.up
  · exact h
theorem Blt.small {e most : Nat} {L : Lg} (b : Blt e most L) (he : e ≤ 3) (hm : most ≤ 6) : mvs L ≤ 162 ∧ wt L ≤ 78 := by
  have h1 := b.m
  have h2 := b.w
  have m1 : mB e ≤ 27 := by
    have : e = 0 ∨ e = 1 ∨ e = 2 ∨ e = 3 := by omega
    rcases this with rfl | rfl | rfl | rfl <;> decide
  have w1 : wB e ≤ 13 := by
    have : e = 0 ∨ e = 1 ∨ e = 2 ∨ e = 3 := by omega
    rcases this with rfl | rfl | rfl | rfl <;> decide
  have m2 : most * mB e ≤ 6 * 27 := Nat.mul_le_mul hm m1
  have w2 : most * wB e ≤ 6 * 13 := Nat.mul_le_mul hm w1
  omega
/-! ### the numbers of calls allowed -/
abbrev NN : Nat := 20
abbrev FU : Nat := 1000
abbrev LB := lb_law_1 F__law_deck (Q_log_text NN) (Q_read_log FU) (Q__law_built_log NN) F__law_take (Q__law_log_text NN) (Q__law_like NN) Q__law_read_log (Q_length_of NN FU) (Q__law_length NN) Q__law_amount
abbrev GE (t : Option D) (d : D) (o2 o3 o4 o5 o6 : Option D) : Env := [t, some d, o2, o3, o4, o5, o6]
theorem lit_os : ("( " : Str) = St [40, 32] := rfl
theorem lit_sc : (" )" : Str) = St [32, 41] := rfl
theorem dlen_tup (xs : List D) : dLen [.tup xs] = some (.int (xs.length : Nat)) := rfl
theorem round_ok {t o2 o3 o4 o5 o6 : Option D} {d : D} (h : DkOk d) : ∃ (d' : D) (o3' o4' o5' o6' : Option D), LB (GE t d o2 o3 o4 o5 o6) = .next (GE t d' o2 o3' o4' o5' o6') ∧ DkOk d' := by
  obtain ⟨v, d1, q1, a1, b1, h1⟩ := e_take h (m := 4) (by decide) (by decide)
  obtain ⟨e, rfl⟩ := Int.eq_ofNat_of_zero_le a1
  have he : e ≤ 3 := by omega
  obtain ⟨L, d2, q2, bl, h2⟩ := e_built_log (n := NN) (e := e) (most := 6) (Nat.lt_of_le_of_lt he (by decide)) (Nat.le_refl _) h1
  have u1 : fUserM 1 2 F__law_take (fCons (fC (.int 4)) fNil) (GE t d o2 o3 o4 o5 o6) = .ok (.int (e : Nat)) (GE t d1 o2 o3 o4 o5 o6) := userM_ok rfl rfl rfl rfl rfl q1
  have u2 : fUserM 1 3 (Q__law_built_log NN) (fCons (fUserM 1 2 F__law_take (fCons (fC (.int 4)) fNil)) (fCons (fC (.int 6)) fNil)) (GE t d o2 o3 o4 o5 o6) = .ok (.tup (enc L)) (GE t d2 o2 o3 o4 o5 o6) := userM_ok rfl (fCons_ok u1 (fOne_ok fC_ok)) rfl rfl rfl q2
  have ok3 := bl.ok.to3 he
  obtain ⟨sm, sw⟩ := bl.small he (Nat.le_refl _)
  have nd := nd_eq L
  have hl : (wds L).length ≤ 1000 := by omega
  have q3 := e_log_text (n := NN) (by decide) ok3 hl
  have q4 := e__law_log_text (n := NN) (by decide) ok3 hl
  have q5 := e_read_log (fu := FU) ok3 hl (by omega) (by omega) (by decide)
  have q6 := e__law_read_log ok3 hl (by omega) (by omega)
  have q7 := e_length_of (fu := FU) (n := NN) (by decide) ok3 (by omega) (by omega) (by decide)
  have q8 := e__law_length (n := NN) (by decide) (Nat.le_refl 3) ok3 (by omega)
  have pe : (D.tup (enc L)).pure = true := enc_pure L
  have dp := dep_tup ok3 (by omega)
  have k1 : Q__law_like NN [.tup (enc L), .tup (enc L)] = .ok (.bl true) [] := like_ok (n := 19) (dp.ups (by omega)) pe
  have pt : (D.tup [.str "told", .tup (enc L)]).pure = true := by
    show (true && (pureL (enc L) && true)) = true
    rw [enc_pure]; rfl
  have k2 : Q__law_like NN [.tup [.str "told", .tup (enc L)], .tup [.str "told", .tup (enc L)]] = .ok (.bl true) [] := like_ok (n := 19) ((Dep.tup (n := 10) (by simp) fun x m => by
    simp at m
    rcases m with rfl | rfl
    · exact .str _
    · exact dp).ups (by omega)) pt
  have k3 : Q__law_like NN [.int (lenI L), .int (lenI L)] = .ok (.bl true) [] := like_ok (n := 19) (.int _) rfl
  have ne : dNe (dW (txt L)) (dW (txt L)) = some (.bl false) := (sNe_str _ _).trans (by simp)
  -- the other log
  obtain ⟨Lx, d3, q9, bx, h3⟩ := e_built_log (n := NN) (e := 2) (most := 4) (by decide) (by decide) h2
  have u3 : fUserM 1 3 (Q__law_built_log NN) (fCons (fC (.int 2)) (fCons (fC (.int 4)) fNil)) (GE t d2 o2 (some (.tup (enc L))) (some (dW (txt L))) o5 o6) = .ok (.tup (enc Lx)) (GE t d3 o2 (some (.tup (enc L))) (some (dW (txt L))) o5 o6) := userM_ok rfl rfl rfl rfl rfl q9
  obtain ⟨xm, xw⟩ := bx.small (by decide) (by decide)
  have first : ∀ {s : Env → SRes} {u : SRes}, s (GE t d2 o2 (some (.tup (enc L))) (some (dW (txt L))) o5 o6) = u →
      sSeq (sAsg (fUserM 1 3 (Q__law_built_log NN) (fCons (fUserM 1 2 F__law_take (fCons (fC (.int 4)) fNil)) (fCons (fC (.int 6)) fNil))) (gN 3))
    (sSeq (sAsg (fUser 1 (Q_log_text NN) (fCons (fVar 3) fNil)) (gN 4))
    (sSeq (sIf (fOr (fNot (fTru (fIsi "str" (fVar 4)))) (fBl (fBin dNe (fVar 4) (fUser 1 (Q__law_log_text NN) (fCons (fVar 3) fNil))))) (sSeq (sRet (fC (.bl false)))
    sNil) sNil)
    (sSeq (sIf (fOr (fNot (fTru (fUser 2 (Q__law_like NN) (fCons (fUser 1 (Q_read_log FU) (fCons (fVar 4) fNil)) (fCons (fVar 3) fNil))))) (fNot (fTru (fUser 2 (Q__law_like NN) (fCons (fUser 1 Q__law_read_log (fCons (fVar 4) fNil)) (fCons (fTup (fCons (fC (.str "told")) (fCons (fPure (fVar 3)) fNil))) fNil)))))) (sSeq (sRet (fC (.bl false)))
    sNil) sNil)
    (sSeq (sIf (fNot (fTru (fUser 2 (Q__law_like NN) (fCons (fUser 1 (Q_length_of NN FU) (fCons (fUser 1 (Q_read_log FU) (fCons (fVar 4) fNil)) fNil)) (fCons (fUser 1 (Q__law_length NN) (fCons (fVar 3) fNil)) fNil))))) (sSeq (sRet (fC (.bl false)))
    sNil) sNil) s)))) (GE t d o2 o3 o4 o5 o6) = u := fun {s u} hs => by
    refine seq_next (sAsg_ok u2 rfl) ?_
    refine seq_next (sAsg_ok (user_ok (fVar_ok rfl) pe q3) rfl) ?_
    refine seq_next (if_f (r1 := GE t d2 o2 (some (.tup (enc L))) (some (dW (txt L))) o5 o6) (fOr_f (r1 := GE t d2 o2 (some (.tup (enc L))) (some (dW (txt L))) o5 o6) rfl (fBl_ok (fBin_ok (fVar_ok rfl) (user_ok (fVar_ok rfl) pe q4) ne))) rfl) ?_
    refine seq_next (if_f (fOr_f (fNot_ok (fTru_ok (user2_ok (user_ok (fVar_ok rfl) rfl q5) (fVar_ok rfl) pe pe k1) rfl)) (fNot_ok (fTru_ok (user2_ok (user_ok (fVar_ok rfl) rfl q6) (fTup_ok (fCons_ok fC_ok (fOne_ok (fPure_ok (fVar_ok rfl) pe))) (by simp)) pt pt k2) rfl))) rfl) ?_
    exact seq_next (if_f (fNot_ok (fTru_ok (user2_ok (user_ok (user_ok (fVar_ok rfl) rfl q5) pe q7) (user_ok (fVar_ok rfl) pe q8) rfl rfl k3) rfl)) rfl) hs
  by_cases c : Lx = .nil
  · refine ⟨d3, some (.tup (enc L)), some (dW (txt L)), some (.tup (enc Lx)), o6, ?_, h3⟩
    have tl : fBl (fBin dGt (fCall dLen (fCons (fVar 5) fNil)) (fC (.int 0))) (GE t d3 o2 (some (.tup (enc L))) (some (dW (txt L))) (some (.tup (enc Lx))) o6) = .ok false (GE t d3 o2 (some (.tup (enc L))) (some (dW (txt L))) (some (.tup (enc Lx))) o6) := by
      subst c
      exact fBl_ok (fBin_ok (fCall_ok (fOne_ok (fVar_ok rfl)) (dlen_tup _)) fC_ok rfl)
    unfold LB lb_law_1
    exact first (seq_next (sAsg_ok u3 rfl) (seq_next (if_f tl rfl) rfl))
  · obtain ⟨k, d4, q10, ka, kb, h4⟩ := e_amount h3
    refine ⟨d4, some (.tup (enc L)), some (dW (txt L)), some (.tup (enc Lx)), some (.int k), ?_, h4⟩
    have lpos := len_enc_ne c
    have tl : fBl (fBin dGt (fCall dLen (fCons (fVar 5) fNil)) (fC (.int 0))) (GE t d3 o2 (some (.tup (enc L))) (some (dW (txt L))) (some (.tup (enc Lx))) o6) = .ok true (GE t d3 o2 (some (.tup (enc L))) (some (dW (txt L))) (some (.tup (enc Lx))) o6) := by
      have g : dGt (.int ((enc Lx).length : Nat)) (.int 0) = some (.bl true) := by
        show some (D.bl (decide ((0 : Int) < (((enc Lx).length : Nat) : Int)))) = _
        rw [decide_eq_true (by omega)]
      exact fBl_ok (fBin_ok (fCall_ok (fOne_ok (fVar_ok rfl)) (dlen_tup _)) fC_ok g)
    have u4 : fUserM 1 1 Q__law_amount fNil (GE t d3 o2 (some (.tup (enc L))) (some (dW (txt L))) (some (.tup (enc Lx))) o6) = .ok (.int k) (GE t d4 o2 (some (.tup (enc L))) (some (dW (txt L))) (some (.tup (enc Lx))) o6) := userM_ok rfl rfl rfl rfl rfl q10
    have okr : LOk (.rd k Lx .nil) 3 := ⟨ka, kb, c, ⟨2, rfl, bx.ok⟩, trivial⟩
    have nx := nd_eq Lx
    have hlx : (wds Lx).length ≤ 1000 := by omega
    have hlr : (wds (.rd k Lx .nil)).length ≤ 1000 := by simp [wds]; omega
    have w1 := e_log_text (n := NN) (by decide) okr hlr
    have w2 := e_log_text (n := NN) (by decide) bx.ok hlx
    have pr : (D.tup (enc (.rd k Lx .nil))).pure = true := enc_pure _
    have px : (D.tup (enc Lx)).pure = true := enc_pure _
    have tx : txt (.rd k Lx .nil) = (TL.numL k.toNat ++ [40, 32]) ++ txt Lx ++ [32, 41] := by
      unfold txt
      show TL.joinL [32] (opL k :: (wds Lx ++ [[41]])) = _
      rw [joinL_cons (by simp), joinL_app (by simp) (wds_ne c)]
      simp [opL, TL.joinL]
    have tlen := txt_len bx.ok hlx
    have n31 := num31 (n := k.toNat) (by omega)
    have s1 : dAdd (.str (St (TL.numL k.toNat))) (.str "( ") = some (.str (St (TL.numL k.toNat ++ [40, 32]))) := by rw [lit_os]; exact add_St (by simp; omega)
    have s2 : dAdd (.str (St (TL.numL k.toNat ++ [40, 32]))) (dW (txt Lx)) = some (.str (St (TL.numL k.toNat ++ [40, 32] ++ txt Lx))) := add_St (by simp; omega)
    have s3 : dAdd (.str (St (TL.numL k.toNat ++ [40, 32] ++ txt Lx))) (.str " )") = some (dW (txt (.rd k Lx .nil))) := by rw [lit_sc, tx]; exact add_St (by simp; omega)
    have ner : dNe (dW (txt (.rd k Lx .nil))) (dW (txt (.rd k Lx .nil))) = some (.bl false) := (sNe_str _ _).trans (by simp)
    have left : fUser 1 (Q_log_text NN) (fCons (fTup (fCons (fTup (fCons (fC (.str "times")) (fCons (fPure (fVar 6)) (fCons (fPure (fVar 5)) fNil)))) fNil)) fNil) (GE t d4 o2 (some (.tup (enc L))) (some (dW (txt L))) (some (.tup (enc Lx))) (some (.int k))) = .ok (dW (txt (.rd k Lx .nil))) (GE t d4 o2 (some (.tup (enc L))) (some (dW (txt L))) (some (.tup (enc Lx))) (some (.int k))) :=
      user_ok (fTup_ok (fOne_ok (fTup_ok (fCons_ok fC_ok (fCons_ok (fPure_ok (fVar_ok rfl) rfl) (fOne_ok (fPure_ok (fVar_ok rfl) px)))) (by simp))) (by simp)) pr w1
    have right : fBin dAdd (fBin dAdd (fBin dAdd (fCall dStr (fCons (fVar 6) fNil)) (fC (.str "( "))) (fUser 1 (Q_log_text NN) (fCons (fVar 5) fNil))) (fC (.str " )")) (GE t d4 o2 (some (.tup (enc L))) (some (dW (txt L))) (some (.tup (enc Lx))) (some (.int k))) = .ok (dW (txt (.rd k Lx .nil))) (GE t d4 o2 (some (.tup (enc L))) (some (dW (txt L))) (some (.tup (enc Lx))) (some (.int k))) :=
      fBin_ok (fBin_ok (fBin_ok (fCall_ok (fOne_ok (fVar_ok rfl)) (e_dStr (by omega) kb)) fC_ok s1) (user_ok (fVar_ok rfl) px w2) s2) fC_ok s3
    unfold LB lb_law_1
    exact first (seq_next (sAsg_ok u3 rfl) (seq_next (if_t tl (seq_next (sAsg_ok u4 rfl) (seq_next (if_f (fBl_ok (fBin_ok left right ner)) rfl) rfl))) rfl))
theorem law_go {t : Option D} : ∀ {ds : List D} {d : D} {o2 o3 o4 o5 o6 : Option D}, DkOk d → ∃ r, forGo (gN 2) LB ds (GE t d o2 o3 o4 o5 o6) = .next r
  | [], d, o2, o3, o4, o5, o6, h => ⟨_, rfl⟩
  | x :: ds, d, o2, o3, o4, o5, o6, h => by
    obtain ⟨d', o3', o4', o5', o6', q, h'⟩ := round_ok (t := t) (o2 := some x) (o3 := o3) (o4 := o4) (o5 := o5) (o6 := o6) h
    rw [go_step (r1 := GE t d (some x) o3 o4 o5 o6) rfl q]
    exact law_go h'
theorem ne_tup0 : dNe (.tup []) (.tup []) = some (.bl false) := by
  have e2 : (D.tup []).toP = some (.tuple []) := by simp [D.toP, toPL]
  have l' : (PyData.tuple []).canLay0 = true := by simp [PyData.canLay0, PyData.canLayAll0]
  have dd : (PyData.tuple []).depth ≤ 64 := by decide +kernel
  have p : pEq (.tup []) (.tup []) = some true := by
    unfold pEq
    rw [e2]
    simp [l', dd, PyData.eqv, PyData.eqvAll]
  unfold dNe eqB sEq
  rw [p]; rfl
def M_fin : List D → FRes := F_law F__law_deck (Q_log_text NN) (Q_read_log FU) (Q__law_built_log NN) F__law_take (Q__law_log_text NN) (Q__law_like NN) Q__law_read_log (Q_length_of NN FU) (Q__law_length NN) Q__law_amount
theorem good (ns : List Int) (h : ns.length ≤ 63) : M_fin [.frz (ns.map .int)] = .ok (.bl true) [] := by
  obtain ⟨d, q, hd⟩ := e_deck h
  have w1 := e_log_text (n := NN) (L := .nil) (e := 0) (by decide) trivial (by simp [wds])
  have w2 := e_read_log (fu := FU) (L := .nil) trivial (by simp [wds]) (by simp [mvs]) (by simp [wt]) (by decide)
  have n1 : dNe (dW (txt .nil)) (.str "") = some (.bl false) := by rw [lit_e]; exact (sNe_str _ _).trans rfl
  obtain ⟨r, g⟩ := law_go (t := some (.frz (ns.map D.int))) (ds := rngD 0 6) (d := d) (o2 := none) (o3 := none) (o4 := none) (o5 := none) (o6 := none) hd
  show endF [] (fb_law F__law_deck (Q_log_text NN) (Q_read_log FU) (Q__law_built_log NN) F__law_take (Q__law_log_text NN) (Q__law_like NN) Q__law_read_log (Q_length_of NN FU) (Q__law_length NN) Q__law_amount [some (.frz (ns.map D.int)), none, none, none, none, none, none]) = _
  unfold fb_law
  refine endF_ret0 (r := r) ?_
  refine seq_next (sAsg_ok (user_ok (fVar_ok rfl) rfl q) rfl) ?_
  refine seq_next (if_f (r1 := GE (some (.frz (ns.map D.int))) d none none none none none) (fOr_f (r1 := GE (some (.frz (ns.map D.int))) d none none none none none) (fBl_ok (fBin_ok (user_ok (fTup_ok fNil_ok (by simp)) rfl w1) fC_ok n1)) (fBl_ok (fBin_ok (user_ok (x := .str "") fC_ok rfl w2) (fTup_ok fNil_ok (by simp)) ne_tup0))) rfl) ?_
  refine seq_next (for_ok (r1 := GE (some (.frz (ns.map D.int))) d none none none none none) (fArgL_ok (fOne_ok fC_ok) (gRange1_nat (n := 6) (by decide))) g) ?_
  exact seq_ret (sRet_ok fC_ok)
end DL

set_option Elab.async false
set_option linter.all false
set_option maxRecDepth 100000
set_option maxHeartbeats 4000000
namespace DL
open PySem PySem.Spec L2
/-- the defs of the top -/
structure Tops (K : PySem.W.Frag) (mg : Str → Option Value) : Prop where
  d__law_deck : DefIn K mg "_law_deck" "_law_deck" ["_law_script"] s__law_deck
  d__law_take : DefIn K mg "_law_take" "_law_take" ["_law_deck_here", "_law_many"] s__law_take
  d__law_amount : DefIn K mg "_law_amount" "_law_amount" ["_law_deck_here"] s__law_amount
  d__law_built_move : DefIn K mg "_law_built_move" "_law_built_move" ["_law_deck_here"] s__law_built_move
  d__law_built_log : DefIn K mg "_law_built_log" "_law_built_log" ["_law_deck_here", "_law_deep", "_law_most"] s__law_built_log
  d_move_word : DefIn K mg "move_word" "move_word" ["move"] s_move_word
  d_log_words : DefIn K mg "log_words" "log_words" ["log"] s_log_words
  d_log_text : DefIn K mg "log_text" "log_text" ["log"] s_log_text
  d_is_integer : DefIn K mg "is_integer" "is_integer" ["thing"] s_is_integer
  d_is_within : DefIn K mg "is_within" "is_within" ["thing", "least", "most"] s_is_within
  d_is_rounds : DefIn K mg "is_rounds" "is_rounds" ["thing"] s_is_rounds
  d_is_way : DefIn K mg "is_way" "is_way" ["thing"] s_is_way
  d_is_aboard : DefIn K mg "is_aboard" "is_aboard" ["thing"] s_is_aboard
  d_is_built_move : DefIn K mg "is_built_move" "is_built_move" ["thing"] s_is_built_move
  d_written_in : DefIn K mg "written_in" "written_in" ["thing"] s_written_in
  d_check_built : DefIn K mg "check_built" "check_built" ["log"] s_check_built
  d_number_in : DefIn K mg "number_in" "number_in" ["word"] s_number_in
  d_times_in : DefIn K mg "times_in" "times_in" ["word"] s_times_in
  d_pair_in : DefIn K mg "pair_in" "pair_in" ["word"] s_pair_in
  d_move_in : DefIn K mg "move_in" "move_in" ["word"] s_move_in
  d_check_text : DefIn K mg "check_text" "check_text" ["text"] s_check_text
  d_read_log : DefIn K mg "read_log" "read_log" ["text"] s_read_log
  d__law_like : DefIn K mg "_law_like" "_law_like" ["_law_told", "_law_due"] s__law_like
  d__law_move_word : DefIn K mg "_law_move_word" "_law_move_word" ["_law_move"] s__law_move_word
  d__law_log_text : DefIn K mg "_law_log_text" "_law_log_text" ["_law_log"] s__law_log_text
  d_count_of : DefIn K mg "count_of" "count_of" ["log"] s_count_of
  d_length_of : DefIn K mg "length_of" "length_of" ["log"] s_length_of
  d__law_length : DefIn K mg "_law_length" "_law_length" ["_law_log"] s__law_length
  d__law_digits : DefIn K mg "_law_digits" "_law_digits" ["_law_word"] s__law_digits
  d__law_word_move : DefIn K mg "_law_word_move" "_law_word_move" ["_law_word"] s__law_word_move
  d__law_is_whole : DefIn K mg "_law_is_whole" "_law_is_whole" ["_law_thing"] s__law_is_whole
  d__law_is_load : DefIn K mg "_law_is_load" "_law_is_load" ["_law_thing"] s__law_is_load
  d__law_is_built : DefIn K mg "_law_is_built" "_law_is_built" ["_law_thing"] s__law_is_built
  d__law_is_right_log : DefIn K mg "_law_is_right_log" "_law_is_right_log" ["_law_log"] s__law_is_right_log
  d__law_read_log : DefIn K mg "_law_read_log" "_law_read_log" ["_law_text"] s__law_read_log
theorem all_mk {w : World} {K : PySem.W.Frag} {h : Heap} {mg : Str → Option Value} {fa : Addr} (X : K.In h) (G : h.Ns mainGlobals mg) (hfa : mg "law" = some (.ref fa))
    {f0 : Addr} {od0 an0 : Option Addr} {sl0 : Array (Option Value)} {oc0 kV0 dc0 pm0 cd0 ct0 : Value}
    {f1 : Addr} {od1 an1 : Option Addr} {sl1 : Array (Option Value)} {oc1 kV1 dc1 pm1 cd1 ct1 : Value}
    {f2 : Addr} {od2 an2 : Option Addr} {sl2 : Array (Option Value)} {oc2 kV2 dc2 pm2 cd2 ct2 : Value}
    {f3 : Addr} {od3 an3 : Option Addr} {sl3 : Array (Option Value)} {oc3 kV3 dc3 pm3 cd3 ct3 : Value}
    {f4 : Addr} {od4 an4 : Option Addr} {sl4 : Array (Option Value)} {oc4 kV4 dc4 pm4 cd4 ct4 : Value}
    {f5 : Addr} {od5 an5 : Option Addr} {sl5 : Array (Option Value)} {oc5 kV5 dc5 pm5 cd5 ct5 : Value}
    {f6 : Addr} {od6 an6 : Option Addr} {sl6 : Array (Option Value)} {oc6 kV6 dc6 pm6 cd6 ct6 : Value}
    {f7 : Addr} {od7 an7 : Option Addr} {sl7 : Array (Option Value)} {oc7 kV7 dc7 pm7 cd7 ct7 : Value}
    {f8 : Addr} {od8 an8 : Option Addr} {sl8 : Array (Option Value)} {oc8 kV8 dc8 pm8 cd8 ct8 : Value}
    {f9 : Addr} {od9 an9 : Option Addr} {sl9 : Array (Option Value)} {oc9 kV9 dc9 pm9 cd9 ct9 : Value}
    {f10 : Addr} {od10 an10 : Option Addr} {sl10 : Array (Option Value)} {oc10 kV10 dc10 pm10 cd10 ct10 : Value}
    {f11 : Addr} {od11 an11 : Option Addr} {sl11 : Array (Option Value)} {oc11 kV11 dc11 pm11 cd11 ct11 : Value}
    {f12 : Addr} {od12 an12 : Option Addr} {sl12 : Array (Option Value)} {oc12 kV12 dc12 pm12 cd12 ct12 : Value}
    {f13 : Addr} {od13 an13 : Option Addr} {sl13 : Array (Option Value)} {oc13 kV13 dc13 pm13 cd13 ct13 : Value}
    {f14 : Addr} {od14 an14 : Option Addr} {sl14 : Array (Option Value)} {oc14 kV14 dc14 pm14 cd14 ct14 : Value}
    {f15 : Addr} {od15 an15 : Option Addr} {sl15 : Array (Option Value)} {oc15 kV15 dc15 pm15 cd15 ct15 : Value}
    {f16 : Addr} {od16 an16 : Option Addr} {sl16 : Array (Option Value)} {oc16 kV16 dc16 pm16 cd16 ct16 : Value}
    {f17 : Addr} {od17 an17 : Option Addr} {sl17 : Array (Option Value)} {oc17 kV17 dc17 pm17 cd17 ct17 : Value}
    {f18 : Addr} {od18 an18 : Option Addr} {sl18 : Array (Option Value)} {oc18 kV18 dc18 pm18 cd18 ct18 : Value}
    {f19 : Addr} {od19 an19 : Option Addr} {sl19 : Array (Option Value)} {oc19 kV19 dc19 pm19 cd19 ct19 : Value}
    {f20 : Addr} {od20 an20 : Option Addr} {sl20 : Array (Option Value)} {oc20 kV20 dc20 pm20 cd20 ct20 : Value}
    {f21 : Addr} {od21 an21 : Option Addr} {sl21 : Array (Option Value)} {oc21 kV21 dc21 pm21 cd21 ct21 : Value}
    {f22 : Addr} {od22 an22 : Option Addr} {sl22 : Array (Option Value)} {oc22 kV22 dc22 pm22 cd22 ct22 : Value}
    {f23 : Addr} {od23 an23 : Option Addr} {sl23 : Array (Option Value)} {oc23 kV23 dc23 pm23 cd23 ct23 : Value}
    {f24 : Addr} {od24 an24 : Option Addr} {sl24 : Array (Option Value)} {oc24 kV24 dc24 pm24 cd24 ct24 : Value}
    {f25 : Addr} {od25 an25 : Option Addr} {sl25 : Array (Option Value)} {oc25 kV25 dc25 pm25 cd25 ct25 : Value}
    {f26 : Addr} {od26 an26 : Option Addr} {sl26 : Array (Option Value)} {oc26 kV26 dc26 pm26 cd26 ct26 : Value}
    {f27 : Addr} {od27 an27 : Option Addr} {sl27 : Array (Option Value)} {oc27 kV27 dc27 pm27 cd27 ct27 : Value}
    {f28 : Addr} {od28 an28 : Option Addr} {sl28 : Array (Option Value)} {oc28 kV28 dc28 pm28 cd28 ct28 : Value}
    {f29 : Addr} {od29 an29 : Option Addr} {sl29 : Array (Option Value)} {oc29 kV29 dc29 pm29 cd29 ct29 : Value}
    {f30 : Addr} {od30 an30 : Option Addr} {sl30 : Array (Option Value)} {oc30 kV30 dc30 pm30 cd30 ct30 : Value}
    {f31 : Addr} {od31 an31 : Option Addr} {sl31 : Array (Option Value)} {oc31 kV31 dc31 pm31 cd31 ct31 : Value}
    {f32 : Addr} {od32 an32 : Option Addr} {sl32 : Array (Option Value)} {oc32 kV32 dc32 pm32 cd32 ct32 : Value}
    {f33 : Addr} {od33 an33 : Option Addr} {sl33 : Array (Option Value)} {oc33 kV33 dc33 pm33 cd33 ct33 : Value}
    {f34 : Addr} {od34 an34 : Option Addr} {sl34 : Array (Option Value)} {oc34 kV34 dc34 pm34 cd34 ct34 : Value}
    {f35 : Addr} {od35 an35 : Option Addr} {sl35 : Array (Option Value)} {oc35 kV35 dc35 pm35 cd35 ct35 : Value}
    {t0 : Tok}
    {t1 : Tok}
    {t2 : Tok}
    {t3 : Tok}
    {t4 : Tok}
    {t5 : Tok}
    {t6 : Tok}
    {t7 : Tok}
    {t21 : Addr} {es21 : Array DictEntry} {n21 : Nat}
    {t22 : Addr} {es22 : Array DictEntry} {n22 : Nat}
    (a0 : PySem.W.nsIn K mainGlobals "_law_deck" = some (some (.ref f0))) (l0 : K.lookup f0 = some ⟨oc0, od0, .func (PySem.W.fnOf "_law_deck" "_law_deck" (defArgs s__law_deck) (defBody s__law_deck) (defScope s__law_deck) .none kV0 dc0 pm0 an0 cd0 ct0), sl0⟩) (c0 : PySem.W.codeIn K cd0 "_law_deck" = true) (k0 : PySem.W.keepIn K (.ref f0) = true)
    (a1 : PySem.W.nsIn K mainGlobals "_law_take" = some (some (.ref f1))) (l1 : K.lookup f1 = some ⟨oc1, od1, .func (PySem.W.fnOf "_law_take" "_law_take" (defArgs s__law_take) (defBody s__law_take) (defScope s__law_take) .none kV1 dc1 pm1 an1 cd1 ct1), sl1⟩) (c1 : PySem.W.codeIn K cd1 "_law_take" = true) (k1 : PySem.W.keepIn K (.ref f1) = true)
    (a2 : PySem.W.nsIn K mainGlobals "_law_amount" = some (some (.ref f2))) (l2 : K.lookup f2 = some ⟨oc2, od2, .func (PySem.W.fnOf "_law_amount" "_law_amount" (defArgs s__law_amount) (defBody s__law_amount) (defScope s__law_amount) .none kV2 dc2 pm2 an2 cd2 ct2), sl2⟩) (c2 : PySem.W.codeIn K cd2 "_law_amount" = true) (k2 : PySem.W.keepIn K (.ref f2) = true)
    (a3 : PySem.W.nsIn K mainGlobals "_law_built_move" = some (some (.ref f3))) (l3 : K.lookup f3 = some ⟨oc3, od3, .func (PySem.W.fnOf "_law_built_move" "_law_built_move" (defArgs s__law_built_move) (defBody s__law_built_move) (defScope s__law_built_move) .none kV3 dc3 pm3 an3 cd3 ct3), sl3⟩) (c3 : PySem.W.codeIn K cd3 "_law_built_move" = true) (k3 : PySem.W.keepIn K (.ref f3) = true)
    (a4 : PySem.W.nsIn K mainGlobals "_law_built_log" = some (some (.ref f4))) (l4 : K.lookup f4 = some ⟨oc4, od4, .func (PySem.W.fnOf "_law_built_log" "_law_built_log" (defArgs s__law_built_log) (defBody s__law_built_log) (defScope s__law_built_log) .none kV4 dc4 pm4 an4 cd4 ct4), sl4⟩) (c4 : PySem.W.codeIn K cd4 "_law_built_log" = true) (k4 : PySem.W.keepIn K (.ref f4) = true)
    (a5 : PySem.W.nsIn K mainGlobals "move_word" = some (some (.ref f5))) (l5 : K.lookup f5 = some ⟨oc5, od5, .func (PySem.W.fnOf "move_word" "move_word" (defArgs s_move_word) (defBody s_move_word) (defScope s_move_word) .none kV5 dc5 pm5 an5 cd5 ct5), sl5⟩) (c5 : PySem.W.codeIn K cd5 "move_word" = true) (k5 : PySem.W.keepIn K (.ref f5) = true)
    (a6 : PySem.W.nsIn K mainGlobals "log_words" = some (some (.ref f6))) (l6 : K.lookup f6 = some ⟨oc6, od6, .func (PySem.W.fnOf "log_words" "log_words" (defArgs s_log_words) (defBody s_log_words) (defScope s_log_words) .none kV6 dc6 pm6 an6 cd6 ct6), sl6⟩) (c6 : PySem.W.codeIn K cd6 "log_words" = true) (k6 : PySem.W.keepIn K (.ref f6) = true)
    (a7 : PySem.W.nsIn K mainGlobals "log_text" = some (some (.ref f7))) (l7 : K.lookup f7 = some ⟨oc7, od7, .func (PySem.W.fnOf "log_text" "log_text" (defArgs s_log_text) (defBody s_log_text) (defScope s_log_text) .none kV7 dc7 pm7 an7 cd7 ct7), sl7⟩) (c7 : PySem.W.codeIn K cd7 "log_text" = true) (k7 : PySem.W.keepIn K (.ref f7) = true)
    (a8 : PySem.W.nsIn K mainGlobals "is_integer" = some (some (.ref f8))) (l8 : K.lookup f8 = some ⟨oc8, od8, .func (PySem.W.fnOf "is_integer" "is_integer" (defArgs s_is_integer) (defBody s_is_integer) (defScope s_is_integer) .none kV8 dc8 pm8 an8 cd8 ct8), sl8⟩) (c8 : PySem.W.codeIn K cd8 "is_integer" = true) (k8 : PySem.W.keepIn K (.ref f8) = true)
    (a9 : PySem.W.nsIn K mainGlobals "is_within" = some (some (.ref f9))) (l9 : K.lookup f9 = some ⟨oc9, od9, .func (PySem.W.fnOf "is_within" "is_within" (defArgs s_is_within) (defBody s_is_within) (defScope s_is_within) .none kV9 dc9 pm9 an9 cd9 ct9), sl9⟩) (c9 : PySem.W.codeIn K cd9 "is_within" = true) (k9 : PySem.W.keepIn K (.ref f9) = true)
    (a10 : PySem.W.nsIn K mainGlobals "is_rounds" = some (some (.ref f10))) (l10 : K.lookup f10 = some ⟨oc10, od10, .func (PySem.W.fnOf "is_rounds" "is_rounds" (defArgs s_is_rounds) (defBody s_is_rounds) (defScope s_is_rounds) .none kV10 dc10 pm10 an10 cd10 ct10), sl10⟩) (c10 : PySem.W.codeIn K cd10 "is_rounds" = true) (k10 : PySem.W.keepIn K (.ref f10) = true)
    (a11 : PySem.W.nsIn K mainGlobals "is_way" = some (some (.ref f11))) (l11 : K.lookup f11 = some ⟨oc11, od11, .func (PySem.W.fnOf "is_way" "is_way" (defArgs s_is_way) (defBody s_is_way) (defScope s_is_way) .none kV11 dc11 pm11 an11 cd11 ct11), sl11⟩) (c11 : PySem.W.codeIn K cd11 "is_way" = true) (k11 : PySem.W.keepIn K (.ref f11) = true)
    (a12 : PySem.W.nsIn K mainGlobals "is_aboard" = some (some (.ref f12))) (l12 : K.lookup f12 = some ⟨oc12, od12, .func (PySem.W.fnOf "is_aboard" "is_aboard" (defArgs s_is_aboard) (defBody s_is_aboard) (defScope s_is_aboard) .none kV12 dc12 pm12 an12 cd12 ct12), sl12⟩) (c12 : PySem.W.codeIn K cd12 "is_aboard" = true) (k12 : PySem.W.keepIn K (.ref f12) = true)
    (a13 : PySem.W.nsIn K mainGlobals "is_built_move" = some (some (.ref f13))) (l13 : K.lookup f13 = some ⟨oc13, od13, .func (PySem.W.fnOf "is_built_move" "is_built_move" (defArgs s_is_built_move) (defBody s_is_built_move) (defScope s_is_built_move) .none kV13 dc13 pm13 an13 cd13 ct13), sl13⟩) (c13 : PySem.W.codeIn K cd13 "is_built_move" = true) (k13 : PySem.W.keepIn K (.ref f13) = true)
    (a14 : PySem.W.nsIn K mainGlobals "written_in" = some (some (.ref f14))) (l14 : K.lookup f14 = some ⟨oc14, od14, .func (PySem.W.fnOf "written_in" "written_in" (defArgs s_written_in) (defBody s_written_in) (defScope s_written_in) .none kV14 dc14 pm14 an14 cd14 ct14), sl14⟩) (c14 : PySem.W.codeIn K cd14 "written_in" = true) (k14 : PySem.W.keepIn K (.ref f14) = true)
    (a15 : PySem.W.nsIn K mainGlobals "check_built" = some (some (.ref f15))) (l15 : K.lookup f15 = some ⟨oc15, od15, .func (PySem.W.fnOf "check_built" "check_built" (defArgs s_check_built) (defBody s_check_built) (defScope s_check_built) .none kV15 dc15 pm15 an15 cd15 ct15), sl15⟩) (c15 : PySem.W.codeIn K cd15 "check_built" = true) (k15 : PySem.W.keepIn K (.ref f15) = true)
    (a16 : PySem.W.nsIn K mainGlobals "number_in" = some (some (.ref f16))) (l16 : K.lookup f16 = some ⟨oc16, od16, .func (PySem.W.fnOf "number_in" "number_in" (defArgs s_number_in) (defBody s_number_in) (defScope s_number_in) .none kV16 dc16 pm16 an16 cd16 ct16), sl16⟩) (c16 : PySem.W.codeIn K cd16 "number_in" = true) (k16 : PySem.W.keepIn K (.ref f16) = true)
    (a17 : PySem.W.nsIn K mainGlobals "times_in" = some (some (.ref f17))) (l17 : K.lookup f17 = some ⟨oc17, od17, .func (PySem.W.fnOf "times_in" "times_in" (defArgs s_times_in) (defBody s_times_in) (defScope s_times_in) .none kV17 dc17 pm17 an17 cd17 ct17), sl17⟩) (c17 : PySem.W.codeIn K cd17 "times_in" = true) (k17 : PySem.W.keepIn K (.ref f17) = true)
    (a18 : PySem.W.nsIn K mainGlobals "pair_in" = some (some (.ref f18))) (l18 : K.lookup f18 = some ⟨oc18, od18, .func (PySem.W.fnOf "pair_in" "pair_in" (defArgs s_pair_in) (defBody s_pair_in) (defScope s_pair_in) .none kV18 dc18 pm18 an18 cd18 ct18), sl18⟩) (c18 : PySem.W.codeIn K cd18 "pair_in" = true) (k18 : PySem.W.keepIn K (.ref f18) = true)
    (a19 : PySem.W.nsIn K mainGlobals "move_in" = some (some (.ref f19))) (l19 : K.lookup f19 = some ⟨oc19, od19, .func (PySem.W.fnOf "move_in" "move_in" (defArgs s_move_in) (defBody s_move_in) (defScope s_move_in) .none kV19 dc19 pm19 an19 cd19 ct19), sl19⟩) (c19 : PySem.W.codeIn K cd19 "move_in" = true) (k19 : PySem.W.keepIn K (.ref f19) = true)
    (a20 : PySem.W.nsIn K mainGlobals "check_text" = some (some (.ref f20))) (l20 : K.lookup f20 = some ⟨oc20, od20, .func (PySem.W.fnOf "check_text" "check_text" (defArgs s_check_text) (defBody s_check_text) (defScope s_check_text) .none kV20 dc20 pm20 an20 cd20 ct20), sl20⟩) (c20 : PySem.W.codeIn K cd20 "check_text" = true) (k20 : PySem.W.keepIn K (.ref f20) = true)
    (a21 : PySem.W.nsIn K mainGlobals "read_log" = some (some (.ref f21))) (l21 : K.lookup f21 = some ⟨oc21, od21, .func (PySem.W.fnOf "read_log" "read_log" (defArgs s_read_log) (defBody s_read_log) (defScope s_read_log) .none kV21 dc21 pm21 an21 cd21 ct21), sl21⟩) (c21 : PySem.W.codeIn K cd21 "read_log" = true) (k21 : PySem.W.keepIn K (.ref f21) = true)
    (a22 : PySem.W.nsIn K mainGlobals "_law_like" = some (some (.ref f22))) (l22 : K.lookup f22 = some ⟨oc22, od22, .func (PySem.W.fnOf "_law_like" "_law_like" (defArgs s__law_like) (defBody s__law_like) (defScope s__law_like) .none kV22 dc22 pm22 an22 cd22 ct22), sl22⟩) (c22 : PySem.W.codeIn K cd22 "_law_like" = true) (k22 : PySem.W.keepIn K (.ref f22) = true)
    (a23 : PySem.W.nsIn K mainGlobals "_law_move_word" = some (some (.ref f23))) (l23 : K.lookup f23 = some ⟨oc23, od23, .func (PySem.W.fnOf "_law_move_word" "_law_move_word" (defArgs s__law_move_word) (defBody s__law_move_word) (defScope s__law_move_word) .none kV23 dc23 pm23 an23 cd23 ct23), sl23⟩) (c23 : PySem.W.codeIn K cd23 "_law_move_word" = true) (k23 : PySem.W.keepIn K (.ref f23) = true)
    (a24 : PySem.W.nsIn K mainGlobals "_law_log_text" = some (some (.ref f24))) (l24 : K.lookup f24 = some ⟨oc24, od24, .func (PySem.W.fnOf "_law_log_text" "_law_log_text" (defArgs s__law_log_text) (defBody s__law_log_text) (defScope s__law_log_text) .none kV24 dc24 pm24 an24 cd24 ct24), sl24⟩) (c24 : PySem.W.codeIn K cd24 "_law_log_text" = true) (k24 : PySem.W.keepIn K (.ref f24) = true)
    (a25 : PySem.W.nsIn K mainGlobals "count_of" = some (some (.ref f25))) (l25 : K.lookup f25 = some ⟨oc25, od25, .func (PySem.W.fnOf "count_of" "count_of" (defArgs s_count_of) (defBody s_count_of) (defScope s_count_of) .none kV25 dc25 pm25 an25 cd25 ct25), sl25⟩) (c25 : PySem.W.codeIn K cd25 "count_of" = true) (k25 : PySem.W.keepIn K (.ref f25) = true)
    (a26 : PySem.W.nsIn K mainGlobals "length_of" = some (some (.ref f26))) (l26 : K.lookup f26 = some ⟨oc26, od26, .func (PySem.W.fnOf "length_of" "length_of" (defArgs s_length_of) (defBody s_length_of) (defScope s_length_of) .none kV26 dc26 pm26 an26 cd26 ct26), sl26⟩) (c26 : PySem.W.codeIn K cd26 "length_of" = true) (k26 : PySem.W.keepIn K (.ref f26) = true)
    (a27 : PySem.W.nsIn K mainGlobals "_law_length" = some (some (.ref f27))) (l27 : K.lookup f27 = some ⟨oc27, od27, .func (PySem.W.fnOf "_law_length" "_law_length" (defArgs s__law_length) (defBody s__law_length) (defScope s__law_length) .none kV27 dc27 pm27 an27 cd27 ct27), sl27⟩) (c27 : PySem.W.codeIn K cd27 "_law_length" = true) (k27 : PySem.W.keepIn K (.ref f27) = true)
    (a28 : PySem.W.nsIn K mainGlobals "_law_digits" = some (some (.ref f28))) (l28 : K.lookup f28 = some ⟨oc28, od28, .func (PySem.W.fnOf "_law_digits" "_law_digits" (defArgs s__law_digits) (defBody s__law_digits) (defScope s__law_digits) .none kV28 dc28 pm28 an28 cd28 ct28), sl28⟩) (c28 : PySem.W.codeIn K cd28 "_law_digits" = true) (k28 : PySem.W.keepIn K (.ref f28) = true)
    (a29 : PySem.W.nsIn K mainGlobals "_law_word_move" = some (some (.ref f29))) (l29 : K.lookup f29 = some ⟨oc29, od29, .func (PySem.W.fnOf "_law_word_move" "_law_word_move" (defArgs s__law_word_move) (defBody s__law_word_move) (defScope s__law_word_move) .none kV29 dc29 pm29 an29 cd29 ct29), sl29⟩) (c29 : PySem.W.codeIn K cd29 "_law_word_move" = true) (k29 : PySem.W.keepIn K (.ref f29) = true)
    (a30 : PySem.W.nsIn K mainGlobals "_law_is_whole" = some (some (.ref f30))) (l30 : K.lookup f30 = some ⟨oc30, od30, .func (PySem.W.fnOf "_law_is_whole" "_law_is_whole" (defArgs s__law_is_whole) (defBody s__law_is_whole) (defScope s__law_is_whole) .none kV30 dc30 pm30 an30 cd30 ct30), sl30⟩) (c30 : PySem.W.codeIn K cd30 "_law_is_whole" = true) (k30 : PySem.W.keepIn K (.ref f30) = true)
    (a31 : PySem.W.nsIn K mainGlobals "_law_is_load" = some (some (.ref f31))) (l31 : K.lookup f31 = some ⟨oc31, od31, .func (PySem.W.fnOf "_law_is_load" "_law_is_load" (defArgs s__law_is_load) (defBody s__law_is_load) (defScope s__law_is_load) .none kV31 dc31 pm31 an31 cd31 ct31), sl31⟩) (c31 : PySem.W.codeIn K cd31 "_law_is_load" = true) (k31 : PySem.W.keepIn K (.ref f31) = true)
    (a32 : PySem.W.nsIn K mainGlobals "_law_is_built" = some (some (.ref f32))) (l32 : K.lookup f32 = some ⟨oc32, od32, .func (PySem.W.fnOf "_law_is_built" "_law_is_built" (defArgs s__law_is_built) (defBody s__law_is_built) (defScope s__law_is_built) .none kV32 dc32 pm32 an32 cd32 ct32), sl32⟩) (c32 : PySem.W.codeIn K cd32 "_law_is_built" = true) (k32 : PySem.W.keepIn K (.ref f32) = true)
    (a33 : PySem.W.nsIn K mainGlobals "_law_is_right_log" = some (some (.ref f33))) (l33 : K.lookup f33 = some ⟨oc33, od33, .func (PySem.W.fnOf "_law_is_right_log" "_law_is_right_log" (defArgs s__law_is_right_log) (defBody s__law_is_right_log) (defScope s__law_is_right_log) .none kV33 dc33 pm33 an33 cd33 ct33), sl33⟩) (c33 : PySem.W.codeIn K cd33 "_law_is_right_log" = true) (k33 : PySem.W.keepIn K (.ref f33) = true)
    (a34 : PySem.W.nsIn K mainGlobals "_law_read_log" = some (some (.ref f34))) (l34 : K.lookup f34 = some ⟨oc34, od34, .func (PySem.W.fnOf "_law_read_log" "_law_read_log" (defArgs s__law_read_log) (defBody s__law_read_log) (defScope s__law_read_log) .none kV34 dc34 pm34 an34 cd34 ct34), sl34⟩) (c34 : PySem.W.codeIn K cd34 "_law_read_log" = true) (k34 : PySem.W.keepIn K (.ref f34) = true)
    (a35 : PySem.W.nsIn K mainGlobals "law" = some (some (.ref f35))) (l35 : K.lookup f35 = some ⟨oc35, od35, .func (PySem.W.fnOf "law" "law" (defArgs s_law) (defBody s_law) (defScope s_law) .none kV35 dc35 pm35 an35 cd35 ct35), sl35⟩) (c35 : PySem.W.codeIn K cd35 "law" = true) (k35 : PySem.W.keepIn K (.ref f35) = true)
    (z0 : PySem.W.nsIn K mainGlobals "DIGITS" = some (some (.str "0123456789" t0)))
    (z1 : PySem.W.nsIn K mainGlobals "DOWN" = some (some (.int (-1) t1)))
    (z2 : PySem.W.nsIn K mainGlobals "MOST_DEPTH" = some (some (.int 3 t2)))
    (z3 : PySem.W.nsIn K mainGlobals "MOST_DIGITS" = some (some (.int 31 t3)))
    (z4 : PySem.W.nsIn K mainGlobals "MOST_TIMES" = some (some (.int 1000000000000000000000000000000 t4)))
    (z5 : PySem.W.nsIn K mainGlobals "MOST_WRITTEN" = some (some (.int 200 t5)))
    (z6 : PySem.W.nsIn K mainGlobals "TIMES" = some (some (.str "times" t6)))
    (z7 : PySem.W.nsIn K mainGlobals "UP" = some (some (.int 1 t7)))
    (z8 : PySem.W.nsIn K mainGlobals "abs" = some none)
    (z9 : PySem.W.nsIn K mainGlobals "all" = some none)
    (z10 : PySem.W.nsIn K mainGlobals "bool" = some none)
    (z11 : PySem.W.nsIn K mainGlobals "enumerate" = some none)
    (z12 : PySem.W.nsIn K mainGlobals "int" = some none)
    (z13 : PySem.W.nsIn K mainGlobals "isinstance" = some none)
    (z14 : PySem.W.nsIn K mainGlobals "len" = some none)
    (z15 : PySem.W.nsIn K mainGlobals "list" = some none)
    (z16 : PySem.W.nsIn K mainGlobals "range" = some none)
    (z17 : PySem.W.nsIn K mainGlobals "sorted" = some none)
    (z18 : PySem.W.nsIn K mainGlobals "str" = some none)
    (z19 : PySem.W.nsIn K mainGlobals "tuple" = some none)
    (z20 : PySem.W.nsIn K mainGlobals "zip" = some none)
    (z21 : PySem.W.nsIn K mainGlobals "SIGNS" = some (some (.ref t21))) (y21 : K.lookup t21 = some ⟨.type "dict", none, .dict es21 n21, #[]⟩) (x21 : WTabL w es21.toList t_SIGNS) (v21 : (t21 == sysModules) = false)
    (z22 : PySem.W.nsIn K mainGlobals "WAYS" = some (some (.ref t22))) (y22 : K.lookup t22 = some ⟨.type "dict", none, .dict es22 n22, #[]⟩) (x22 : WTabL w es22.toList t_WAYS) (v22 : (t22 == sysModules) = false) :
    Glob w K mg ∧ Tops K mg ∧ ∃ fd : FuncData, (∀ (s : Shared) (v : Value), BindsTo s fd ⟨[v], []⟩ [("_law_script", v)]) ∧ Fun K "law" "law" s_law fa fd := by
  have e := hfa.symm.trans (PySem.W.mg_of X G a35)
  cases e
  refine ⟨{ k_DIGITS := ⟨_, PySem.W.mg_of X G z0⟩, k_DOWN := ⟨_, PySem.W.mg_of X G z1⟩, k_MOST_DEPTH := ⟨_, PySem.W.mg_of X G z2⟩, k_MOST_DIGITS := ⟨_, PySem.W.mg_of X G z3⟩, k_MOST_TIMES := ⟨_, PySem.W.mg_of X G z4⟩, k_MOST_WRITTEN := ⟨_, PySem.W.mg_of X G z5⟩, k_TIMES := ⟨_, PySem.W.mg_of X G z6⟩, k_UP := ⟨_, PySem.W.mg_of X G z7⟩, n_abs := PySem.W.mg_none_of X G z8, n_all := PySem.W.mg_none_of X G z9, n_bool := PySem.W.mg_none_of X G z10, n_enumerate := PySem.W.mg_none_of X G z11, n_int := PySem.W.mg_none_of X G z12, n_isinstance := PySem.W.mg_none_of X G z13, n_len := PySem.W.mg_none_of X G z14, n_list := PySem.W.mg_none_of X G z15, n_range := PySem.W.mg_none_of X G z16, n_sorted := PySem.W.mg_none_of X G z17, n_str := PySem.W.mg_none_of X G z18, n_tuple := PySem.W.mg_none_of X G z19, n_zip := PySem.W.mg_none_of X G z20, w_SIGNS := ⟨_, PySem.W.mg_of X G z21, ⟨⟨_, _, y21, x21⟩, v21⟩⟩, w_WAYS := ⟨_, PySem.W.mg_of X G z22, ⟨⟨_, _, y22, x22⟩, v22⟩⟩ }, { d__law_deck := ⟨_, _, PySem.W.mg_of X G a0, k0, (fun_mk (st := s__law_deck) l0 c0 k0).binds (ps := ["_law_script"]) fun _ _ _ _ _ _ us hl => match us, hl with | [_], _ => rfl, fun_mk (st := s__law_deck) l0 c0 k0⟩, d__law_take := ⟨_, _, PySem.W.mg_of X G a1, k1, (fun_mk (st := s__law_take) l1 c1 k1).binds (ps := ["_law_deck_here", "_law_many"]) fun _ _ _ _ _ _ us hl => match us, hl with | [_, _], _ => rfl, fun_mk (st := s__law_take) l1 c1 k1⟩, d__law_amount := ⟨_, _, PySem.W.mg_of X G a2, k2, (fun_mk (st := s__law_amount) l2 c2 k2).binds (ps := ["_law_deck_here"]) fun _ _ _ _ _ _ us hl => match us, hl with | [_], _ => rfl, fun_mk (st := s__law_amount) l2 c2 k2⟩, d__law_built_move := ⟨_, _, PySem.W.mg_of X G a3, k3, (fun_mk (st := s__law_built_move) l3 c3 k3).binds (ps := ["_law_deck_here"]) fun _ _ _ _ _ _ us hl => match us, hl with | [_], _ => rfl, fun_mk (st := s__law_built_move) l3 c3 k3⟩, d__law_built_log := ⟨_, _, PySem.W.mg_of X G a4, k4, (fun_mk (st := s__law_built_log) l4 c4 k4).binds (ps := ["_law_deck_here", "_law_deep", "_law_most"]) fun _ _ _ _ _ _ us hl => match us, hl with | [_, _, _], _ => rfl, fun_mk (st := s__law_built_log) l4 c4 k4⟩, d_move_word := ⟨_, _, PySem.W.mg_of X G a5, k5, (fun_mk (st := s_move_word) l5 c5 k5).binds (ps := ["move"]) fun _ _ _ _ _ _ us hl => match us, hl with | [_], _ => rfl, fun_mk (st := s_move_word) l5 c5 k5⟩, d_log_words := ⟨_, _, PySem.W.mg_of X G a6, k6, (fun_mk (st := s_log_words) l6 c6 k6).binds (ps := ["log"]) fun _ _ _ _ _ _ us hl => match us, hl with | [_], _ => rfl, fun_mk (st := s_log_words) l6 c6 k6⟩, d_log_text := ⟨_, _, PySem.W.mg_of X G a7, k7, (fun_mk (st := s_log_text) l7 c7 k7).binds (ps := ["log"]) fun _ _ _ _ _ _ us hl => match us, hl with | [_], _ => rfl, fun_mk (st := s_log_text) l7 c7 k7⟩, d_is_integer := ⟨_, _, PySem.W.mg_of X G a8, k8, (fun_mk (st := s_is_integer) l8 c8 k8).binds (ps := ["thing"]) fun _ _ _ _ _ _ us hl => match us, hl with | [_], _ => rfl, fun_mk (st := s_is_integer) l8 c8 k8⟩, d_is_within := ⟨_, _, PySem.W.mg_of X G a9, k9, (fun_mk (st := s_is_within) l9 c9 k9).binds (ps := ["thing", "least", "most"]) fun _ _ _ _ _ _ us hl => match us, hl with | [_, _, _], _ => rfl, fun_mk (st := s_is_within) l9 c9 k9⟩, d_is_rounds := ⟨_, _, PySem.W.mg_of X G a10, k10, (fun_mk (st := s_is_rounds) l10 c10 k10).binds (ps := ["thing"]) fun _ _ _ _ _ _ us hl => match us, hl with | [_], _ => rfl, fun_mk (st := s_is_rounds) l10 c10 k10⟩, d_is_way := ⟨_, _, PySem.W.mg_of X G a11, k11, (fun_mk (st := s_is_way) l11 c11 k11).binds (ps := ["thing"]) fun _ _ _ _ _ _ us hl => match us, hl with | [_], _ => rfl, fun_mk (st := s_is_way) l11 c11 k11⟩, d_is_aboard := ⟨_, _, PySem.W.mg_of X G a12, k12, (fun_mk (st := s_is_aboard) l12 c12 k12).binds (ps := ["thing"]) fun _ _ _ _ _ _ us hl => match us, hl with | [_], _ => rfl, fun_mk (st := s_is_aboard) l12 c12 k12⟩, d_is_built_move := ⟨_, _, PySem.W.mg_of X G a13, k13, (fun_mk (st := s_is_built_move) l13 c13 k13).binds (ps := ["thing"]) fun _ _ _ _ _ _ us hl => match us, hl with | [_], _ => rfl, fun_mk (st := s_is_built_move) l13 c13 k13⟩, d_written_in := ⟨_, _, PySem.W.mg_of X G a14, k14, (fun_mk (st := s_written_in) l14 c14 k14).binds (ps := ["thing"]) fun _ _ _ _ _ _ us hl => match us, hl with | [_], _ => rfl, fun_mk (st := s_written_in) l14 c14 k14⟩, d_check_built := ⟨_, _, PySem.W.mg_of X G a15, k15, (fun_mk (st := s_check_built) l15 c15 k15).binds (ps := ["log"]) fun _ _ _ _ _ _ us hl => match us, hl with | [_], _ => rfl, fun_mk (st := s_check_built) l15 c15 k15⟩, d_number_in := ⟨_, _, PySem.W.mg_of X G a16, k16, (fun_mk (st := s_number_in) l16 c16 k16).binds (ps := ["word"]) fun _ _ _ _ _ _ us hl => match us, hl with | [_], _ => rfl, fun_mk (st := s_number_in) l16 c16 k16⟩, d_times_in := ⟨_, _, PySem.W.mg_of X G a17, k17, (fun_mk (st := s_times_in) l17 c17 k17).binds (ps := ["word"]) fun _ _ _ _ _ _ us hl => match us, hl with | [_], _ => rfl, fun_mk (st := s_times_in) l17 c17 k17⟩, d_pair_in := ⟨_, _, PySem.W.mg_of X G a18, k18, (fun_mk (st := s_pair_in) l18 c18 k18).binds (ps := ["word"]) fun _ _ _ _ _ _ us hl => match us, hl with | [_], _ => rfl, fun_mk (st := s_pair_in) l18 c18 k18⟩, d_move_in := ⟨_, _, PySem.W.mg_of X G a19, k19, (fun_mk (st := s_move_in) l19 c19 k19).binds (ps := ["word"]) fun _ _ _ _ _ _ us hl => match us, hl with | [_], _ => rfl, fun_mk (st := s_move_in) l19 c19 k19⟩, d_check_text := ⟨_, _, PySem.W.mg_of X G a20, k20, (fun_mk (st := s_check_text) l20 c20 k20).binds (ps := ["text"]) fun _ _ _ _ _ _ us hl => match us, hl with | [_], _ => rfl, fun_mk (st := s_check_text) l20 c20 k20⟩, d_read_log := ⟨_, _, PySem.W.mg_of X G a21, k21, (fun_mk (st := s_read_log) l21 c21 k21).binds (ps := ["text"]) fun _ _ _ _ _ _ us hl => match us, hl with | [_], _ => rfl, fun_mk (st := s_read_log) l21 c21 k21⟩, d__law_like := ⟨_, _, PySem.W.mg_of X G a22, k22, (fun_mk (st := s__law_like) l22 c22 k22).binds (ps := ["_law_told", "_law_due"]) fun _ _ _ _ _ _ us hl => match us, hl with | [_, _], _ => rfl, fun_mk (st := s__law_like) l22 c22 k22⟩, d__law_move_word := ⟨_, _, PySem.W.mg_of X G a23, k23, (fun_mk (st := s__law_move_word) l23 c23 k23).binds (ps := ["_law_move"]) fun _ _ _ _ _ _ us hl => match us, hl with | [_], _ => rfl, fun_mk (st := s__law_move_word) l23 c23 k23⟩, d__law_log_text := ⟨_, _, PySem.W.mg_of X G a24, k24, (fun_mk (st := s__law_log_text) l24 c24 k24).binds (ps := ["_law_log"]) fun _ _ _ _ _ _ us hl => match us, hl with | [_], _ => rfl, fun_mk (st := s__law_log_text) l24 c24 k24⟩, d_count_of := ⟨_, _, PySem.W.mg_of X G a25, k25, (fun_mk (st := s_count_of) l25 c25 k25).binds (ps := ["log"]) fun _ _ _ _ _ _ us hl => match us, hl with | [_], _ => rfl, fun_mk (st := s_count_of) l25 c25 k25⟩, d_length_of := ⟨_, _, PySem.W.mg_of X G a26, k26, (fun_mk (st := s_length_of) l26 c26 k26).binds (ps := ["log"]) fun _ _ _ _ _ _ us hl => match us, hl with | [_], _ => rfl, fun_mk (st := s_length_of) l26 c26 k26⟩, d__law_length := ⟨_, _, PySem.W.mg_of X G a27, k27, (fun_mk (st := s__law_length) l27 c27 k27).binds (ps := ["_law_log"]) fun _ _ _ _ _ _ us hl => match us, hl with | [_], _ => rfl, fun_mk (st := s__law_length) l27 c27 k27⟩, d__law_digits := ⟨_, _, PySem.W.mg_of X G a28, k28, (fun_mk (st := s__law_digits) l28 c28 k28).binds (ps := ["_law_word"]) fun _ _ _ _ _ _ us hl => match us, hl with | [_], _ => rfl, fun_mk (st := s__law_digits) l28 c28 k28⟩, d__law_word_move := ⟨_, _, PySem.W.mg_of X G a29, k29, (fun_mk (st := s__law_word_move) l29 c29 k29).binds (ps := ["_law_word"]) fun _ _ _ _ _ _ us hl => match us, hl with | [_], _ => rfl, fun_mk (st := s__law_word_move) l29 c29 k29⟩, d__law_is_whole := ⟨_, _, PySem.W.mg_of X G a30, k30, (fun_mk (st := s__law_is_whole) l30 c30 k30).binds (ps := ["_law_thing"]) fun _ _ _ _ _ _ us hl => match us, hl with | [_], _ => rfl, fun_mk (st := s__law_is_whole) l30 c30 k30⟩, d__law_is_load := ⟨_, _, PySem.W.mg_of X G a31, k31, (fun_mk (st := s__law_is_load) l31 c31 k31).binds (ps := ["_law_thing"]) fun _ _ _ _ _ _ us hl => match us, hl with | [_], _ => rfl, fun_mk (st := s__law_is_load) l31 c31 k31⟩, d__law_is_built := ⟨_, _, PySem.W.mg_of X G a32, k32, (fun_mk (st := s__law_is_built) l32 c32 k32).binds (ps := ["_law_thing"]) fun _ _ _ _ _ _ us hl => match us, hl with | [_], _ => rfl, fun_mk (st := s__law_is_built) l32 c32 k32⟩, d__law_is_right_log := ⟨_, _, PySem.W.mg_of X G a33, k33, (fun_mk (st := s__law_is_right_log) l33 c33 k33).binds (ps := ["_law_log"]) fun _ _ _ _ _ _ us hl => match us, hl with | [_], _ => rfl, fun_mk (st := s__law_is_right_log) l33 c33 k33⟩, d__law_read_log := ⟨_, _, PySem.W.mg_of X G a34, k34, (fun_mk (st := s__law_read_log) l34 c34 k34).binds (ps := ["_law_text"]) fun _ _ _ _ _ _ us hl => match us, hl with | [_], _ => rfl, fun_mk (st := s__law_read_log) l34 c34 k34⟩ }, ?_⟩
  exact ⟨_, fun s v => .of_eq rfl, fun_mk (st := s_law) l35 c35 k35⟩
section
variable {P : Program} {w : World} {K : PySem.W.Frag} {mg : Str → Option Value} {base : Heap} {cm : Str → Option Addr}
theorem cal_count (G : Glob w K mg) (T : Tops K mg) : ∀ n, Cal P w K mg base cm n "count_of" ["log"] [] 1 (Q_count_of n)
  | 0 => .zero T.d_count_of
  | n + 1 => ok_count_of G T.d_count_of (cal_count G T n)
theorem cal_length (G : Glob w K mg) (T : Tops K mg) : ∀ n, Cal P w K mg base cm n "_law_length" ["_law_log"] [] 1 (Q__law_length n)
  | 0 => .zero T.d__law_length
  | n + 1 => ok__law_length G T.d__law_length (cal_length G T n)
theorem cal_like (G : Glob w K mg) (T : Tops K mg) : ∀ n, Cal P w K mg base cm n "_law_like" ["_law_told", "_law_due"] [] 2 (Q__law_like n)
  | 0 => .zero T.d__law_like
  | n + 1 => ok__law_like G T.d__law_like (cal_like G T n)
theorem cal_words (G : Glob w K mg) (T : Tops K mg) : ∀ n, Cal P w K mg base cm (10 + n) "log_words" ["log"] [] 1 (Q_log_words n)
  | 0 => .zero T.d_log_words
  | n + 1 => ok_log_words G T.d_log_words (cal_words G T n) ((ok_move_word (k := 0) G T.d_move_word).mono (Nat.le_trans (by decide : 1 ≤ 10) (Nat.le_add_right 10 n)))
theorem cal_ltext (G : Glob w K mg) (T : Tops K mg) : ∀ n, Cal P w K mg base cm (10 + n) "_law_log_text" ["_law_log"] [] 1 (Q__law_log_text n)
  | 0 => .zero T.d__law_log_text
  | n + 1 => ok__law_log_text G T.d__law_log_text (cal_ltext G T n) ((ok__law_move_word (k := 0) G T.d__law_move_word).mono (Nat.le_trans (by decide : 1 ≤ 10) (Nat.le_add_right 10 n)))
theorem cal_take (G : Glob w K mg) (T : Tops K mg) : Cal P w K mg base cm 1 "_law_take" ["_law_deck_here", "_law_many"] [0] 2 F__law_take := ok__law_take (k := 0) G T.d__law_take
theorem cal_amount (G : Glob w K mg) (T : Tops K mg) : Cal P w K mg base cm 2 "_law_amount" ["_law_deck_here"] [0] 1 Q__law_amount := ok__law_amount (k := 1) G T.d__law_amount (cal_take G T)
theorem cal_bmove (G : Glob w K mg) (T : Tops K mg) : Cal P w K mg base cm 3 "_law_built_move" ["_law_deck_here"] [0] 1 Q__law_built_move := ok__law_built_move (k := 2) G T.d__law_built_move ((cal_take G T).mono (by decide)) (cal_amount G T)
theorem cal_blog (G : Glob w K mg) (T : Tops K mg) : ∀ n, Cal P w K mg base cm (10 + n) "_law_built_log" ["_law_deck_here", "_law_deep", "_law_most"] [0] 3 (Q__law_built_log n)
  | 0 => .zero T.d__law_built_log
  | n + 1 => ok__law_built_log G T.d__law_built_log ((cal_take G T).mono (Nat.le_trans (by decide : 1 ≤ 10) (Nat.le_add_right 10 n))) (cal_blog G T n) ((cal_bmove G T).mono (Nat.le_trans (by decide : 3 ≤ 10) (Nat.le_add_right 10 n))) ((cal_amount G T).mono (Nat.le_trans (by decide : 2 ≤ 10) (Nat.le_add_right 10 n)))
theorem cal_check (G : Glob w K mg) (T : Tops K mg) : Cal P w K mg base cm 6 "check_built" ["log"] [] 1 (Q_check_built FU) := by
  have c1 : Cal P w K mg base cm 1 "is_integer" ["thing"] [] 1 F_is_integer := ok_is_integer (k := 0) G T.d_is_integer
  have c2 := ok_is_within (k := 1) G T.d_is_within c1
  have c3 := ok_is_rounds (k := 2) G T.d_is_rounds c2
  have c4 := ok_is_way (k := 1) G T.d_is_way c1
  have c5 := ok_is_aboard (k := 1) G T.d_is_aboard c1
  have c6 := ok_is_built_move (k := 2) G T.d_is_built_move c4 c5
  have c7 := ok_written_in (k := 3) FU G T.d_written_in c3 c6
  exact (ok_check_built (k := 4) G T.d_check_built c7).mono (by decide)
theorem cal_read (G : Glob w K mg) (T : Tops K mg) : Cal P w K mg base cm 7 "read_log" ["text"] [] 1 (Q_read_log FU) := by
  have c1 : Cal P w K mg base cm 1 "number_in" ["word"] [] 1 F_number_in := ok_number_in (k := 0) G T.d_number_in
  have c2 := ok_times_in (k := 1) G T.d_times_in c1
  have c3 := ok_pair_in (k := 1) G T.d_pair_in c1
  have c4 := ok_move_in (k := 2) G T.d_move_in c3
  have c5 : Cal P w K mg base cm 1 "check_text" ["text"] [] 1 F_check_text := ok_check_text (k := 0) G T.d_check_text
  exact ok_read_log (k := 6) G T.d_read_log (c5.mono (by decide)) (c2.mono (by decide)) (c4.mono (by decide)) (cal_check G T)
theorem cal_lread (G : Glob w K mg) (T : Tops K mg) : Cal P w K mg base cm 6 "_law_read_log" ["_law_text"] [] 1 Q__law_read_log := by
  have c1 : Cal P w K mg base cm 1 "_law_digits" ["_law_word"] [] 1 F__law_digits := ok__law_digits (k := 0) G T.d__law_digits
  have c2 := ok__law_word_move (k := 1) G T.d__law_word_move c1
  have c3 : Cal P w K mg base cm 1 "_law_is_whole" ["_law_thing"] [] 1 F__law_is_whole := ok__law_is_whole (k := 0) G T.d__law_is_whole
  have c4 := ok__law_is_load (k := 1) G T.d__law_is_load c3
  have c5 := ok__law_is_built (k := 2) G T.d__law_is_built (c3.mono (by decide)) c4
  have c6 := ok__law_is_right_log (k := 3) G T.d__law_is_right_log c5
  exact (ok__law_read_log (k := 4) G T.d__law_read_log (c1.mono (by decide)) (c2.mono (by decide)) c6).mono (by decide)
theorem chain {fa : Addr} {fd : FuncData} (G : Glob w K mg) (T : Tops K mg) (Fn : Fun K "law" "law" s_law fa fd) : FnOk P w K mg base (L2.CX P w) 60 fa fd ["_law_script"] (spD ⟨K, cm⟩ [] 1 M_fin) := by
  have c1 : Cal P w K mg base cm 1 "_law_deck" ["_law_script"] [] 1 F__law_deck := ok__law_deck (k := 0) G T.d__law_deck
  have c2 := ok_log_text (k := 30) G T.d_log_text (cal_words (P := P) (base := base) (cm := cm) G T NN)
  have c3 := ok_length_of (k := 20) G T.d_length_of (cal_count (P := P) (base := base) (cm := cm) G T NN) ((cal_check G T).mono (by decide))
  exact fn_law (k := 59) G Fn (c1.mono (by decide)) (c2.mono (by decide)) ((cal_read G T).mono (by decide)) ((cal_blog G T NN).mono (by decide)) ((cal_take G T).mono (by decide)) ((cal_ltext G T NN).mono (by decide)) ((cal_like G T NN).mono (by decide)) ((cal_lread G T).mono (by decide)) (c3.mono (by decide)) ((cal_length G T NN).mono (by decide)) ((cal_amount G T).mono (by decide))
end
section
theorem hsp_of {K : PySem.W.Frag} {cm : Str → Option Addr} {M : List D → FRes} {H : Hp} {a : Addr} {ns : List Int} (hM : M [.frz (ns.map .int)] = .ok (.bl true) []) (hO : Only H) (hS : SqL K H a (ns.map V.int)) :
    spD ⟨K, cm⟩ [] 1 M [.ref a] H (fun v _ => v = .bl true) fun _ _ _ => False := by
  have fin : ∀ (Z : AP), (∀ b, Z b → ∃ o, H b = some o) → FrzAt ⟨K, cm⟩ Z H a (ns.map V.int) → spD ⟨K, cm⟩ [] 1 M [.ref a] H (fun v _ => v = .bl true) fun _ _ _ => False := fun Z zd h => by
    refine ⟨Z, [.frz (ns.map .int)], [[]], ?_, rfl, zd, ?_⟩
    · unfold ArgL
      refine ⟨_, [], [], [], rfl, rfl, ?_, (fun _ m => nomatch m), (fun _ m => nomatch m), ?_⟩
      · unfold Own
        exact ⟨rfl, a, _, rfl, h, (ints_own ns).1⟩
      · unfold ArgL
        exact ⟨rfl, rfl⟩
    · rw [hM]
      intro Z' H' v G Fo _ o _
      obtain ⟨rfl, _⟩ := Own.bl_iff.mp o
      rfl
  rcases hS with h | h
  · refine fin (fun b => b = a) (fun b e => ?_) (.inl ⟨rfl, h⟩)
    subst e
    rcases h with h | ⟨o, h⟩
    · exact ⟨_, h⟩
    · exact ⟨_, h⟩
  · exact fin (fun _ => False) (fun _ z => z.elim) (.inr (.inr h))
theorem cx_no {P : Program} {w : World} {H : Hp} {s s' : Shared} {e : Value} (h : L2.CX P w [] H s (fun _ _ _ => False) e s') : False := by
  obtain ⟨_, _, _, _, _, _, _, _, _, _, _, _, h⟩ := h
  exact h
theorem walk {l : PySem.W.OpenLaw} {q : Program} {loose : List Str} {XP : (Str → Option Value) → Heap → Prop} {YP : World → Heap → Prop} {d : DefRec} {K : Params → PySem.W.Frag} (hn : l.most = some 63) (hdf : d.params.defaults = []) (hd : d.name = "law")
    (hY : ∀ (w : World) (h : Heap), YP w h → (K w.params).In h)
    (F : ∀ (w : World) (mg : Str → Option Value) (fa : Addr) (h : Heap), (K w.params).In h → h.Ns mainGlobals mg → mg "law" = some (.ref fa) → Glob w (K w.params) mg ∧ Tops (K w.params) mg ∧ ∃ fd : FuncData, (∀ (s : Shared) (v : Value), BindsTo s fd ⟨[v], []⟩ [("_law_script", v)]) ∧ Fun (K w.params) "law" "law" s_law fa fd) :
    PySem.W.WalkO q loose XP YP l.row.toRowW d [] (fun f vs => PySem.call f vs) :=
  L2.walk_ofB (n := 63) (k := 60) (x := "_law_script") (CX := fun w => L2.CX l.prog w) (sp := fun w => spD ⟨K w.params, fun _ => none⟩ [] 1 M_fin) hn (by decide) hdf ⟨rfl, by decide, by decide⟩ hY
    (fun w mg fa h KX G hm => by
      rw [hd] at hm
      obtain ⟨g, t, fd, b, fn⟩ := F w mg fa h KX G hm
      exact ⟨fd, b, fun base _ _ => chain g t fn⟩)
    (fun w H a ns hl hb hO hS => hsp_of (good ns hl) hO hS) fun w H s e s' h => cx_no h
end
end DL
open PySem PySem.W PyProof.Rows
set_option maxRecDepth 100000 in
set_option maxHeartbeats 0 in
theorem PySem.Challenge.cw_willinglift_k85_whole_log_texts_there_an_holds : PySem.Challenge.rw_willinglift_k85_whole_log_texts_there_an.Holds := by
  w_on; o_law; k_head; (case hw => w_witness2)
  k_fill
  refine DL.walk (l := PySem.Challenge.rw_willinglift_k85_whole_log_texts_there_an) rfl rfl rfl (fun w h Y => PySem.W.kIn_of Y) ?F
  case F =>
    intro w mg fa h KX G hmg
    refine' DL.all_mk KX G hmg ?a0 ?l0 ?c0 ?k0 ?a1 ?l1 ?c1 ?k1 ?a2 ?l2 ?c2 ?k2 ?a3 ?l3 ?c3 ?k3 ?a4 ?l4 ?c4 ?k4 ?a5 ?l5 ?c5 ?k5 ?a6 ?l6 ?c6 ?k6 ?a7 ?l7 ?c7 ?k7 ?a8 ?l8 ?c8 ?k8 ?a9 ?l9 ?c9 ?k9 ?a10 ?l10 ?c10 ?k10 ?a11 ?l11 ?c11 ?k11 ?a12 ?l12 ?c12 ?k12 ?a13 ?l13 ?c13 ?k13 ?a14 ?l14 ?c14 ?k14 ?a15 ?l15 ?c15 ?k15 ?a16 ?l16 ?c16 ?k16 ?a17 ?l17 ?c17 ?k17 ?a18 ?l18 ?c18 ?k18 ?a19 ?l19 ?c19 ?k19 ?a20 ?l20 ?c20 ?k20 ?a21 ?l21 ?c21 ?k21 ?a22 ?l22 ?c22 ?k22 ?a23 ?l23 ?c23 ?k23 ?a24 ?l24 ?c24 ?k24 ?a25 ?l25 ?c25 ?k25 ?a26 ?l26 ?c26 ?k26 ?a27 ?l27 ?c27 ?k27 ?a28 ?l28 ?c28 ?k28 ?a29 ?l29 ?c29 ?k29 ?a30 ?l30 ?c30 ?k30 ?a31 ?l31 ?c31 ?k31 ?a32 ?l32 ?c32 ?k32 ?a33 ?l33 ?c33 ?k33 ?a34 ?l34 ?c34 ?k34 ?a35 ?l35 ?c35 ?k35 ?z0 ?z1 ?z2 ?z3 ?z4 ?z5 ?z6 ?z7 ?z8 ?z9 ?z10 ?z11 ?z12 ?z13 ?z14 ?z15 ?z16 ?z17 ?z18 ?z19 ?z20 ?z21 ?y21 ?x21 ?v21 ?z22 ?y22 ?x22 ?v22
    (case a0 => k_is)
    (case l0 => k_is)
    (case c0 => k_is)
    (case k0 => k_is)
    (case a1 => k_is)
    (case l1 => k_is)
    (case c1 => k_is)
    (case k1 => k_is)
    (case a2 => k_is)
    (case l2 => k_is)
    (case c2 => k_is)
    (case k2 => k_is)
    (case a3 => k_is)
    (case l3 => k_is)
    (case c3 => k_is)
    (case k3 => k_is)
    (case a4 => k_is)
    (case l4 => k_is)
    (case c4 => k_is)
    (case k4 => k_is)
    (case a5 => k_is)
    (case l5 => k_is)
    (case c5 => k_is)
    (case k5 => k_is)
    (case a6 => k_is)
    (case l6 => k_is)
    (case c6 => k_is)
    (case k6 => k_is)
    (case a7 => k_is)
    (case l7 => k_is)
    (case c7 => k_is)
    (case k7 => k_is)
    (case a8 => k_is)
    (case l8 => k_is)
    (case c8 => k_is)
    (case k8 => k_is)
    (case a9 => k_is)
    (case l9 => k_is)
    (case c9 => k_is)
    (case k9 => k_is)
    (case a10 => k_is)
    (case l10 => k_is)
    (case c10 => k_is)
    (case k10 => k_is)
    (case a11 => k_is)
    (case l11 => k_is)
    (case c11 => k_is)
    (case k11 => k_is)
    (case a12 => k_is)
    (case l12 => k_is)
    (case c12 => k_is)
    (case k12 => k_is)
    (case a13 => k_is)
    (case l13 => k_is)
    (case c13 => k_is)
    (case k13 => k_is)
    (case a14 => k_is)
    (case l14 => k_is)
    (case c14 => k_is)
    (case k14 => k_is)
    (case a15 => k_is)
    (case l15 => k_is)
    (case c15 => k_is)
    (case k15 => k_is)
    (case a16 => k_is)
    (case l16 => k_is)
    (case c16 => k_is)
    (case k16 => k_is)
    (case a17 => k_is)
    (case l17 => k_is)
    (case c17 => k_is)
    (case k17 => k_is)
    (case a18 => k_is)
    (case l18 => k_is)
    (case c18 => k_is)
    (case k18 => k_is)
    (case a19 => k_is)
    (case l19 => k_is)
    (case c19 => k_is)
    (case k19 => k_is)
    (case a20 => k_is)
    (case l20 => k_is)
    (case c20 => k_is)
    (case k20 => k_is)
    (case a21 => k_is)
    (case l21 => k_is)
    (case c21 => k_is)
    (case k21 => k_is)
    (case a22 => k_is)
    (case l22 => k_is)
    (case c22 => k_is)
    (case k22 => k_is)
    (case a23 => k_is)
    (case l23 => k_is)
    (case c23 => k_is)
    (case k23 => k_is)
    (case a24 => k_is)
    (case l24 => k_is)
    (case c24 => k_is)
    (case k24 => k_is)
    (case a25 => k_is)
    (case l25 => k_is)
    (case c25 => k_is)
    (case k25 => k_is)
    (case a26 => k_is)
    (case l26 => k_is)
    (case c26 => k_is)
    (case k26 => k_is)
    (case a27 => k_is)
    (case l27 => k_is)
    (case c27 => k_is)
    (case k27 => k_is)
    (case a28 => k_is)
    (case l28 => k_is)
    (case c28 => k_is)
    (case k28 => k_is)
    (case a29 => k_is)
    (case l29 => k_is)
    (case c29 => k_is)
    (case k29 => k_is)
    (case a30 => k_is)
    (case l30 => k_is)
    (case c30 => k_is)
    (case k30 => k_is)
    (case a31 => k_is)
    (case l31 => k_is)
    (case c31 => k_is)
    (case k31 => k_is)
    (case a32 => k_is)
    (case l32 => k_is)
    (case c32 => k_is)
    (case k32 => k_is)
    (case a33 => k_is)
    (case l33 => k_is)
    (case c33 => k_is)
    (case k33 => k_is)
    (case a34 => k_is)
    (case l34 => k_is)
    (case c34 => k_is)
    (case k34 => k_is)
    (case a35 => k_is)
    (case l35 => k_is)
    (case c35 => k_is)
    (case k35 => k_is)
    (case z0 => k_is)
    (case z1 => k_is)
    (case z2 => k_is)
    (case z3 => k_is)
    (case z4 => k_is)
    (case z5 => k_is)
    (case z6 => k_is)
    (case z7 => k_is)
    (case z8 => k_is)
    (case z9 => k_is)
    (case z10 => k_is)
    (case z11 => k_is)
    (case z12 => k_is)
    (case z13 => k_is)
    (case z14 => k_is)
    (case z15 => k_is)
    (case z16 => k_is)
    (case z17 => k_is)
    (case z18 => k_is)
    (case z19 => k_is)
    (case z20 => k_is)
    (case z21 => k_is)
    (case y21 => k_is)
    (case x21 => exact ⟨⟨_, rfl⟩, rfl, ⟨_, rfl⟩, rfl, ⟨_, rfl⟩, rfl, ⟨_, rfl⟩, rfl, trivial⟩)
    (case v21 => rfl)
    (case z22 => k_is)
    (case y22 => k_is)
    (case x22 => exact ⟨⟨_, rfl⟩, rfl, ⟨_, rfl⟩, rfl, ⟨_, rfl⟩, rfl, ⟨_, rfl⟩, rfl, trivial⟩)
    (case v22 => rfl)
#print axioms PySem.Challenge.cw_willinglift_k85_whole_log_texts_there_an_holds
