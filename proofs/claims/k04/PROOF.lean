import PyProof.Rows.All
import Wide.All
import OpenK.AllK
import Wide.FinOn
import HandS.ForMost
import HandS.Defaults
import HandS.IsInst
import HandS.Wide
import HandS.WideBits
import HandS.Flow
import HandS.Exc
import HandS.TupAny
import HandS.Walk
import HandS.Evl
import HandS.More
import HandS.ReplaceLit
import HandS.ReplaceList
import HandS.Head0
import HandS.Head1
import HandS.Head2
import HandS.HeadEnd
import HandS.HeadHook1
import HandS.HeadHook2
import HandS.HeadHook3
import HandS.HeadHook4
import PySem.Challenge.RW_readapart_k04_facts_of_the_form
set_option Elab.async false
set_option linter.all false
set_option maxRecDepth 100000
set_option maxHeartbeats 2000000
set_option autoImplicit false
/-! DL: the data layer. Nested data as values (D), mutable lists by address (Mu), readings as functions. -/
namespace DL
open PySem PySem.Spec PyProof.Rows L2 TL

/-- data: texts by their codes; tuples and lists that stay (lst) as values; ref: a thing that may change -/
inductive D where
  | non | bl (b : Bool) | int (i : Int) | str (cs : List Nat) | tup (ds : List D) | lst (ds : List D) | src (ns : List Int) | ref (a : Addr) | ty (n : String)
/-- what may change -/
inductive DO where
  | lst (ds : List D)
  | dic (kvs : List (Key × D))
abbrev Mu := Addr → Option DO
def mset (M : Mu) (a : Addr) (o : DO) : Mu := fun b => if b = a then some o else M b
def mdrop (M : Mu) (a : Addr) : Mu := fun b => if b = a then none else M b
theorem mset_same {M : Mu} {a : Addr} {o : DO} : mset M a o a = some o := if_pos rfl
theorem mset_ne {M : Mu} {a b : Addr} {o : DO} (h : b ≠ a) : mset M a o b = M b := if_neg h
theorem mset_mset {M : Mu} {a : Addr} {o u : DO} : mset (mset M a o) a u = mset M a u := by
  funext b; unfold mset; split <;> rfl
theorem mdrop_mset {M : Mu} {a : Addr} {o : DO} (h : M a = none) : mdrop (mset M a o) a = M := by
  funext b; unfold mdrop mset
  by_cases e : b = a
  · rw [if_pos e, e, h]
  · rw [if_neg e, if_neg e]
def mkS (cs : List Nat) : Str := ⟨cs.toArray⟩
theorem mkS_len (cs : List Nat) : (mkS cs).length = cs.length := by simp [mkS, Str.length]
theorem mkS_tl (cs : List Nat) : tl (mkS cs) = cs := rfl
theorem mkS_app (a b : List Nat) : mkS a ++ mkS b = mkS (a ++ b) := ext_tl (by rw [tl_append]; rfl)
theorem mkS_inj {a b : List Nat} (h : mkS a = mkS b) : a = b := by
  have := congrArg tl h
  exact this
theorem mkS_of (s : Str) : mkS (tl s) = s := mk_tl s

/-! ### data in the heap: F is what stays -/
mutual
def Rp (K : PySem.W.Frag) (F : Hp) : D → V → Prop
  | .non, v => v = .non
  | .bl b, v => v = .bl b
  | .int i, v => v = .int i
  | .str cs, v => v = .str (mkS cs)
  | .ref a, v => v = .ref a
  | .ty n, v => v = .ty n
  | .src ns, v => ∃ a, v = .ref a ∧ SqL K F a (ns.map V.int)
  | .tup ds, v => ∃ a xs, v = .ref a ∧ SqT K F a xs ∧ RpL K F ds xs
  | .lst ds, v => ∃ a xs, v = .ref a ∧ F a = some (.lst xs) ∧ RpL K F ds xs
def RpL (K : PySem.W.Frag) (F : Hp) : List D → List V → Prop
  | [], xs => xs = []
  | d :: ds, xs => ∃ x r, xs = x :: r ∧ Rp K F d x ∧ RpL K F ds r
end
def Le (F F' : Hp) : Prop := ∀ b o, F b = some o → F' b = some o
theorem Le.refl (F : Hp) : Le F F := fun _ _ h => h
theorem Le.trans {F G J : Hp} (a : Le F G) (b : Le G J) : Le F J := fun c o h => b c o (a c o h)
theorem Le.rd {F G : Hp} (l : Le F G) {a : Addr} {u : HO} (h : Rd F a u) : Rd G a u := by
  rcases h with h | ⟨o, h⟩
  · exact .inl (l _ _ h)
  · exact .inr ⟨o, l _ _ h⟩
theorem Le.sqL {K : PySem.W.Frag} {F G : Hp} (l : Le F G) {a : Addr} {xs : List V} (h : SqL K F a xs) : SqL K G a xs := by
  rcases h with h | h
  · exact .inl (l.rd h)
  · exact .inr h
theorem Le.sqT {K : PySem.W.Frag} {F G : Hp} (l : Le F G) {a : Addr} {xs : List V} (h : SqT K F a xs) : SqT K G a xs := by
  rcases h with h | h
  · exact .inl (l.rd h)
  · exact .inr h
theorem Le.new {F : Hp} {p : Addr} {o : HO} (h : F p = none) : Le F (upd F p o) := fun b u e => by
  rw [upd_ne (ne_of_none e h)]
  exact e
mutual
theorem Rp.mono {K : PySem.W.Frag} {F G : Hp} (l : Le F G) : ∀ {d : D} {v : V}, Rp K F d v → Rp K G d v
  | .non, _, h => by unfold Rp at h ⊢; exact h
  | .bl _, _, h => by unfold Rp at h ⊢; exact h
  | .int _, _, h => by unfold Rp at h ⊢; exact h
  | .str _, _, h => by unfold Rp at h ⊢; exact h
  | .ref _, _, h => by unfold Rp at h ⊢; exact h
  | .ty _, _, h => by unfold Rp at h ⊢; exact h
  | .src _, _, h => by
    unfold Rp at h ⊢
    obtain ⟨a, e, s⟩ := h
    exact ⟨a, e, l.sqL s⟩
  | .tup ds, _, h => by
    unfold Rp at h ⊢
    obtain ⟨a, xs, e, s, r⟩ := h
    exact ⟨a, xs, e, l.sqT s, RpL.mono l r⟩
  | .lst ds, _, h => by
    unfold Rp at h ⊢
    obtain ⟨a, xs, e, s, r⟩ := h
    exact ⟨a, xs, e, l _ _ s, RpL.mono l r⟩
theorem RpL.mono {K : PySem.W.Frag} {F G : Hp} (l : Le F G) : ∀ {ds : List D} {xs : List V}, RpL K F ds xs → RpL K G ds xs
  | [], _, h => by unfold RpL at h ⊢; exact h
  | d :: ds, _, h => by
    unfold RpL at h ⊢
    obtain ⟨x, r, e, h1, h2⟩ := h
    exact ⟨x, r, e, Rp.mono l h1, RpL.mono l h2⟩
end
section
variable {K : PySem.W.Frag} {F : Hp}
theorem RpL.nil : RpL K F [] [] := by unfold RpL; rfl
theorem RpL.cons {d : D} {ds : List D} {x : V} {xs : List V} (h : Rp K F d x) (t : RpL K F ds xs) : RpL K F (d :: ds) (x :: xs) := by
  unfold RpL
  exact ⟨x, xs, rfl, h, t⟩
theorem RpL.len : ∀ {ds : List D} {xs : List V}, RpL K F ds xs → ds.length = xs.length
  | [], _, h => by unfold RpL at h; subst h; rfl
  | d :: ds, _, h => by
    unfold RpL at h
    obtain ⟨x, r, e, h1, h2⟩ := h
    subst e
    rw [List.length_cons, List.length_cons, RpL.len h2]
theorem RpL.app : ∀ {ds es : List D} {xs ys : List V}, RpL K F ds xs → RpL K F es ys → RpL K F (ds ++ es) (xs ++ ys)
  | [], _, _, _, h, t => by unfold RpL at h; subst h; exact t
  | d :: ds, es, _, ys, h, t => by
    unfold RpL at h
    obtain ⟨x, r, e, h1, h2⟩ := h
    subst e
    exact RpL.cons h1 (RpL.app h2 t)
theorem RpL.snoc {ds : List D} {xs : List V} {d : D} {x : V} (h : RpL K F ds xs) (t : Rp K F d x) : RpL K F (ds ++ [d]) (xs ++ [x]) := h.app (RpL.cons t RpL.nil)
theorem RpL.get : ∀ {ds : List D} {xs : List V} {i : Nat} {d : D}, RpL K F ds xs → ds[i]? = some d → ∃ x, xs[i]? = some x ∧ Rp K F d x
  | [], _, _, _, _, e => by simp at e
  | d :: ds, _, 0, _, h, e => by
    unfold RpL at h
    obtain ⟨x, r, e1, h1, h2⟩ := h
    subst e1
    simp at e
    subst e
    exact ⟨x, rfl, h1⟩
  | d :: ds, _, i + 1, _, h, e => by
    unfold RpL at h
    obtain ⟨x, r, e1, h1, h2⟩ := h
    subst e1
    obtain ⟨y, e2, h3⟩ := RpL.get (i := i) h2 (by simpa using e)
    exact ⟨y, by simpa using e2, h3⟩
theorem RpL.getV : ∀ {ds : List D} {xs : List V} {i : Nat} {x : V}, RpL K F ds xs → xs[i]? = some x → ∃ d, ds[i]? = some d ∧ Rp K F d x := fun {ds xs i x} h e => by
  have hl := h.len
  have hi : i < xs.length := (List.getElem?_eq_some_iff.mp e).1
  obtain ⟨y, e2, r⟩ := h.get (i := i) (d := ds[i]'(by omega)) (List.getElem?_eq_getElem (by omega))
  rw [e] at e2
  cases e2
  exact ⟨_, List.getElem?_eq_getElem (by omega), r⟩
theorem RpL.set : ∀ {ds : List D} {xs : List V} {d : D} {x : V} (i : Nat), RpL K F ds xs → Rp K F d x → RpL K F (ds.set i d) (xs.set i x)
  | [], _, _, _, i, h, t => by unfold RpL at h; subst h; exact RpL.nil
  | d :: ds, _, _, _, 0, h, t => by
    unfold RpL at h
    obtain ⟨x, r, e1, h1, h2⟩ := h
    subst e1
    exact RpL.cons t h2
  | d :: ds, _, _, _, i + 1, h, t => by
    unfold RpL at h
    obtain ⟨x, r, e1, h1, h2⟩ := h
    subst e1
    exact RpL.cons h1 (RpL.set i h2 t)
theorem RpL.take : ∀ {ds : List D} {xs : List V} (n : Nat), RpL K F ds xs → RpL K F (ds.take n) (xs.take n)
  | [], _, n, h => by unfold RpL at h; subst h; rw [List.take_nil, List.take_nil]; exact RpL.nil
  | d :: ds, _, 0, h => RpL.nil
  | d :: ds, _, n + 1, h => by
    unfold RpL at h
    obtain ⟨x, r, e1, h1, h2⟩ := h
    subst e1
    exact RpL.cons h1 (RpL.take n h2)
theorem RpL.drop : ∀ {ds : List D} {xs : List V} (n : Nat), RpL K F ds xs → RpL K F (ds.drop n) (xs.drop n)
  | [], _, n, h => by unfold RpL at h; subst h; rw [List.drop_nil, List.drop_nil]; exact RpL.nil
  | d :: ds, _, 0, h => h
  | d :: ds, _, n + 1, h => by
    unfold RpL at h
    obtain ⟨x, r, e1, h1, h2⟩ := h
    subst e1
    exact RpL.drop n h2
theorem RpL.rev : ∀ {ds : List D} {xs : List V}, RpL K F ds xs → RpL K F ds.reverse xs.reverse
  | [], _, h => by unfold RpL at h; subst h; exact RpL.nil
  | d :: ds, _, h => by
    unfold RpL at h
    obtain ⟨x, r, e1, h1, h2⟩ := h
    subst e1
    rw [List.reverse_cons, List.reverse_cons]
    exact (RpL.rev h2).snoc h1
theorem RpL.last {ds : List D} {xs : List V} (h : RpL K F ds xs) : RpL K F ds.dropLast xs.dropLast := by
  rw [List.dropLast_eq_take, List.dropLast_eq_take, h.len]
  exact h.take _
theorem RpL.ints : ∀ {ns : List Int}, RpL K F (ns.map D.int) (ns.map V.int)
  | [] => RpL.nil
  | n :: ns => RpL.cons (by unfold Rp; rfl) RpL.ints
theorem RpL.strs : ∀ {ns : List (List Nat)}, RpL K F (ns.map D.str) (ns.map fun c => V.str (mkS c))
  | [] => RpL.nil
  | n :: ns => RpL.cons (by unfold Rp; rfl) RpL.strs
end
def RpK (K : PySem.W.Frag) (F : Hp) (kvs : List (Key × D)) (vs : List (Key × V)) : Prop := kvs.map (·.1) = vs.map (·.1) ∧ RpL K F (kvs.map (·.2)) (vs.map (·.2))
def RpO (K : PySem.W.Frag) (F : Hp) : DO → HO → Prop
  | .lst ds, o => ∃ xs, o = .lst xs ∧ RpL K F ds xs
  | .dic kvs, o => ∃ vs, o = .dK vs ∧ RpK K F kvs vs
theorem RpO.mono {K : PySem.W.Frag} {F G : Hp} (l : Le F G) {o : DO} {ho : HO} (h : RpO K F o ho) : RpO K G o ho := by
  cases o with
  | lst ds =>
    obtain ⟨xs, e, r⟩ := h
    exact ⟨xs, e, r.mono l⟩
  | dic kvs =>
    obtain ⟨xs, e, r1, r2⟩ := h
    exact ⟨xs, e, r1, r2.mono l⟩

/-- the heap H holds the staying part F and the changing part M; the rest of H is hidden -/
structure Sv (K : PySem.W.Frag) (H F : Hp) (M : Mu) : Prop where
  fh : Le F H
  fm : ∀ b o, F b = some o → M b = none
  mu : ∀ a o, M a = some o → ∃ ho, H a = some ho ∧ RpO K F o ho
/-- from one state to a later one: what stays, stays; what is hidden, stays as it is and hidden -/
structure Go (H F : Hp) (M : Mu) (H' F' : Hp) (M' : Mu) : Prop where
  le : Le F F'
  kp : ∀ b o, H b = some o → M b = none → H' b = some o ∧ M' b = none ∧ (F b = none → F' b = none)
section
variable {K : PySem.W.Frag} {H H1 H2 F F1 F2 : Hp} {M M1 M2 : Mu}
theorem Go.refl : Go H F M H F M := ⟨Le.refl F, fun b o h m => ⟨h, m, fun z => z⟩⟩
theorem Go.trans (a : Go H F M H1 F1 M1) (b : Go H1 F1 M1 H2 F2 M2) : Go H F M H2 F2 M2 := ⟨a.le.trans b.le, fun c o h m => by
  obtain ⟨h1, m1, f1⟩ := a.kp c o h m
  obtain ⟨h2, m2, f2⟩ := b.kp c o h1 m1
  exact ⟨h2, m2, fun z => f2 (f1 z)⟩⟩
theorem Sv.fresh {p : Addr} (s : Sv K H F M) (h : H p = none) : F p = none ∧ M p = none := by
  constructor
  · cases e : F p with
    | none => rfl
    | some o => rw [s.fh p o e] at h; cases h
  · cases e : M p with
    | none => rfl
    | some o =>
      obtain ⟨ho, e2, _⟩ := s.mu p o e
      rw [e2] at h; cases h
/-- a new thing that stays -/
theorem Sv.newF {p : Addr} {o : HO} (s : Sv K H F M) (h : H p = none) : Sv K (upd H p o) (upd F p o) M ∧ Go H F M (upd H p o) (upd F p o) M := by
  obtain ⟨hF, hM⟩ := s.fresh h
  have l : Le F (upd F p o) := Le.new hF
  refine ⟨⟨fun b u e => ?_, fun b u e => ?_, fun a u e => ?_⟩, ⟨l, fun b u e m => ?_⟩⟩
  · by_cases hb : b = p
    · subst hb; rw [upd_same] at e ⊢; exact e
    · rw [upd_ne hb] at e ⊢; exact s.fh b u e
  · by_cases hb : b = p
    · subst hb; exact hM
    · rw [upd_ne hb] at e; exact s.fm b u e
  · obtain ⟨ho, e2, r⟩ := s.mu a u e
    refine ⟨ho, ?_, r.mono l⟩
    rw [upd_ne (ne_of_none e2 h)]
    exact e2
  · have hb : b ≠ p := ne_of_none e h
    exact ⟨by rw [upd_ne hb]; exact e, m, fun z => by rw [upd_ne hb]; exact z⟩
/-- a new thing that may change -/
theorem Sv.newM {p : Addr} {o : DO} {ho : HO} (s : Sv K H F M) (h : H p = none) (r : RpO K F o ho) : Sv K (upd H p ho) F (mset M p o) ∧ Go H F M (upd H p ho) F (mset M p o) := by
  obtain ⟨hF, hM⟩ := s.fresh h
  refine ⟨⟨fun b u e => ?_, fun b u e => ?_, fun a u e => ?_⟩, ⟨Le.refl F, fun b u e m => ?_⟩⟩
  · rw [upd_ne (ne_of_none e hF)]; exact s.fh b u e
  · rw [mset_ne (ne_of_none e hF)]; exact s.fm b u e
  · by_cases ha : a = p
    · subst ha
      rw [mset_same] at e
      cases e
      exact ⟨ho, upd_same, r⟩
    · rw [mset_ne ha] at e
      obtain ⟨ho', e2, r'⟩ := s.mu a u e
      exact ⟨ho', by rw [upd_ne ha]; exact e2, r'⟩
  · have hb : b ≠ p := ne_of_none e h
    exact ⟨by rw [upd_ne hb]; exact e, by rw [mset_ne hb]; exact m, fun z => z⟩
/-- a thing is changed -/
theorem Sv.wr {p : Addr} {o o' : DO} {ho : HO} (s : Sv K H F M) (h : M p = some o) (r : RpO K F o' ho) : Sv K (upd H p ho) F (mset M p o') ∧ Go H F M (upd H p ho) F (mset M p o') := by
  have hF : ∀ b u, F b = some u → b ≠ p := fun b u e z => by
    subst z
    rw [s.fm b u e] at h; cases h
  refine ⟨⟨fun b u e => ?_, fun b u e => ?_, fun a u e => ?_⟩, ⟨Le.refl F, fun b u e m => ?_⟩⟩
  · rw [upd_ne (hF b u e)]; exact s.fh b u e
  · rw [mset_ne (hF b u e)]; exact s.fm b u e
  · by_cases ha : a = p
    · subst ha
      rw [mset_same] at e
      cases e
      exact ⟨ho, upd_same, r⟩
    · rw [mset_ne ha] at e
      obtain ⟨ho', e2, r'⟩ := s.mu a u e
      exact ⟨ho', by rw [upd_ne ha]; exact e2, r'⟩
  · have hb : b ≠ p := fun z => by subst z; rw [m] at h; cases h
    exact ⟨by rw [upd_ne hb]; exact e, by rw [mset_ne hb]; exact m, fun z => z⟩
end

/-! ### slots -/
abbrev DEnv := List (Option D)
def ERel (K : PySem.W.Frag) (F : Hp) (δ : DEnv) (σ : L2.St) : Prop := δ.length = σ.length ∧ ∀ (i : Nat) (d : D), δ[i]? = some (some d) → ∃ v, σ[i]? = some (some v) ∧ Rp K F d v
section
variable {K : PySem.W.Frag} {F F1 : Hp} {δ : DEnv} {σ : L2.St}
theorem ERel.mono (l : Le F F1) (h : ERel K F δ σ) : ERel K F1 δ σ := ⟨h.1, fun i d e => by
  obtain ⟨v, e2, r⟩ := h.2 i d e
  exact ⟨v, e2, r.mono l⟩⟩
theorem ERel.set {i : Nat} {d : D} {v : V} (h : ERel K F δ σ) (r : Rp K F d v) : ERel K F (δ.set i (some d)) (σ.set i (some v)) := by
  refine ⟨by rw [List.length_set, List.length_set]; exact h.1, fun j e hj => ?_⟩
  by_cases hji : i = j
  · subst hji
    by_cases hl : i < δ.length
    · rw [List.getElem?_set_self hl] at hj
      have e1 : d = e := Option.some.inj (Option.some.inj hj)
      subst e1
      refine ⟨v, ?_, r⟩
      rw [List.getElem?_set_self (by rw [← h.1]; exact hl)]
    · rw [List.getElem?_eq_none (by rw [List.length_set]; omega)] at hj
      cases hj
  · rw [List.getElem?_set_ne hji] at hj ⊢
    exact h.2 j e hj
theorem ERel.start {N : List Str} {ds : List D} {vs : List V} (h : RpL K F ds vs) : ERel K F (ds.map some ++ List.replicate (N.length - ds.length) none) (L2.start N vs) := by
  have hl := h.len
  refine ⟨by unfold L2.start; rw [List.length_append, List.length_append, List.length_map, List.length_map, List.length_replicate, List.length_replicate, hl], fun i d e => ?_⟩
  by_cases hi : i < ds.length
  · rw [List.getElem?_append_left (by rw [List.length_map]; exact hi), List.getElem?_map] at e
    cases q : ds[i]? with
    | none => rw [q] at e; cases e
    | some d' =>
      rw [q] at e
      have e1 : d' = d := Option.some.inj (Option.some.inj e)
      subst e1
      obtain ⟨x, e2, r⟩ := h.get q
      refine ⟨x, ?_, r⟩
      unfold L2.start
      rw [List.getElem?_append_left (by rw [List.length_map]; omega), List.getElem?_map, e2]
      rfl
  · rw [List.getElem?_append_right (by rw [List.length_map]; omega), List.getElem?_replicate] at e
    split at e <;> cases e
end

/-! ### readings of data, and what they say of the heap -/
abbrev DK := D → Mu → Prop
abbrev DTE := DEnv → Mu → DK → Prop
abbrev DTT := DEnv → Mu → (Bool → Mu → Prop) → Prop
abbrev DTA := DEnv → Mu → (List D → Mu → Prop) → Prop
structure DEnds where
  nx : DEnv → Mu → Prop
  rt : DK
  bk : DEnv → Mu → Prop := fun _ _ => False
  ct : DEnv → Mu → Prop := fun _ _ => False
abbrev DTS := DEnds → DEnv → Mu → Prop

def Post (K : PySem.W.Frag) (H F : Hp) (M : Mu) (Qd : DK) (Q : VK) : Prop := ∀ d M' F' v H', Qd d M' → Go H F M H' F' M' → Sv K H' F' M' → Rp K F' d v → Q v H'
def PostT (K : PySem.W.Frag) (H F : Hp) (M : Mu) (Qd : Bool → Mu → Prop) (Q : Bool → Hp → Prop) : Prop := ∀ b M' F' H', Qd b M' → Go H F M H' F' M' → Sv K H' F' M' → Q b H'
def PostA (K : PySem.W.Frag) (H F : Hp) (M : Mu) (Qd : List D → Mu → Prop) (Q : List V → Hp → Prop) : Prop := ∀ ds M' F' vs H', Qd ds M' → Go H F M H' F' M' → Sv K H' F' M' → RpL K F' ds vs → Q vs H'
def PostE (K : PySem.W.Frag) (H F : Hp) (M : Mu) (Qd : DEnv → Mu → Prop) (Q : L2.St → Hp → Prop) : Prop := ∀ δ M' F' σ H', Qd δ M' → Go H F M H' F' M' → Sv K H' F' M' → ERel K F' δ σ → Q σ H'
structure PostS (K : PySem.W.Frag) (H F : Hp) (M : Mu) (Dd : DEnds) (Dv : Ends) : Prop where
  nx : PostE K H F M Dd.nx Dv.nx
  rt : Post K H F M Dd.rt Dv.rt
  bk : PostE K H F M Dd.bk Dv.bk
  ct : PostE K H F M Dd.ct Dv.ct
section
variable {K : PySem.W.Frag} {H H1 F F1 : Hp} {M M1 : Mu}
theorem Post.go {Qd : DK} {Q : VK} (p : Post K H F M Qd Q) (g : Go H F M H1 F1 M1) : Post K H1 F1 M1 Qd Q := fun d M' F' v H' q g' s r => p d M' F' v H' q (g.trans g') s r
theorem PostT.go {Qd : Bool → Mu → Prop} {Q : Bool → Hp → Prop} (p : PostT K H F M Qd Q) (g : Go H F M H1 F1 M1) : PostT K H1 F1 M1 Qd Q := fun d M' F' H' q g' s => p d M' F' H' q (g.trans g') s
theorem PostA.go {Qd : List D → Mu → Prop} {Q : List V → Hp → Prop} (p : PostA K H F M Qd Q) (g : Go H F M H1 F1 M1) : PostA K H1 F1 M1 Qd Q := fun d M' F' v H' q g' s r => p d M' F' v H' q (g.trans g') s r
theorem PostE.go {Qd : DEnv → Mu → Prop} {Q : L2.St → Hp → Prop} (p : PostE K H F M Qd Q) (g : Go H F M H1 F1 M1) : PostE K H1 F1 M1 Qd Q := fun d M' F' v H' q g' s r => p d M' F' v H' q (g.trans g') s r
theorem PostS.go {Dd : DEnds} {Dv : Ends} (p : PostS K H F M Dd Dv) (g : Go H F M H1 F1 M1) : PostS K H1 F1 M1 Dd Dv := ⟨p.nx.go g, p.rt.go g, p.bk.go g, p.ct.go g⟩
theorem Post.fin {Qd : DK} {Q : VK} (p : Post K H F M Qd Q) (s : Sv K H F M) {d : D} {v : V} (q : Qd d M) (r : Rp K F d v) : Q v H := p d M F v H q Go.refl s r
end
def lift (K : PySem.W.Frag) (u : DTE) : TE := fun σ H Q => ∃ δ M F Qd, ERel K F δ σ ∧ Sv K H F M ∧ u δ M Qd ∧ Post K H F M Qd Q
def liftT (K : PySem.W.Frag) (u : DTT) : TT := fun σ H Q => ∃ δ M F Qd, ERel K F δ σ ∧ Sv K H F M ∧ u δ M Qd ∧ PostT K H F M Qd Q
def liftA (K : PySem.W.Frag) (u : DTA) : TA := fun σ H Q => ∃ δ M F Qd, ERel K F δ σ ∧ Sv K H F M ∧ u δ M Qd ∧ PostA K H F M Qd Q
def liftS (K : PySem.W.Frag) (u : DTS) : TS := fun Dv σ H => ∃ δ M F Dd, ERel K F δ σ ∧ Sv K H F M ∧ u Dd δ M ∧ PostS K H F M Dd Dv
abbrev DE (X : Cx) (e : Expr) (u : DTE) : Prop := PE X e (lift X.K u)
abbrev DT (X : Cx) (e : Expr) (u : DTT) : Prop := PT X e (liftT X.K u)
abbrev DW (X : Cx) (e : Expr) (u : DTT) : Prop := PW X e (liftT X.K u)
abbrev DA (X : Cx) (es : List Expr) (u : DTA) : Prop := PA X es (liftA X.K u)
abbrev DS (X : Cx) (s : Stmt) (u : DTS) : Prop := PS X s (liftS X.K u)
abbrev DSs (X : Cx) (s : List Stmt) (u : DTS) : Prop := PSs X s (liftS X.K u)
section
variable {X : Cx}
theorem PE.weak {e : Expr} {t t' : TE} (h : PE X e t) (i : ∀ σ H Q, t' σ H Q → t σ H Q) : PE X e t' := ⟨fun pins s σ H Q I q => h.run pins s σ H Q I (i _ _ _ q)⟩
theorem PT.weak {e : Expr} {t t' : TT} (h : PT X e t) (i : ∀ σ H Q, t' σ H Q → t σ H Q) : PT X e t' := ⟨fun pins s σ H Q I q => h.run pins s σ H Q I (i _ _ _ q)⟩
theorem PW.weak {e : Expr} {t t' : TT} (h : PW X e t) (i : ∀ σ H Q, t' σ H Q → t σ H Q) : PW X e t' := ⟨fun wh pins s σ H Q I q => h.run wh pins s σ H Q I (i _ _ _ q)⟩
theorem PA.weak {e : List Expr} {t t' : TA} (h : PA X e t) (i : ∀ σ H Q, t' σ H Q → t σ H Q) : PA X e t' := ⟨fun pos pins s σ H Q I q => h.run pos pins s σ H Q I (i _ _ _ q)⟩
theorem PS.weak {e : Stmt} {t t' : TS} (h : PS X e t) (i : ∀ D σ H, t' D σ H → t D σ H) : PS X e t' := ⟨fun pins s σ H D I q => h.run pins s σ H D I (i _ _ _ q)⟩
theorem PSs.weak {e : List Stmt} {t t' : TS} (h : PSs X e t) (i : ∀ D σ H, t' D σ H → t D σ H) : PSs X e t' := ⟨fun pins s σ H D I q => h.run pins s σ H D I (i _ _ _ q)⟩
end
end DL

namespace DL
open PySem PySem.Spec PyProof.Rows L2 TL

/-! ### names, constants -/
def dVar (i : Nat) : DTE := fun δ M Q => match δ[i]? with
  | some (some d) => Q d M
  | _ => False
def dC (d : D) : DTE := fun _ M Q => Q d M
section
variable {X : Cx}
theorem de_var (i : Nat) {x : Str} {pos : Pos} (hN : X.N[i]? = some x := by rfl) (hv : Vis X.env.scope x := by first | exact Or.inl rfl | exact Or.inr (Or.inl rfl) | exact Or.inr (Or.inr rfl)) (hd : (x == ("__debug__" : Str)) = false := by decide)
    (hcd : (x == ("__classdict__" : Str)) = false := by decide) : DE X (.Name x pos) (dVar i) := by
  refine PE.weak (pe_var hN hv hd hcd) fun σ H Q h => ?_
  obtain ⟨δ, M, F, Qd, hE, s, hu, p⟩ := h
  have hu' : (match δ[i]? with | some (some d) => Qd d M | _ => False) := hu
  split at hu'
  · rename_i d e
    obtain ⟨v, e2, r⟩ := hE.2 i d e
    exact ⟨v, e2, p.fin s hu' r⟩
  · exact hu'.elim
theorem de_cst {e : Expr} {v : V} {d : D} (h : PE X e (tC v)) (r : ∀ F, Rp X.K F d v) : DE X e (dC d) := by
  refine PE.weak h fun σ H Q h => ?_
  obtain ⟨δ, M, F, Qd, hE, s, hu, p⟩ := h
  exact p.fin s hu (r F)
theorem de_int {i : Int} {j : Nat} {pos : Pos} : DE X (.Constant (.int i) j pos) (dC (.int i)) := de_cst pe_int fun F => by unfold Rp; rfl
theorem de_bl {i : Bool} {j : Nat} {pos : Pos} : DE X (.Constant (.bool i) j pos) (dC (.bl i)) := de_cst pe_bl fun F => by unfold Rp; rfl
theorem de_non {j : Nat} {pos : Pos} : DE X (.Constant .none j pos) (dC .non) := de_cst pe_non fun F => by unfold Rp; rfl
theorem de_str {x : Str} {j : Nat} {pos : Pos} (cs : List Nat) (h : x = mkS cs := by decide +kernel) : DE X (.Constant (.str x) j pos) (dC (.str cs)) := de_cst pe_str fun F => by unfold Rp; rw [h]
theorem de_glob {x : Str} {pos : Pos} {d : D} {v : V} {u : Value} (hg : Gl X x) (hm : X.mg x = some u) (r : RelV v u) (rp : ∀ F, Rp X.K F d v) (hd : (x == ("__debug__" : Str)) = false := by decide) : DE X (.Name x pos) (dC d) := de_cst (pe_glob hg hm r hd) rp
theorem de_ty {x : Str} {pos : Pos} (n : String) (hg : Gl X x) (hm : X.mg x = none) (hv : bootBuiltins x = some (.type n)) (hn : x ≠ "__name__" := by decide) (hd : (x == ("__debug__" : Str)) = false := by decide) : DE X (.Name x pos) (dC (.ty n)) := de_cst (pe_bltn (v := .ty n) hg hm hv rfl hn hd) fun F => by unfold Rp; rfl
end

/-! ### operators -/
abbrev DR2 := D → D → Mu → DK → Prop
def dOp (rd : DR2) (ua ub : DTE) : DTE := fun δ M Q => ua δ M fun x M1 => ub δ M1 fun y M2 => rd x y M2 Q
/-- what a rule by data says of a rule by values -/
def Rel2 (K : PySem.W.Frag) (r : R2) (rd : DR2) : Prop := ∀ x y vx vy H F M Qd Q, Rp K F x vx → Rp K F y vy → Sv K H F M → rd x y M Qd → Post K H F M Qd Q → r vx vy H Q
theorem OpR.or {X : Cx} {f : Value → Value → Sem Value} {r r' : R2} (h : OpR X f r) (h' : OpR X f r') : OpR X f (fun x y H Q => r x y H Q ∨ r' x y H Q) := fun pins s σ H x y v u Q I rx ry q => by
  rcases q with q | q
  · exact h pins s σ H x y v u Q I rx ry q
  · exact h' pins s σ H x y v u Q I rx ry q
section
variable {X : Cx} {a b c : Expr} {ua ub uc : DTE} {pos : Pos}
theorem bin2 {r : R2} {rd : DR2} (hr : Rel2 X.K r rd) : ∀ σ H Q, lift X.K (dOp rd ua ub) σ H Q → tOp r (lift X.K ua) (lift X.K ub) σ H Q := fun σ H Q h => by
  obtain ⟨δ, M, F, Qd, hE, s, hu, p⟩ := h
  refine ⟨δ, M, F, _, hE, s, hu, fun x M1 F1 vx H1 q1 g1 s1 r1 => ?_⟩
  refine ⟨δ, M1, F1, _, hE.mono g1.le, s1, q1, fun y M2 F2 vy H2 q2 g2 s2 r2 => ?_⟩
  exact hr x y vx vy H2 F2 M2 Qd Q (r1.mono g2.le) r2 s2 q2 (p.go (g1.trans g2))
theorem de_op {op : Operator} {r : R2} {rd : DR2} (ho : OpR X (binaryOp op) r) (hr : Rel2 X.K r rd) (ha : DE X a ua) (hb : DE X b ub) : DE X (.BinOp a op b pos) (dOp rd ua ub) := PE.weak (pe_op ho ha hb) (bin2 hr)
theorem de_cmp {op : CmpOp} {r : R2} {rd : DR2} (ho : OpR X (compareOp op) r) (hr : Rel2 X.K r rd) (ha : DE X a ua) (hb : DE X b ub) (hm : behindInMarks op b = false) : DE X (.Compare a [op] [b] pos) (dOp rd ua ub) := PE.weak (pe_cmpR ho ha hb hm) (bin2 hr)
end
def DUn := D → Mu → DK → Prop
def dUn (rd : DUn) (ua : DTE) : DTE := fun δ M Q => ua δ M fun x M1 => rd x M1 Q
def Rel1 (K : PySem.W.Frag) (r : V → Hp → VK → Prop) (rd : DUn) : Prop := ∀ x vx H F M Qd Q, Rp K F x vx → Sv K H F M → rd x M Qd → Post K H F M Qd Q → r vx H Q
section
variable {X : Cx} {a b c : Expr} {ua ub uc : DTE} {pos : Pos}
theorem un1 {r : V → Hp → VK → Prop} {rd : DUn} (hr : Rel1 X.K r rd) : ∀ σ H Q, lift X.K (dUn rd ua) σ H Q → tUn r (lift X.K ua) σ H Q := fun σ H Q h => by
  obtain ⟨δ, M, F, Qd, hE, s, hu, p⟩ := h
  exact ⟨δ, M, F, _, hE, s, hu, fun x M1 F1 vx H1 q1 g1 s1 r1 => hr x vx H1 F1 M1 Qd Q r1 s1 q1 (p.go g1)⟩
theorem de_un {op : UnaryOp} {r : V → Hp → VK → Prop} {rd : DUn} (ho : UnR X (unaryOp op) r) (hr : Rel1 X.K r rd) (ha : DE X a ua) : DE X (.UnaryOp op a pos) (dUn rd ua) := PE.weak (pe_un ho ha) (un1 hr)
end

/-! ### sequences by data -/
/-- the items of a list -/
def dseq (M : Mu) : D → Option (List D)
  | .lst ds => some ds
  | .ref a => match M a with
    | some (.lst ds) => some ds
    | _ => none
  | _ => none
theorem dseq_at {K : PySem.W.Frag} {H F : Hp} {M : Mu} {d : D} {v : V} {ds : List D} (s : Sv K H F M) (r : Rp K F d v) (h : dseq M d = some ds) : ∃ a xs, v = .ref a ∧ H a = some (.lst xs) ∧ RpL K F ds xs := by
  cases d with
  | lst es =>
    unfold Rp at r
    obtain ⟨a, xs, e, h1, r1⟩ := r
    cases h
    exact ⟨a, xs, e, s.fh _ _ h1, r1⟩
  | ref a =>
    unfold Rp at r
    have h' : (match M a with | some (.lst ds) => some ds | _ => none) = some ds := h
    cases q : M a with
    | none => rw [q] at h'; cases h'
    | some o =>
      rw [q] at h'
      cases o with
      | lst es =>
        cases h'
        obtain ⟨ho, e, xs, e2, r1⟩ := s.mu a _ q
        subst e2
        exact ⟨a, xs, r, e, r1⟩
      | dic kvs => cases h'
  | _ => cases h
/-- a new list: one that stays, or (mu) one that may change -/
def dNew (mu : Bool) (ds : List D) (M : Mu) (Q : DK) : Prop := match mu with
  | false => Q (.lst ds) M
  | true => ∀ p, M p = none → Q (.ref p) (mset M p (.lst ds))
theorem dNew_at {K : PySem.W.Frag} {H F : Hp} {M : Mu} {mu : Bool} {ds : List D} {xs : List V} {Qd : DK} {Q : VK} {p : Addr} (s : Sv K H F M) (r : RpL K F ds xs) (h : dNew mu ds M Qd) (po : Post K H F M Qd Q) (hp : H p = none) : Q (.ref p) (upd H p (.lst xs)) := by
  cases mu with
  | false =>
    obtain ⟨s1, g1⟩ := s.newF (o := .lst xs) hp
    refine po _ _ _ _ _ h g1 s1 ?_
    unfold Rp
    exact ⟨p, xs, rfl, upd_same, r.mono g1.le⟩
  | true =>
    obtain ⟨s1, g1⟩ := s.newM (o := .lst ds) (ho := .lst xs) hp ⟨xs, rfl, r⟩
    refine po _ _ _ _ _ (h p (s.fresh hp).2) g1 s1 ?_
    unfold Rp
    rfl
theorem newT_at {K : PySem.W.Frag} {H F : Hp} {M : Mu} {ds : List D} {xs : List V} {Qd : DK} {Q : VK} {p : Addr} (s : Sv K H F M) (r : RpL K F ds xs) (h : Qd (.tup ds) M) (po : Post K H F M Qd Q) (hp : H p = none) : Q (.ref p) (upd H p (.tup xs)) := by
  obtain ⟨s1, g1⟩ := s.newF (o := .tup xs) hp
  refine po _ _ _ _ _ h g1 s1 ?_
  unfold Rp
  exact ⟨p, xs, rfl, .inl (.inl upd_same), r.mono g1.le⟩

/-! ### + -/
def dAdd (mu : Bool) : DR2
  | .int i, .int j, M, Q => Q (.int (i + j)) M
  | .str a, .str b, M, Q => a.length + b.length ≤ sizeLine ∧ Q (.str (a ++ b)) M
  | .tup a, .tup b, M, Q => a.length + b.length ≤ sizeLine ∧ Q (.tup (a ++ b)) M
  | x, y, M, Q => match dseq M x, dseq M y with
    | some a, some b => a.length + b.length ≤ sizeLine ∧ dNew mu (a ++ b) M Q
    | _, _ => False
def rAddAll (K : PySem.W.Frag) : R2 := fun x y H Q => ((rI0 (fun i j => .int (i + j))) x y H Q ∨ (∃ i j, x = .str i ∧ y = .str j ∧ i.length + j.length ≤ sizeLine ∧ Q (.str (i ++ j)) H)) ∨ (rCatA K x y H Q ∨ rCat x y H Q)
theorem op_addAll {X : Cx} : OpR X (binaryOp .Add) (rAddAll X.K) := OpR.or (OpR.or op_add op_add_str) (OpR.or op_catA op_cat)
theorem rel_cat {K : PySem.W.Frag} {mu : Bool} {x y : D} {vx vy : V} {H F : Hp} {M : Mu} {Qd : DK} {Q : VK} (rx : Rp K F x vx) (ry : Rp K F y vy) (s : Sv K H F M) (po : Post K H F M Qd Q)
    (h : match dseq M x, dseq M y with | some a, some b => a.length + b.length ≤ sizeLine ∧ dNew mu (a ++ b) M Qd | _, _ => False) : rCat vx vy H Q := by
  cases qx : dseq M x with
  | none => rw [qx] at h; exact h.elim
  | some a =>
    cases qy : dseq M y with
    | none => rw [qx, qy] at h; exact h.elim
    | some b =>
      rw [qx, qy] at h
      obtain ⟨hl, h⟩ := h
      obtain ⟨p, xs, e1, h1, r1⟩ := dseq_at s rx qx
      obtain ⟨q, ys, e2, h2, r2⟩ := dseq_at s ry qy
      exact ⟨p, q, xs, ys, e1, e2, h1, h2, by rw [← r1.len, ← r2.len]; exact hl, fun l hl => dNew_at s (r1.app r2) h po hl⟩
theorem rel_add {K : PySem.W.Frag} {mu : Bool} : Rel2 K (rAddAll K) (dAdd mu) := by
  intro x y vx vy H F M Qd Q rx ry s h po
  unfold dAdd at h
  split at h
  · unfold Rp at rx ry
    exact .inl (.inl ⟨_, _, rx, ry, po.fin s h (by unfold Rp; rfl)⟩)
  · unfold Rp at rx ry
    obtain ⟨hl, h⟩ := h
    refine .inl (.inr ⟨_, _, rx, ry, by rw [mkS_len, mkS_len]; exact hl, po.fin s h (by unfold Rp; rw [mkS_app])⟩)
  · unfold Rp at rx ry
    obtain ⟨a, xs, e1, h1, r1⟩ := rx
    obtain ⟨b, ys, e2, h2, r2⟩ := ry
    obtain ⟨hl, h⟩ := h
    rename_i as bs
    refine .inr (.inl ⟨a, b, xs, ys, e1, e2, s.fh.sqT h1, s.fh.sqT h2, by rw [← r1.len, ← r2.len]; exact hl, fun z => ?_, fun _ z => ?_, fun _ _ p hp => newT_at s (r1.app r2) h po hp⟩)
    · subst z
      have ha : as = [] := List.length_eq_zero_iff.mp (by rw [r1.len]; rfl)
      subst ha
      exact po.fin s h (by unfold Rp; exact ⟨b, ys, rfl, h2, r2⟩)
    · subst z
      have hb : bs = [] := List.length_eq_zero_iff.mp (by rw [r2.len]; rfl)
      subst hb
      rw [List.append_nil] at h
      exact po.fin s h (by unfold Rp; exact ⟨a, xs, rfl, h1, r1⟩)
  · exact .inr (.inr (rel_cat rx ry s po h))

/-! ### other arithmetic -/
def dSub : DR2
  | .int i, .int j, M, Q => Q (.int (i - j)) M
  | _, _, _, _ => False
theorem rel_sub {K : PySem.W.Frag} : Rel2 K (rI0 fun i j => .int (i - j)) dSub := by
  intro x y vx vy H F M Qd Q rx ry s h po
  unfold dSub at h
  split at h
  · unfold Rp at rx ry
    exact ⟨_, _, rx, ry, po.fin s h (by unfold Rp; rfl)⟩
  · exact h.elim
def CMulD (i j : Int) : Prop := CMulX i j
def dMul (mu : Bool) : DR2
  | .int i, .int j, M, Q => CMulX i j ∧ Q (.int (i * j)) M
  | x, .int k, M, Q => match dseq M x with
    | some a => -(2 ^ 63) ≤ k ∧ k < 2 ^ 63 ∧ a.length * k.toNat ≤ sizeLine ∧ dNew mu (List.replicate k.toNat a).flatten M Q
    | none => False
  | _, _, _, _ => False
theorem RpL.rep {K : PySem.W.Frag} {F : Hp} {ds : List D} {xs : List V} (h : RpL K F ds xs) : ∀ k : Nat, RpL K F (List.replicate k ds).flatten (List.replicate k xs).flatten
  | 0 => RpL.nil
  | k + 1 => by
    rw [List.replicate_succ, List.replicate_succ, List.flatten_cons, List.flatten_cons]
    exact h.app (RpL.rep h k)
def rMulAll : R2 := fun x y H Q => (rI CMulX (fun i j => .int (i * j))) x y H Q ∨ rRep x y H Q
theorem op_mulAll {X : Cx} : OpR X (binaryOp .Mult) rMulAll := OpR.or op_mulX op_rep
theorem rel_mul {K : PySem.W.Frag} {mu : Bool} : Rel2 K rMulAll (dMul mu) := by
  intro x y vx vy H F M Qd Q rx ry s h po
  unfold dMul at h
  split at h
  · unfold Rp at rx ry
    exact .inl ⟨_, _, rx, ry, h.1, po.fin s h.2 (by unfold Rp; rfl)⟩
  · split at h
    · rename_i a e
      obtain ⟨h1, h2, h3, h4⟩ := h
      obtain ⟨p, xs, e1, e2, r1⟩ := dseq_at s rx e
      unfold Rp at ry
      exact .inr ⟨p, _, xs, e1, ry, e2, h1, h2, by rw [← r1.len]; exact h3, fun l hl => dNew_at s (r1.rep _) h4 po hl⟩
    · exact h.elim
  · exact h.elim
def CDivX (j : Int) : Prop := j ≠ 0 ∧ j.natAbs.log2 < 9000
def dFdiv : DR2
  | .int i, .int j, M, Q => CDivX j ∧ Q (.int (i.fdiv j)) M
  | _, _, _, _ => False
theorem op_fdivX {X : Cx} : OpR X (binaryOp .FloorDiv) (rI (fun _ j => CDivX j) fun i j => .int (i.fdiv j)) := opI fun _ _ _ _ _ _ _ hc q => floordiv_int hc.1 q (.inl (PyProof.noPylong_of_log2 hc.2))
theorem rel_fdiv {K : PySem.W.Frag} : Rel2 K (rI (fun _ j => CDivX j) fun i j => .int (i.fdiv j)) dFdiv := by
  intro x y vx vy H F M Qd Q rx ry s h po
  unfold dFdiv at h
  split at h
  · unfold Rp at rx ry
    exact ⟨_, _, rx, ry, h.1, po.fin s h.2 (by unfold Rp; rfl)⟩
  · exact h.elim
def dMod : DR2
  | .int i, .int j, M, Q => j ≠ 0 ∧ Q (.int (i.fmod j)) M
  | _, _, _, _ => False
theorem rel_mod {K : PySem.W.Frag} : Rel2 K (rI (fun _ j => j ≠ 0) fun i j => .int (i.fmod j)) dMod := by
  intro x y vx vy H F M Qd Q rx ry s h po
  unfold dMod at h
  split at h
  · unfold Rp at rx ry
    exact ⟨_, _, rx, ry, h.1, po.fin s h.2 (by unfold Rp; rfl)⟩
  · exact h.elim
def dPow : DR2
  | .int i, .int j, M, Q => CPow i j ∧ Q (.int (i ^ j.toNat)) M
  | _, _, _, _ => False
theorem rel_pow {K : PySem.W.Frag} : Rel2 K (rI CPow fun i j => .int (i ^ j.toNat)) dPow := by
  intro x y vx vy H F M Qd Q rx ry s h po
  unfold dPow at h
  split at h
  · unfold Rp at rx ry
    exact ⟨_, _, rx, ry, h.1, po.fin s h.2 (by unfold Rp; rfl)⟩
  · exact h.elim
def dShl : DR2
  | .int i, .int j, M, Q => CShl i j ∧ Q (.int (i * 2 ^ j.toNat)) M
  | _, _, _, _ => False
theorem rel_shl {K : PySem.W.Frag} : Rel2 K (rI CShl fun i j => .int (i * 2 ^ j.toNat)) dShl := by
  intro x y vx vy H F M Qd Q rx ry s h po
  unfold dShl at h
  split at h
  · unfold Rp at rx ry
    exact ⟨_, _, rx, ry, h.1, po.fin s h.2 (by unfold Rp; rfl)⟩
  · exact h.elim
def dNeg : DUn
  | .int i, M, Q => Q (.int (-i)) M
  | _, _, _ => False
theorem rel_neg {K : PySem.W.Frag} : Rel1 K (rU fun i => .int (-i)) dNeg := by
  intro x vx H F M Qd Q rx s h po
  unfold dNeg at h
  split at h
  · unfold Rp at rx
    exact ⟨_, rx, po.fin s h (by unfold Rp; rfl)⟩
  · exact h.elim
section
variable {X : Cx} {a b c : Expr} {ua ub uc : DTE} {pos : Pos}
theorem de_add (mu : Bool) (ha : DE X a ua) (hb : DE X b ub) : DE X (.BinOp a .Add b pos) (dOp (dAdd mu) ua ub) := de_op op_addAll rel_add ha hb
theorem de_sub (ha : DE X a ua) (hb : DE X b ub) : DE X (.BinOp a .Sub b pos) (dOp dSub ua ub) := de_op op_sub rel_sub ha hb
theorem de_mul (mu : Bool) (ha : DE X a ua) (hb : DE X b ub) : DE X (.BinOp a .Mult b pos) (dOp (dMul mu) ua ub) := de_op op_mulAll rel_mul ha hb
theorem de_fdiv (ha : DE X a ua) (hb : DE X b ub) : DE X (.BinOp a .FloorDiv b pos) (dOp dFdiv ua ub) := de_op op_fdivX rel_fdiv ha hb
theorem de_mod (ha : DE X a ua) (hb : DE X b ub) : DE X (.BinOp a .Mod b pos) (dOp dMod ua ub) := de_op op_modN rel_mod ha hb
theorem de_pow (ha : DE X a ua) (hb : DE X b ub) : DE X (.BinOp a .Pow b pos) (dOp dPow ua ub) := de_op op_pow rel_pow ha hb
theorem de_shl (ha : DE X a ua) (hb : DE X b ub) : DE X (.BinOp a .LShift b pos) (dOp dShl ua ub) := de_op op_shlW rel_shl ha hb
theorem de_neg (ha : DE X a ua) : DE X (.UnaryOp .USub a pos) (dUn dNeg ua) := de_un un_neg rel_neg ha
end

/-! ### comparisons -/
mutual
def pyd : D → Option PyData
  | .non => some .none
  | .bl b => some (.bool b)
  | .int i => some (.int i)
  | .str cs => some (.str (mkS cs))
  | .tup ds => (pydL ds).map .tuple
  | .lst ds => (pydL ds).map .list
  | .src ns => some (.list (ns.map .int))
  | _ => none
def pydL : List D → Option (List PyData)
  | [] => some []
  | d :: ds => match pyd d, pydL ds with
    | some p, some ps => some (p :: ps)
    | _, _ => none
end
theorem dpAll_ints {K : PySem.W.Frag} {H : Hp} : ∀ ns : List Int, DpAll K H (ns.map V.int) (ns.map PyData.int)
  | [] => .nil
  | n :: ns => .cons (.int n) (dpAll_ints ns)
mutual
theorem pyd_at {K : PySem.W.Frag} {H F : Hp} (l : Le F H) : ∀ {d : D} {v : V} {p : PyData}, Rp K F d v → pyd d = some p → Dp K H v p
  | .non, _, _, r, e => by unfold Rp at r; unfold pyd at e; cases e; subst r; exact .non
  | .bl _, _, _, r, e => by unfold Rp at r; unfold pyd at e; cases e; subst r; exact .bl _
  | .int _, _, _, r, e => by unfold Rp at r; unfold pyd at e; cases e; subst r; exact .int _
  | .str _, _, _, r, e => by unfold Rp at r; unfold pyd at e; cases e; subst r; exact .str _
  | .ref _, _, _, r, e => by unfold pyd at e; cases e
  | .ty _, _, _, r, e => by unfold pyd at e; cases e
  | .src ns, _, _, r, e => by
    unfold Rp at r; unfold pyd at e; cases e
    obtain ⟨a, e1, h1⟩ := r
    subst e1
    exact .lst (l.sqL h1) (dpAll_ints ns)
  | .tup ds, _, _, r, e => by
    unfold Rp at r; unfold pyd at e
    obtain ⟨a, xs, e1, h1, r1⟩ := r
    subst e1
    cases q : pydL ds with
    | none => rw [q] at e; cases e
    | some ps => rw [q] at e; cases e; exact .tup (l.sqT h1) (pydL_at l r1 q)
  | .lst ds, _, _, r, e => by
    unfold Rp at r; unfold pyd at e
    obtain ⟨a, xs, e1, h1, r1⟩ := r
    subst e1
    cases q : pydL ds with
    | none => rw [q] at e; cases e
    | some ps => rw [q] at e; cases e; exact .lst (.inl (.inl (l _ _ h1))) (pydL_at l r1 q)
theorem pydL_at {K : PySem.W.Frag} {H F : Hp} (l : Le F H) : ∀ {ds : List D} {vs : List V} {ps : List PyData}, RpL K F ds vs → pydL ds = some ps → DpAll K H vs ps
  | [], _, _, r, e => by unfold RpL at r; unfold pydL at e; cases e; subst r; exact .nil
  | d :: ds, _, _, r, e => by
    unfold RpL at r
    obtain ⟨x, xs, e1, r1, r2⟩ := r
    subst e1
    unfold pydL at e
    cases q1 : pyd d with
    | none => rw [q1] at e; cases e
    | some p =>
      cases q2 : pydL ds with
      | none => rw [q1, q2] at e; cases e
      | some ps =>
        rw [q1, q2] at e; cases e
        exact .cons (pyd_at l r1 q1) (pydL_at l r2 q2)
end
/-- a list that may change, as data at its top -/
def pydM (M : Mu) : D → Option PyData
  | .ref a => match M a with
    | some (.lst ds) => (pydL ds).map .list
    | _ => none
  | d => pyd d
theorem pydM_at {K : PySem.W.Frag} {H F : Hp} {M : Mu} (s : Sv K H F M) {d : D} {v : V} {p : PyData} (r : Rp K F d v) (e : pydM M d = some p) : Dp K H v p := by
  cases d with
  | ref a =>
    unfold Rp at r
    subst r
    have e' : (match M a with | some (.lst ds) => (pydL ds).map .list | _ => none) = some p := e
    cases q : M a with
    | none => rw [q] at e'; cases e'
    | some o =>
      rw [q] at e'
      cases o with
      | dic _ => cases e'
      | lst ds =>
        obtain ⟨ho, e2, xs, e3, r1⟩ := s.mu a _ q
        subst e3
        have e4 : (pydL ds).map PyData.list = some p := e'
        cases q2 : pydL ds with
        | none => rw [q2] at e4; cases e4
        | some ps => rw [q2] at e4; cases e4; exact .lst (.inl (.inl e2)) (pydL_at s.fh r1 q2)
  | _ => exact pyd_at s.fh r e
/-- data whose == is told -/
def dEqv (M : Mu) (x y : D) (Q : Bool → Prop) : Prop := match x, y with
  | .int i, .int j => Q (decide (i = j))
  | .str a, .str b => Q (decide (a = b))
  | .bl a, .bl b => Q (decide (a = b))
  | .non, .non => Q true
  | .non, .int _ => Q false
  | .int _, .non => Q false
  | .non, .str _ => Q false
  | .str _, .non => Q false
  | .non, .bl _ => Q false
  | .bl _, .non => Q false
  | .int _, .str _ => Q false
  | .str _, .int _ => Q false
  | x, y => ∃ d e, pydM M x = some d ∧ pydM M y = some e ∧ SeqAt.shaped d = true ∧ SeqAt.shaped e = true ∧ Q (PyData.eqv d e)
def dEq : DR2 := fun x y M Q => dEqv M x y fun b => Q (.bl b) M
def dNe : DR2 := fun x y M Q => dEqv M x y fun b => Q (.bl (!b)) M
def rEqAll (K : PySem.W.Frag) : R2 := fun x y H Q => rEq x y H Q ∨ rEqD K x y H Q
def rNeAll (K : PySem.W.Frag) : R2 := fun x y H Q => rNe x y H Q ∨ rNeD K x y H Q
theorem dec_mkS (a b : List Nat) : decide (V.str (mkS a) = V.str (mkS b)) = decide (a = b) := by
  by_cases e : a = b
  · subst e; simp
  · rw [decide_eq_false e]
    exact decide_eq_false fun z => e (mkS_inj (V.str.inj z))
theorem rel_eqv {K : PySem.W.Frag} {x y : D} {vx vy : V} {H F : Hp} {M : Mu} {Qd : Bool → Prop} {Q : Bool → Prop} (rx : Rp K F x vx) (ry : Rp K F y vy) (s : Sv K H F M) (h : dEqv M x y Qd) (po : ∀ b, Qd b → Q b) :
    (scal vx vy = true ∧ Q (decide (vx = vy))) ∨ ∃ d e, Dp K H vx d ∧ Dp K H vy e ∧ SeqAt.shaped d = true ∧ SeqAt.shaped e = true ∧ Q (PyData.eqv d e) := by
  unfold dEqv at h
  split at h
  · unfold Rp at rx ry; subst rx ry
    refine .inl ⟨rfl, ?_⟩
    rename_i i j
    have e : decide (V.int i = V.int j) = decide (i = j) := by rw [dec_int]; rfl
    rw [e]; exact po _ h
  · unfold Rp at rx ry; subst rx ry
    refine .inl ⟨rfl, ?_⟩
    rw [dec_mkS]; exact po _ h
  · unfold Rp at rx ry; subst rx ry
    refine .inl ⟨rfl, ?_⟩
    rename_i i j
    have e : decide (V.bl i = V.bl j) = decide (i = j) := by cases i <;> cases j <;> rfl
    rw [e]; exact po _ h
  · unfold Rp at rx ry; subst rx ry
    exact .inl ⟨rfl, po _ h⟩
  all_goals first
    | (unfold Rp at rx ry; subst rx ry; exact .inl ⟨rfl, by rw [decide_eq_false (by intro z; cases z)]; exact po _ h⟩)
    | skip
  obtain ⟨d, e, e1, e2, s1, s2, q⟩ := h
  exact .inr ⟨d, e, pydM_at s rx e1, pydM_at s ry e2, s1, s2, po _ q⟩
theorem rel_eq {K : PySem.W.Frag} : Rel2 K (rEqAll K) dEq := by
  intro x y vx vy H F M Qd Q rx ry s h po
  rcases rel_eqv (Q := fun b => Q (.bl b) H) rx ry s h (fun b q => po.fin s q (by unfold Rp; rfl)) with h | h
  · exact .inl h
  · exact .inr h
theorem rel_ne {K : PySem.W.Frag} : Rel2 K (rNeAll K) dNe := by
  intro x y vx vy H F M Qd Q rx ry s h po
  rcases rel_eqv (Q := fun b => Q (.bl (!b)) H) rx ry s h (fun b q => po.fin s q (by unfold Rp; rfl)) with h | h
  · exact .inl h
  · exact .inr h
theorem op_eqAll {X : Cx} (hu : X.A.units + 64 < cLine) : OpR X (compareOp .Eq) (rEqAll X.K) := OpR.or op_eq (op_eqD hu)
theorem op_neAll {X : Cx} (hu : X.A.units + 64 < cLine) : OpR X (compareOp .NotEq) (rNeAll X.K) := OpR.or op_ne (op_neD hu)
def dLt : DR2
  | .int i, .int j, M, Q => Q (.bl (decide (i < j))) M
  | .str a, .str b, M, Q => Q (.bl (decide (a < b))) M
  | _, _, _, _ => False
def dGt : DR2
  | .int i, .int j, M, Q => Q (.bl (decide (j < i))) M
  | .str a, .str b, M, Q => Q (.bl (decide (b < a))) M
  | _, _, _, _ => False
def dLe : DR2
  | .int i, .int j, M, Q => Q (.bl (decide (i ≤ j))) M
  | .str a, .str b, M, Q => Q (.bl (!decide (b < a))) M
  | _, _, _, _ => False
def dGe : DR2
  | .int i, .int j, M, Q => Q (.bl (decide (j ≤ i))) M
  | .str a, .str b, M, Q => Q (.bl (!decide (a < b))) M
  | _, _, _, _ => False
def rCmpAll (f : Int → Int → Bool) (g : List Nat → List Nat → Bool) : R2 := fun x y H Q => (rI0 fun i j => .bl (f i j)) x y H Q ∨ (∃ i j, x = .str i ∧ y = .str j ∧ Q (.bl (g i.cps.toList j.cps.toList)) H)
theorem op_ltAll {X : Cx} : OpR X (compareOp .Lt) (rCmpAll (fun i j => decide (i < j)) fun a b => decide (a < b)) := OpR.or op_lt op_lt_str
theorem op_gtAll {X : Cx} : OpR X (compareOp .Gt) (rCmpAll (fun i j => decide (j < i)) fun a b => decide (b < a)) := OpR.or op_gt op_gt_str
theorem op_leAll {X : Cx} : OpR X (compareOp .LtE) (rCmpAll (fun i j => decide (i ≤ j)) fun a b => !decide (b < a)) := OpR.or op_le op_le_str
theorem op_geAll {X : Cx} : OpR X (compareOp .GtE) (rCmpAll (fun i j => decide (j ≤ i)) fun a b => !decide (a < b)) := OpR.or op_ge op_ge_str
theorem rel_lt {K : PySem.W.Frag} : Rel2 K (rCmpAll (fun i j => decide (i < j)) fun a b => decide (a < b)) dLt := by
  intro x y vx vy H F M Qd Q rx ry s h po
  unfold dLt at h
  split at h
  · unfold Rp at rx ry; exact .inl ⟨_, _, rx, ry, po.fin s h (by unfold Rp; rfl)⟩
  · unfold Rp at rx ry; exact .inr ⟨_, _, rx, ry, po.fin s h (by unfold Rp; rfl)⟩
  · exact h.elim
theorem rel_gt {K : PySem.W.Frag} : Rel2 K (rCmpAll (fun i j => decide (j < i)) fun a b => decide (b < a)) dGt := by
  intro x y vx vy H F M Qd Q rx ry s h po
  unfold dGt at h
  split at h
  · unfold Rp at rx ry; exact .inl ⟨_, _, rx, ry, po.fin s h (by unfold Rp; rfl)⟩
  · unfold Rp at rx ry; exact .inr ⟨_, _, rx, ry, po.fin s h (by unfold Rp; rfl)⟩
  · exact h.elim
theorem rel_le {K : PySem.W.Frag} : Rel2 K (rCmpAll (fun i j => decide (i ≤ j)) fun a b => !decide (b < a)) dLe := by
  intro x y vx vy H F M Qd Q rx ry s h po
  unfold dLe at h
  split at h
  · unfold Rp at rx ry; exact .inl ⟨_, _, rx, ry, po.fin s h (by unfold Rp; rfl)⟩
  · unfold Rp at rx ry; exact .inr ⟨_, _, rx, ry, po.fin s h (by unfold Rp; rfl)⟩
  · exact h.elim
theorem rel_ge {K : PySem.W.Frag} : Rel2 K (rCmpAll (fun i j => decide (j ≤ i)) fun a b => !decide (a < b)) dGe := by
  intro x y vx vy H F M Qd Q rx ry s h po
  unfold dGe at h
  split at h
  · unfold Rp at rx ry; exact .inl ⟨_, _, rx, ry, po.fin s h (by unfold Rp; rfl)⟩
  · unfold Rp at rx ry; exact .inr ⟨_, _, rx, ry, po.fin s h (by unfold Rp; rfl)⟩
  · exact h.elim
def isNon : D → Bool
  | .non => true
  | _ => false
theorem isNon_at {K : PySem.W.Frag} {F : Hp} {d : D} {v : V} (r : Rp K F d v) : decide (v = .non) = isNon d := by
  cases d with
  | non => unfold Rp at r; subst r; rfl
  | bl _ => unfold Rp at r; subst r; rfl
  | int _ => unfold Rp at r; subst r; rfl
  | str _ => unfold Rp at r; subst r; rfl
  | ref _ => unfold Rp at r; subst r; rfl
  | ty _ => unfold Rp at r; subst r; rfl
  | src _ => unfold Rp at r; obtain ⟨a, e, _⟩ := r; subst e; rfl
  | tup _ => unfold Rp at r; obtain ⟨a, _, e, _⟩ := r; subst e; rfl
  | lst _ => unfold Rp at r; obtain ⟨a, _, e, _⟩ := r; subst e; rfl
def dIsN : DR2 := fun x y M Q => isNon y = true ∧ Q (.bl (isNon x)) M
def dNotN : DR2 := fun x y M Q => isNon y = true ∧ Q (.bl (!isNon x)) M
theorem non_at {K : PySem.W.Frag} {F : Hp} {d : D} {v : V} (r : Rp K F d v) (h : isNon d = true) : v = .non := by
  rw [← isNon_at r] at h
  exact of_decide_eq_true h
theorem rel_isN {K : PySem.W.Frag} : Rel2 K (fun x y H Q => y = .non ∧ Q (.bl (decide (x = .non))) H) dIsN := fun x y vx vy H F M Qd Q rx ry s h po =>
  ⟨non_at ry h.1, po.fin s h.2 (by unfold Rp; rw [isNon_at rx])⟩
theorem rel_notN {K : PySem.W.Frag} : Rel2 K (fun x y H Q => y = .non ∧ Q (.bl (!decide (x = .non))) H) dNotN := fun x y vx vy H F M Qd Q rx ry s h po =>
  ⟨non_at ry h.1, po.fin s h.2 (by unfold Rp; rw [isNon_at rx])⟩
/-! ### in -/
def flatD : D → Bool
  | .non => true
  | .bl _ => true
  | .int _ => true
  | .str _ => true
  | _ => false
def eqFl : D → D → Bool
  | .non, .non => true
  | .bl a, .bl b => a == b
  | .bl a, .int b => (if a then 1 else 0) == b
  | .int a, .bl b => a == (if b then 1 else 0)
  | .int a, .int b => decide (a = b)
  | .str a, .str b => decide (a = b)
  | _, _ => false
theorem flat_of {K : PySem.W.Frag} {F : Hp} {d : D} {v : V} (r : Rp K F d v) (h : flatD d = true) : flatV v = true := by
  cases d <;> first | (cases h; done) | (unfold Rp at r; subst r; rfl)
theorem eqFl_of {K : PySem.W.Frag} {F : Hp} {d e : D} {v u : V} (r : Rp K F d v) (q : Rp K F e u) (h : flatD d = true) (h' : flatD e = true) : eqV v u = eqFl d e := by
  cases d <;> first | (cases h; done) | (cases e <;> first | (cases h'; done) | (unfold Rp at r q; subst r q; first | rfl | skip))
  · rename_i a b
    show (mkS a == mkS b) = decide (a = b)
    by_cases e : a = b
    · subst e; simp
    · rw [decide_eq_false e]
      exact beq_eq_false_iff_ne.mpr fun z => e (mkS_inj z)
theorem flats_of {K : PySem.W.Frag} {F : Hp} : ∀ {ds : List D} {vs : List V}, RpL K F ds vs → ds.all flatD = true → vs.all flatV = true
  | [], _, r, _ => by unfold RpL at r; subst r; rfl
  | d :: ds, _, r, h => by
    unfold RpL at r
    obtain ⟨x, xs, e, r1, r2⟩ := r
    subst e
    rw [List.all_cons, Bool.and_eq_true] at h ⊢
    exact ⟨flat_of r1 h.1, flats_of r2 h.2⟩
def inD (x : D) (ds : List D) : Bool := ds.any fun y => eqFl y x
theorem inD_of {K : PySem.W.Frag} {F : Hp} {x : D} {vx : V} (rx : Rp K F x vx) (hx : flatD x = true) : ∀ {ds : List D} {vs : List V}, RpL K F ds vs → ds.all flatD = true → inV vx vs = inD x ds
  | [], _, r, _ => by unfold RpL at r; subst r; rfl
  | d :: ds, _, r, h => by
    unfold RpL at r
    obtain ⟨y, xs, e, r1, r2⟩ := r
    subst e
    rw [List.all_cons, Bool.and_eq_true] at h
    have ih := inD_of rx hx r2 h.2
    unfold inV inD at ih ⊢
    rw [List.any_cons, List.any_cons, eqFl_of r1 rx h.1 hx, ih]
/-- the items of a list, a tuple -/
def dits (M : Mu) : D → Option (List D)
  | .tup ds => some ds
  | .src ns => some (ns.map .int)
  | d => dseq M d
theorem dits_at {K : PySem.W.Frag} {H F : Hp} {M : Mu} {d : D} {v : V} {ds : List D} (s : Sv K H F M) (r : Rp K F d v) (h : dits M d = some ds) : ∃ a xs, v = .ref a ∧ (SqL K H a xs ∨ SqT K H a xs) ∧ RpL K F ds xs := by
  have old : dseq M d = some ds → ∃ a xs, v = .ref a ∧ (SqL K H a xs ∨ SqT K H a xs) ∧ RpL K F ds xs := fun q => by
    obtain ⟨a, xs, e, h1, r1⟩ := dseq_at s r q
    exact ⟨a, xs, e, .inl (.inl (.inl h1)), r1⟩
  cases d with
  | tup es =>
    unfold Rp at r
    obtain ⟨a, xs, e, h1, r1⟩ := r
    cases h
    exact ⟨a, xs, e, .inr (s.fh.sqT h1), r1⟩
  | src ns =>
    unfold Rp at r
    obtain ⟨a, e, h1⟩ := r
    cases h
    exact ⟨a, _, e, .inl (s.fh.sqL h1), RpL.ints⟩
  | _ => exact old h
def dInB (neg : Bool) : DR2 := fun x y M Q => match x, y with
  | .str [c], .str cs => Q (.bl (if neg then !decide (c ∈ cs) else decide (c ∈ cs))) M
  | x, y => match dits M y with
    | some ds => flatD x = true ∧ ds.all flatD = true ∧ Q (.bl (if neg then !inD x ds else inD x ds)) M
    | none => False
def rInAll (K : PySem.W.Frag) (neg : Bool) : R2 := fun x y H Q => (∃ (c : Nat) (z : Str), x = .str ⟨#[c]⟩ ∧ y = .str z ∧ Q (.bl (if neg then !decide (c ∈ z.cps.toList) else decide (c ∈ z.cps.toList))) H) ∨ rIn K neg x y H Q
theorem op_inAll {X : Cx} : OpR X (compareOp .In) (rInAll X.K false) := OpR.or op_in_sign op_in_seq
theorem op_ninAll {X : Cx} : OpR X (compareOp .NotIn) (rInAll X.K true) := OpR.or op_notIn_sign op_notIn_seq
theorem rel_in {K : PySem.W.Frag} {neg : Bool} : Rel2 K (rInAll K neg) (dInB neg) := by
  intro x y vx vy H F M Qd Q rx ry s h po
  unfold dInB at h
  split at h
  · unfold Rp at rx ry
    exact .inl ⟨_, _, rx, ry, po.fin s h (by unfold Rp; rfl)⟩
  · split at h
    · rename_i ds e
      obtain ⟨h1, h2, h3⟩ := h
      obtain ⟨a, xs, e1, hs, r1⟩ := dits_at s ry e
      refine .inr ⟨a, xs, e1, hs, flat_of rx h1, flats_of r1 h2, ?_⟩
      rw [inD_of rx h1 r1 h2]
      exact po.fin s h3 (by unfold Rp; rfl)
    · exact h.elim
section
variable {X : Cx} {a b c : Expr} {ua ub uc : DTE} {pos : Pos}
theorem de_eq (hu : X.A.units + 64 < cLine) (ha : DE X a ua) (hb : DE X b ub) : DE X (.Compare a [.Eq] [b] pos) (dOp dEq ua ub) := de_cmp (op_eqAll hu) rel_eq ha hb (nomark _)
theorem de_ne (hu : X.A.units + 64 < cLine) (ha : DE X a ua) (hb : DE X b ub) : DE X (.Compare a [.NotEq] [b] pos) (dOp dNe ua ub) := de_cmp (op_neAll hu) rel_ne ha hb (nomark _)
theorem de_lt (ha : DE X a ua) (hb : DE X b ub) : DE X (.Compare a [.Lt] [b] pos) (dOp dLt ua ub) := de_cmp op_ltAll rel_lt ha hb (nomark _)
theorem de_gt (ha : DE X a ua) (hb : DE X b ub) : DE X (.Compare a [.Gt] [b] pos) (dOp dGt ua ub) := de_cmp op_gtAll rel_gt ha hb (nomark _)
theorem de_le (ha : DE X a ua) (hb : DE X b ub) : DE X (.Compare a [.LtE] [b] pos) (dOp dLe ua ub) := de_cmp op_leAll rel_le ha hb (nomark _)
theorem de_ge (ha : DE X a ua) (hb : DE X b ub) : DE X (.Compare a [.GtE] [b] pos) (dOp dGe ua ub) := de_cmp op_geAll rel_ge ha hb (nomark _)
theorem de_isN (ha : DE X a ua) (hb : DE X b ub) : DE X (.Compare a [.Is] [b] pos) (dOp dIsN ua ub) := de_cmp op_isN rel_isN ha hb (nomark _)
theorem de_notN (ha : DE X a ua) (hb : DE X b ub) : DE X (.Compare a [.IsNot] [b] pos) (dOp dNotN ua ub) := de_cmp op_notN rel_notN ha hb (nomark _)
theorem de_in (ha : DE X a ua) (hb : DE X b ub) (hm : behindInMarks .In b = false := by rfl) : DE X (.Compare a [.In] [b] pos) (dOp (dInB false) ua ub) := de_cmp op_inAll rel_in ha hb hm
theorem de_nin (ha : DE X a ua) (hb : DE X b ub) (hm : behindInMarks .NotIn b = false := by rfl) : DE X (.Compare a [.NotIn] [b] pos) (dOp (dInB true) ua ub) := de_cmp op_ninAll rel_in ha hb hm
end
end DL

namespace DL
open PySem PySem.Spec PyProof.Rows L2 TL

/-! ### tests -/
def dTest (u : DTE) : DTT := fun δ M Q => u δ M fun d M1 => match d with
  | .bl b => Q b M1
  | _ => False
theorem lift_test {K : PySem.W.Frag} {u : DTE} {σ : L2.St} {H : Hp} {Q : Bool → Hp → Prop} (h : liftT K (dTest u) σ H Q) : lift K u σ H fun x H' => ∃ k, x = .bl k ∧ Q k H' := by
  obtain ⟨δ, M, F, Qd, hE, s, hu, p⟩ := h
  refine ⟨δ, M, F, _, hE, s, hu, fun d M' F' v H' q g s' r => ?_⟩
  cases d <;> first | exact False.elim q | skip
  unfold Rp at r
  subst r
  exact ⟨_, rfl, p _ _ _ _ q g s'⟩
/-- truth of data -/
def dTruB (M : Mu) (d : D) (Q : Bool → Prop) : Prop := match d with
  | .non => Q false
  | .bl b => Q b
  | .int i => Q (i != 0)
  | .str cs => cs.length ≤ sizeLine ∧ Q (!cs.isEmpty)
  | d => match dits M d with
    | some ds => Q (!ds.isEmpty)
    | none => False
def dTru (u : DTE) : DTT := fun δ M Q => u δ M fun d M1 => dTruB M1 d fun b => Q b M1
def dNot (t : DTT) : DTT := fun δ M Q => t δ M fun b M1 => Q (!b) M1
def dAnd (t u : DTT) : DTT := fun δ M Q => t δ M fun b M1 => match b with
  | true => u δ M1 Q
  | false => Q false M1
def dOr (t u : DTT) : DTT := fun δ M Q => t δ M fun b M1 => match b with
  | true => Q true M1
  | false => u δ M1 Q
def dIf (t : DTT) (ua ub : DTE) : DTE := fun δ M Q => t δ M fun b M1 => match b with
  | true => ua δ M1 Q
  | false => ub δ M1 Q
/-- and, or, not as values: all but the last True or False -/
def dAndV (ua ub : DTE) : DTE := fun δ M Q => ua δ M fun d M1 => match d with
  | .bl true => ub δ M1 Q
  | .bl false => Q (.bl false) M1
  | _ => False
def dOrV (ua ub : DTE) : DTE := fun δ M Q => ua δ M fun d M1 => match d with
  | .bl true => Q (.bl true) M1
  | .bl false => ub δ M1 Q
  | _ => False
def dNotV (ua : DTE) : DTE := fun δ M Q => ua δ M fun d M1 => match d with
  | .bl b => Q (.bl (!b)) M1
  | _ => False
theorem isEmpty_rel {K : PySem.W.Frag} {F : Hp} {ds : List D} {xs : List V} (r : RpL K F ds xs) : (!xs.isEmpty) = !ds.isEmpty := by
  have := r.len
  cases ds <;> cases xs <;> first | rfl | (simp at this)
theorem tru_rel {K : PySem.W.Frag} {H F : Hp} {M : Mu} {d : D} {v : V} {Q : Bool → Prop} (s : Sv K H F M) (r : Rp K F d v) (h : dTruB M d Q) : ∃ k, TruV K v H k ∧ Q k := by
  have old : (match dits M d with | some ds => Q (!ds.isEmpty) | none => False) → ∃ k, TruV K v H k ∧ Q k := fun h => by
    split at h
    · rename_i ds e
      obtain ⟨a, xs, e1, hs, r1⟩ := dits_at s r e
      subst e1
      refine ⟨_, ?_, h⟩
      rcases hs with hs | hs
      · exact .inl ⟨xs, hs, (isEmpty_rel r1).symm⟩
      · exact .inr (.inl ⟨xs, hs, (isEmpty_rel r1).symm⟩)
    · exact h.elim
  cases d with
  | non => unfold Rp at r; subst r; exact ⟨false, rfl, h⟩
  | bl b => unfold Rp at r; subst r; exact ⟨b, rfl, h⟩
  | int i => unfold Rp at r; subst r; exact ⟨_, rfl, h⟩
  | str cs =>
    unfold Rp at r
    subst r
    refine ⟨_, ⟨by rw [mkS_len]; exact h.1, rfl⟩, ?_⟩
    have e : (((mkS cs).length : Int) != 0) = !cs.isEmpty := by
      rw [mkS_len]
      cases cs with
      | nil => rfl
      | cons c cs => simp [bne]; omega
    rw [e]
    exact h.2
  | _ => exact old h
section
variable {X : Cx} {a b c : Expr} {ua ub uc : DTE} {t u : DTT} {pos : Pos} {rest : List Expr}
theorem dt_cmp {op : CmpOp} {r : R2} {rd : DR2} (ho : OpR X (compareOp op) r) (hr : Rel2 X.K r rd) (ha : DE X a ua) (hb : DE X b ub) (hm : behindInMarks op b = false) : DT X (.Compare a [op] [b] pos) (dTest (dOp rd ua ub)) :=
  PT.weak (pt_cmpR ho ha hb hm) fun σ H Q h => bin2 hr _ _ _ (lift_test h)
theorem dt_eq (hu : X.A.units + 64 < cLine) (ha : DE X a ua) (hb : DE X b ub) : DT X (.Compare a [.Eq] [b] pos) (dTest (dOp dEq ua ub)) := dt_cmp (op_eqAll hu) rel_eq ha hb (nomark _)
theorem dt_ne (hu : X.A.units + 64 < cLine) (ha : DE X a ua) (hb : DE X b ub) : DT X (.Compare a [.NotEq] [b] pos) (dTest (dOp dNe ua ub)) := dt_cmp (op_neAll hu) rel_ne ha hb (nomark _)
theorem dt_lt (ha : DE X a ua) (hb : DE X b ub) : DT X (.Compare a [.Lt] [b] pos) (dTest (dOp dLt ua ub)) := dt_cmp op_ltAll rel_lt ha hb (nomark _)
theorem dt_gt (ha : DE X a ua) (hb : DE X b ub) : DT X (.Compare a [.Gt] [b] pos) (dTest (dOp dGt ua ub)) := dt_cmp op_gtAll rel_gt ha hb (nomark _)
theorem dt_le (ha : DE X a ua) (hb : DE X b ub) : DT X (.Compare a [.LtE] [b] pos) (dTest (dOp dLe ua ub)) := dt_cmp op_leAll rel_le ha hb (nomark _)
theorem dt_ge (ha : DE X a ua) (hb : DE X b ub) : DT X (.Compare a [.GtE] [b] pos) (dTest (dOp dGe ua ub)) := dt_cmp op_geAll rel_ge ha hb (nomark _)
theorem dt_isN (ha : DE X a ua) (hb : DE X b ub) : DT X (.Compare a [.Is] [b] pos) (dTest (dOp dIsN ua ub)) := dt_cmp op_isN rel_isN ha hb (nomark _)
theorem dt_notN (ha : DE X a ua) (hb : DE X b ub) : DT X (.Compare a [.IsNot] [b] pos) (dTest (dOp dNotN ua ub)) := dt_cmp op_notN rel_notN ha hb (nomark _)
theorem dt_in (ha : DE X a ua) (hb : DE X b ub) (hm : behindInMarks .In b = false := by rfl) : DT X (.Compare a [.In] [b] pos) (dTest (dOp (dInB false) ua ub)) := dt_cmp op_inAll rel_in ha hb hm
theorem dt_nin (ha : DE X a ua) (hb : DE X b ub) (hm : behindInMarks .NotIn b = false := by rfl) : DT X (.Compare a [.NotIn] [b] pos) (dTest (dOp (dInB true) ua ub)) := dt_cmp op_ninAll rel_in ha hb hm
/-- an expression that gives True or False -/
theorem dt_val (h : DE X a ua) (he : ∀ whole, isTrue a X.env whole = (do let v ← whole; standAt a.pos; holding [v] (truthy v)) := by intro _; rfl) : DT X a (dTest ua) := PT.weak (pt_val h he) fun σ H Q h => lift_test h
theorem dt_tru (h : DE X a ua) (he : ∀ whole, isTrue a X.env whole = (do let v ← whole; standAt a.pos; holding [v] (truthy v)) := by intro _; rfl) : DT X a (dTru ua) := by
  refine PT.weak (pt_truth h he) fun σ H Q h => ?_
  obtain ⟨δ, M, F, Qd, hE, s, hu, p⟩ := h
  refine ⟨δ, M, F, _, hE, s, hu, fun d M' F' v H' q g s' r => ?_⟩
  obtain ⟨k, tk, q⟩ := tru_rel s' r q
  exact ⟨k, tk, p _ _ _ _ q g s'⟩
theorem dt_not (h : DT X a t) : DT X (.UnaryOp .Not a pos) (dNot t) := by
  refine PT.weak (pt_not h) fun σ H Q h => ?_
  obtain ⟨δ, M, F, Qd, hE, s, hu, p⟩ := h
  exact ⟨δ, M, F, _, hE, s, hu, fun d M' F' H' q g s' => p _ _ _ _ q g s'⟩
theorem dw_and1 (h : DT X a t) : DW X (.BoolOp .And [a] pos) t := pw_and1 h
theorem dw_or1 (h : DT X a t) : DW X (.BoolOp .Or [a] pos) t := pw_or1 h
theorem dw_and (ha : DT X a t) (hb : DW X (.BoolOp .And (b :: rest) pos) u) : DW X (.BoolOp .And (a :: b :: rest) pos) (dAnd t u) := by
  refine PW.weak (pw_and ha hb) fun σ H Q h => ?_
  obtain ⟨δ, M, F, Qd, hE, s, hu, p⟩ := h
  refine ⟨δ, M, F, _, hE, s, hu, fun d M' F' H' q g s' => ?_⟩
  cases d with
  | true => exact ⟨δ, M', F', Qd, hE.mono g.le, s', q, p.go g⟩
  | false => exact p _ _ _ _ q g s'
theorem dw_or (ha : DT X a t) (hb : DW X (.BoolOp .Or (b :: rest) pos) u) : DW X (.BoolOp .Or (a :: b :: rest) pos) (dOr t u) := by
  refine PW.weak (pw_or ha hb) fun σ H Q h => ?_
  obtain ⟨δ, M, F, Qd, hE, s, hu, p⟩ := h
  refine ⟨δ, M, F, _, hE, s, hu, fun d M' F' H' q g s' => ?_⟩
  cases d with
  | true => exact p _ _ _ _ q g s'
  | false => exact ⟨δ, M', F', Qd, hE.mono g.le, s', q, p.go g⟩
theorem de_ifx (hc : DT X c t) (ha : DE X a ua) (hb : DE X b ub) : DE X (.IfExp c a b pos) (dIf t ua ub) := by
  refine PE.weak (pe_ifExp hc ha hb) fun σ H Q h => ?_
  obtain ⟨δ, M, F, Qd, hE, s, hu, p⟩ := h
  refine ⟨δ, M, F, _, hE, s, hu, fun d M' F' H' q g s' => ?_⟩
  cases d with
  | true => exact ⟨δ, M', F', Qd, hE.mono g.le, s', q, p.go g⟩
  | false => exact ⟨δ, M', F', Qd, hE.mono g.le, s', q, p.go g⟩
theorem de_one {op : BoolOp} (h : DE X a ua) : DE X (.BoolOp op [a] pos) ua := pe_one h
theorem de_and (ha : DE X a ua) (hb : DE X (.BoolOp .And (b :: rest) pos) ub) : DE X (.BoolOp .And (a :: b :: rest) pos) (dAndV ua ub) := by
  refine PE.weak (pe_and ha hb) fun σ H Q h => ?_
  obtain ⟨δ, M, F, Qd, hE, s, hu, p⟩ := h
  refine ⟨δ, M, F, _, hE, s, hu, fun d M' F' v H' q g s' r => ?_⟩
  cases d <;> first | exact False.elim q | skip
  rename_i k
  unfold Rp at r
  subst r
  refine ⟨k, rfl, ?_⟩
  cases k with
  | true => exact ⟨δ, M', F', Qd, hE.mono g.le, s', q, p.go g⟩
  | false => exact p _ _ _ _ _ q g s' (by unfold Rp; rfl)
theorem de_or (ha : DE X a ua) (hb : DE X (.BoolOp .Or (b :: rest) pos) ub) : DE X (.BoolOp .Or (a :: b :: rest) pos) (dOrV ua ub) := by
  refine PE.weak (pe_or ha hb) fun σ H Q h => ?_
  obtain ⟨δ, M, F, Qd, hE, s, hu, p⟩ := h
  refine ⟨δ, M, F, _, hE, s, hu, fun d M' F' v H' q g s' r => ?_⟩
  cases d <;> first | exact False.elim q | skip
  rename_i k
  unfold Rp at r
  subst r
  refine ⟨k, rfl, ?_⟩
  cases k with
  | false => exact ⟨δ, M', F', Qd, hE.mono g.le, s', q, p.go g⟩
  | true => exact p _ _ _ _ _ q g s' (by unfold Rp; rfl)
theorem de_not (ha : DE X a ua) : DE X (.UnaryOp .Not a pos) (dNotV ua) := by
  refine PE.weak (pe_not ha) fun σ H Q h => ?_
  obtain ⟨δ, M, F, Qd, hE, s, hu, p⟩ := h
  refine ⟨δ, M, F, _, hE, s, hu, fun d M' F' v H' q g s' r => ?_⟩
  cases d <;> first | exact False.elim q | skip
  unfold Rp at r
  subst r
  exact ⟨_, rfl, p _ _ _ _ _ q g s' (by unfold Rp; rfl)⟩
end

/-! ### argument lists, displays -/
def dNil : DTA := fun _ M Q => Q [] M
def dCons (ua : DTE) (ur : DTA) : DTA := fun δ M Q => ua δ M fun d M1 => ur δ M1 fun ds M2 => Q (d :: ds) M2
def dTup (ua : DTA) : DTE := fun δ M Q => ua δ M fun ds M1 => ds.length ≤ sizeLine ∧ Q (.tup ds) M1
def dLst (mu : Bool) (ua : DTA) : DTE := fun δ M Q => ua δ M fun ds M1 => ds.length ≤ sizeLine ∧ dNew mu ds M1 Q
section
variable {X : Cx} {e a b c : Expr} {es : List Expr} {ua ub uc : DTE} {ur : DTA} {pos : Pos}
theorem da_nil : DA X [] dNil := PA.weak pa_nil fun σ H Q h => by
  obtain ⟨δ, M, F, Qd, hE, s, hu, p⟩ := h
  exact p _ _ _ _ _ hu Go.refl s RpL.nil
theorem da_cons (ha : DE X e ua) (hr : DA X es ur) (hs : starEach (e :: es) X.env = (false, eval e X.env) :: starEach es X.env := by rfl) : DA X (e :: es) (dCons ua ur) := PA.weak (pa_cons ha hr hs) fun σ H Q h => by
  obtain ⟨δ, M, F, Qd, hE, s, hu, p⟩ := h
  refine ⟨δ, M, F, _, hE, s, hu, fun d M' F' v H' q g s' r => ?_⟩
  refine ⟨δ, M', F', _, hE.mono g.le, s', q, fun ds M2 F2 vs H2 q2 g2 s2 r2 => ?_⟩
  exact p _ _ _ _ _ q2 (g.trans g2) s2 (RpL.cons (r.mono g2.le) r2)
theorem de_tup {x1 : Nat} (h : DA X es ur) : DE X (.Tuple es x1 pos) (dTup ur) := PE.weak (pe_tup h) fun σ H Q h => by
  obtain ⟨δ, M, F, Qd, hE, s, hu, p⟩ := h
  refine ⟨δ, M, F, _, hE, s, hu, fun d M' F' v H' q g s' r => ?_⟩
  exact ⟨by rw [← r.len]; exact q.1, fun l hl => newT_at s' r q.2 (p.go g) hl⟩
theorem de_lst (mu : Bool) (h : DA X es ur) : DE X (.List es pos) (dLst mu ur) := PE.weak (pe_lst h) fun σ H Q h => by
  obtain ⟨δ, M, F, Qd, hE, s, hu, p⟩ := h
  refine ⟨δ, M, F, _, hE, s, hu, fun d M' F' v H' q g s' r => ?_⟩
  exact ⟨by rw [← r.len]; exact q.1, fun l hl => dNew_at s' r q.2 (p.go g) hl⟩
end

/-! ### calls of built-ins -/
abbrev DRC := List D → Mu → DK → Prop
def RelC (K : PySem.W.Frag) (r : List V → Hp → VK → Prop) (rd : DRC) : Prop := ∀ ds vs H F M Qd Q, RpL K F ds vs → Sv K H F M → rd ds M Qd → Post K H F M Qd Q → r vs H Q
def dCB (rd : DRC) (ua : DTA) : DTE := fun δ M Q => ua δ M fun ds M1 => rd ds M1 Q
section
variable {X : Cx} {x : Str} {p pos : Pos} {e : Expr} {es : List Expr} {u : DTA} {id T : String} {r : List V → Hp → VK → Prop} {rd : DRC}
theorem cb_rel (hr : RelC X.K r rd) : ∀ σ H Q, lift X.K (dCB rd u) σ H Q → tCB r (liftA X.K u) σ H Q := fun σ H Q h => by
  obtain ⟨δ, M, F, Qd, hE, s, hu, p⟩ := h
  exact ⟨δ, M, F, _, hE, s, hu, fun ds M' F' vs H' q g s' r' => hr ds vs H' F' M' Qd Q r' s' q (p.go g)⟩
theorem de_callB (hc : CallR X (.builtin id) r) (hr : RelC X.K r rd) (hg : Gl X x) (hm : X.mg x = none) (hv : bootBuiltins x = some (.builtin id)) (ha : DA X (e :: es) u) (hn : x ≠ "__name__" := by decide) (hdb : (x == ("__debug__" : Str)) = false := by decide)
    (he : starEach (e :: es) X.env = (false, eval e X.env) :: starEach es X.env := by rfl) (hpl : (backTo pos (starEach es X.env)).any (·.1) = false := by rfl) : DE X (.Call (.Name x p) (e :: es) [] pos) (dCB rd u) := PE.weak (pe_callB hc hg hm hv ha hn hdb he hpl) (cb_rel hr)
theorem de_callTy (hc : CallR X (.type T) r) (hr : RelC X.K r rd) (hg : Gl X x) (hm : X.mg x = none) (hv : bootBuiltins x = some (.type T)) (ha : DA X (e :: es) u) (hn : x ≠ "__name__" := by decide) (hdb : (x == ("__debug__" : Str)) = false := by decide)
    (he : starEach (e :: es) X.env = (false, eval e X.env) :: starEach es X.env := by rfl) (hpl : (backTo pos (starEach es X.env)).any (·.1) = false := by rfl) : DE X (.Call (.Name x p) (e :: es) [] pos) (dCB rd u) := PE.weak (pe_callTy hc hg hm hv ha hn hdb he hpl) (cb_rel hr)
end
theorem RpL.one {K : PySem.W.Frag} {F : Hp} {d : D} {vs : List V} (h : RpL K F [d] vs) : ∃ v, vs = [v] ∧ Rp K F d v := by
  unfold RpL at h
  obtain ⟨x, r, e, h1, h2⟩ := h
  unfold RpL at h2
  subst h2
  exact ⟨x, e, h1⟩
theorem RpL.two {K : PySem.W.Frag} {F : Hp} {d e : D} {vs : List V} (h : RpL K F [d, e] vs) : ∃ v u, vs = [v, u] ∧ Rp K F d v ∧ Rp K F e u := by
  unfold RpL at h
  obtain ⟨x, r, e, h1, h2⟩ := h
  obtain ⟨y, e2, h3⟩ := RpL.one h2
  subst e2
  exact ⟨x, y, e, h1, h3⟩
/-- len -/
def dLen : DRC := fun ds M Q => match ds with
  | [.str cs] => cs.length ≤ sizeLine ∧ Q (.int cs.length) M
  | [d] => match dits M d with
    | some es => Q (.int es.length) M
    | none => False
  | _ => False
def rLenAll (K : PySem.W.Frag) : List V → Hp → VK → Prop := fun xs H Q => ∃ x n, xs = [x] ∧ LenV K x H n ∧ Q (.int n) H
theorem rel_len {K : PySem.W.Frag} : RelC K (rLenAll K) dLen := by
  intro ds vs H F M Qd Q r s h po
  unfold dLen at h
  split at h
  · obtain ⟨v, e, r1⟩ := r.one
    unfold Rp at r1
    subst e r1
    exact ⟨_, _, rfl, ⟨by rw [mkS_len]; exact h.1, rfl⟩, po.fin s h.2 (by unfold Rp; rw [mkS_len])⟩
  · obtain ⟨v, e, r1⟩ := r.one
    subst e
    split at h
    · rename_i es e
      obtain ⟨a, xs, e1, hs, r2⟩ := dits_at s r1 e
      subst e1
      refine ⟨_, xs.length, rfl, ?_, po.fin s h (by unfold Rp; rw [r2.len])⟩
      rcases hs with hs | hs
      · exact .inl ⟨xs, hs, rfl⟩
      · exact .inr ⟨xs, hs, rfl⟩
    · exact h.elim
  · exact h.elim
def dAbs : DRC := fun ds M Q => match ds with
  | [.int i] => Q (.int (i.natAbs : Int)) M
  | _ => False
theorem rel_abs {K : PySem.W.Frag} : RelC K (fun xs H Q => ∃ i, xs = [.int i] ∧ Q (.int (if i < 0 then -i else i)) H) dAbs := by
  intro ds vs H F M Qd Q r s h po
  unfold dAbs at h
  split at h
  · obtain ⟨v, e, r1⟩ := r.one
    unfold Rp at r1
    subst e r1
    refine ⟨_, rfl, po.fin s h ?_⟩
    unfold Rp
    congr 1
    split <;> omega
  · exact h.elim
def dMin2 : DRC := fun ds M Q => match ds with
  | [.int i, .int j] => Q (.int (if j < i then j else i)) M
  | _ => False
theorem rel_min2 {K : PySem.W.Frag} : RelC K (fun xs H Q => ∃ i j, xs = [.int i, .int j] ∧ Q (.int (if j < i then j else i)) H) dMin2 := by
  intro ds vs H F M Qd Q r s h po
  unfold dMin2 at h
  split at h
  · obtain ⟨v, u, e, r1, r2⟩ := r.two
    unfold Rp at r1 r2
    subst e r1 r2
    exact ⟨_, _, rfl, po.fin s h (by unfold Rp; rfl)⟩
  · exact h.elim
def dMax2 : DRC := fun ds M Q => match ds with
  | [.int i, .int j] => Q (.int (if j > i then j else i)) M
  | _ => False
theorem rel_max2 {K : PySem.W.Frag} : RelC K (fun xs H Q => ∃ i j, xs = [.int i, .int j] ∧ Q (.int (if j > i then j else i)) H) dMax2 := by
  intro ds vs H F M Qd Q r s h po
  unfold dMax2 at h
  split at h
  · obtain ⟨v, u, e, r1, r2⟩ := r.two
    unfold Rp at r1 r2
    subst e r1 r2
    exact ⟨_, _, rfl, po.fin s h (by unfold Rp; rfl)⟩
  · exact h.elim
theorem CallR.or2 {X : Cx} {f : Value} {r r' : List V → Hp → VK → Prop} (h : CallR X f r) (h' : CallR X f r') : CallR X f (fun xs H Q => r xs H Q ∨ r' xs H Q) := CallR.or h h'
/-- int(..) of an int, a bool, a text -/
def dInt : DRC := fun ds M Q => match ds with
  | [.int i] => Q (.int i) M
  | [.bl b] => Q (.int (if b then 1 else 0)) M
  | [.str cs] => ∃ n, PySem.intText? (mkS cs) = some n ∧ cs.length ≤ 640 ∧ Q (.int n) M
  | _ => False
def rIntAll : List V → Hp → VK → Prop := fun xs H Q => ((∃ i, xs = [.int i] ∧ Q (.int i) H) ∨ ∃ k, xs = [.bl k] ∧ Q (.int (if k then 1 else 0)) H) ∨ (∃ a n, xs = [.str a] ∧ PySem.intText? a = some n ∧ a.length ≤ 640 ∧ Q (.int n) H)
theorem call_intAll {X : Cx} : CallR X (.type "int") rIntAll := CallR.or call_int1 call_int_str
theorem rel_int {K : PySem.W.Frag} : RelC K rIntAll dInt := by
  intro ds vs H F M Qd Q r s h po
  unfold dInt at h
  split at h
  · obtain ⟨v, e, r1⟩ := r.one
    unfold Rp at r1
    subst e r1
    exact .inl (.inl ⟨_, rfl, po.fin s h (by unfold Rp; rfl)⟩)
  · obtain ⟨v, e, r1⟩ := r.one
    unfold Rp at r1
    subst e r1
    exact .inl (.inr ⟨_, rfl, po.fin s h (by unfold Rp; rfl)⟩)
  · obtain ⟨v, e, r1⟩ := r.one
    unfold Rp at r1
    subst e r1
    obtain ⟨n, h1, h2, h3⟩ := h
    exact .inr ⟨_, n, rfl, h1, by rw [mkS_len]; exact h2, po.fin s h3 (by unfold Rp; rfl)⟩
  · exact h.elim
/-- the signs of an int's text -/
def numI (i : Int) : List Nat := tl (Str.ofString (toString i))
def dStr : DRC := fun ds M Q => match ds with
  | [.int i] => i.natAbs.log2 < 1920 ∧ Q (.str (numI i)) M
  | _ => False
theorem rel_str {K : PySem.W.Frag} : RelC K (fun xs H Q => ∃ i : Int, xs = [.int i] ∧ i.natAbs.log2 < 1920 ∧ Q (.str (toString i)) H) dStr := by
  intro ds vs H F M Qd Q r s h po
  unfold dStr at h
  split at h
  · obtain ⟨v, e, r1⟩ := r.one
    unfold Rp at r1
    subst e r1
    refine ⟨_, rfl, h.1, po.fin s h.2 ?_⟩
    unfold Rp numI
    rw [mkS_of]
  · exact h.elim
def intsOf : List D → Option (List Int)
  | [] => some []
  | .int i :: ds => (intsOf ds).map (i :: ·)
  | _ :: _ => none
theorem intsOf_at {K : PySem.W.Frag} {F : Hp} : ∀ {ds : List D} {vs : List V} {ns : List Int}, RpL K F ds vs → intsOf ds = some ns → vs = ns.map V.int
  | [], _, _, r, e => by unfold RpL at r; cases e; exact r
  | d :: ds, _, _, r, e => by
    unfold RpL at r
    obtain ⟨x, xs, e1, r1, r2⟩ := r
    cases d <;> first | (cases e; done) | skip
    unfold intsOf at e
    cases q : intsOf ds with
    | none => rw [q] at e; cases e
    | some ms =>
      rw [q] at e
      cases e
      unfold Rp at r1
      rw [e1, r1, intsOf_at r2 q]
      rfl
theorem intsOf_map : ∀ ns : List Int, intsOf (ns.map D.int) = some ns
  | [] => rfl
  | n :: ns => by
    show (intsOf (ns.map D.int)).map (n :: ·) = _
    rw [intsOf_map ns]
    rfl
def dSum : DRC := fun ds M Q => match ds with
  | [d] => match (dseq M d).bind intsOf with
    | some ns => Q (.int ns.sum) M
    | none => False
  | _ => False
theorem rel_sum {K : PySem.W.Frag} : RelC K (rSum K) dSum := by
  intro ds vs H F M Qd Q r s h po
  unfold dSum at h
  split at h
  · obtain ⟨v, e, r1⟩ := r.one
    subst e
    split at h
    · rename_i ns e
      obtain ⟨es, e1, e2⟩ := Option.bind_eq_some_iff.mp e
      obtain ⟨a, xs, e3, h1, r2⟩ := dseq_at s r1 e1
      have e4 := intsOf_at r2 e2
      subst e3 e4
      exact ⟨a, ns, rfl, .inl (.inl h1), po.fin s h (by unfold Rp; rfl)⟩
    · exact h.elim
  · exact h.elim
def blsOf : List D → Option (List Bool)
  | [] => some []
  | .bl i :: ds => (blsOf ds).map (i :: ·)
  | _ :: _ => none
theorem blsOf_at {K : PySem.W.Frag} {F : Hp} : ∀ {ds : List D} {vs : List V} {ns : List Bool}, RpL K F ds vs → blsOf ds = some ns → vs = ns.map V.bl
  | [], _, _, r, e => by unfold RpL at r; cases e; exact r
  | d :: ds, _, _, r, e => by
    unfold RpL at r
    obtain ⟨x, xs, e1, r1, r2⟩ := r
    cases d <;> first | (cases e; done) | skip
    unfold blsOf at e
    cases q : blsOf ds with
    | none => rw [q] at e; cases e
    | some ms =>
      rw [q] at e
      cases e
      unfold Rp at r1
      rw [e1, r1, blsOf_at r2 q]
      rfl
theorem blsOf_map : ∀ ns : List Bool, blsOf (ns.map D.bl) = some ns
  | [] => rfl
  | n :: ns => by
    show (blsOf (ns.map D.bl)).map (n :: ·) = _
    rw [blsOf_map ns]
    rfl
def dAll : DRC := fun ds M Q => match ds with
  | [d] => match (dseq M d).bind blsOf with
    | some ns => Q (.bl (ns.all id)) M
    | none => False
  | _ => False
def dAny : DRC := fun ds M Q => match ds with
  | [d] => match (dseq M d).bind blsOf with
    | some ns => Q (.bl (ns.any id)) M
    | none => False
  | _ => False
theorem rel_all {K : PySem.W.Frag} : RelC K (rAll K) dAll := by
  intro ds vs H F M Qd Q r s h po
  unfold dAll at h
  split at h
  · obtain ⟨v, e, r1⟩ := r.one
    subst e
    split at h
    · rename_i ns e
      obtain ⟨es, e1, e2⟩ := Option.bind_eq_some_iff.mp e
      obtain ⟨a, xs, e3, h1, r2⟩ := dseq_at s r1 e1
      have e4 := blsOf_at r2 e2
      subst e3 e4
      exact ⟨a, ns, rfl, .inl (.inl h1), po.fin s h (by unfold Rp; rfl)⟩
    · exact h.elim
  · exact h.elim
theorem rel_any {K : PySem.W.Frag} : RelC K (rAny K) dAny := by
  intro ds vs H F M Qd Q r s h po
  unfold dAny at h
  split at h
  · obtain ⟨v, e, r1⟩ := r.one
    subst e
    split at h
    · rename_i ns e
      obtain ⟨es, e1, e2⟩ := Option.bind_eq_some_iff.mp e
      obtain ⟨a, xs, e3, h1, r2⟩ := dseq_at s r1 e1
      have e4 := blsOf_at r2 e2
      subst e3 e4
      exact ⟨a, ns, rfl, .inl (.inl h1), po.fin s h (by unfold Rp; rfl)⟩
    · exact h.elim
  · exact h.elim
/-- the items of a list -/
def dlis (M : Mu) : D → Option (List D)
  | .src ns => some (ns.map .int)
  | d => dseq M d
theorem dlis_at {K : PySem.W.Frag} {H F : Hp} {M : Mu} {d : D} {v : V} {ds : List D} (s : Sv K H F M) (r : Rp K F d v) (h : dlis M d = some ds) : ∃ a xs, v = .ref a ∧ SqL K H a xs ∧ RpL K F ds xs := by
  have old : dseq M d = some ds → ∃ a xs, v = .ref a ∧ SqL K H a xs ∧ RpL K F ds xs := fun q => by
    obtain ⟨a, xs, e, h1, r1⟩ := dseq_at s r q
    exact ⟨a, xs, e, .inl (.inl h1), r1⟩
  cases d with
  | src ns =>
    unfold Rp at r
    obtain ⟨a, e, h1⟩ := r
    cases h
    exact ⟨a, _, e, s.fh.sqL h1, RpL.ints⟩
  | _ => exact old h
/-- tuple(..), list(..) -/
def dTupOf : DRC := fun ds M Q => match ds with
  | [.tup es] => Q (.tup es) M
  | [d] => match dlis M d with
    | some es => Q (.tup es) M
    | none => False
  | _ => False
def rTupOf (K : PySem.W.Frag) : List V → Hp → VK → Prop := fun xs H Q => ∃ p ys, xs = [.ref p] ∧ ((SqL K H p ys ∧ ∀ l, H l = none → Q (.ref l) (upd H l (.tup ys))) ∨ (SqT K H p ys ∧ Q (.ref p) H))
theorem rel_tupOf {K : PySem.W.Frag} : RelC K (rTupOf K) dTupOf := by
  intro ds vs H F M Qd Q r s h po
  unfold dTupOf at h
  split at h
  · obtain ⟨v, e, r1⟩ := r.one
    subst e
    unfold Rp at r1
    obtain ⟨a, xs, e1, h1, r2⟩ := r1
    subst e1
    exact ⟨a, xs, rfl, .inr ⟨s.fh.sqT h1, po.fin s h (by unfold Rp; exact ⟨a, xs, rfl, h1, r2⟩)⟩⟩
  · obtain ⟨v, e, r1⟩ := r.one
    subst e
    split at h
    · rename_i es e
      obtain ⟨a, xs, e1, hs, r2⟩ := dlis_at s r1 e
      subst e1
      exact ⟨a, xs, rfl, .inl ⟨hs, fun l hl => newT_at s r2 h po hl⟩⟩
    · exact h.elim
  · exact h.elim
def dListOf (mu : Bool) : DRC := fun ds M Q => match ds with
  | [d] => match dits M d with
    | some es => dNew mu es M Q
    | none => False
  | _ => False
def rListOf (K : PySem.W.Frag) : List V → Hp → VK → Prop := fun xs H Q => ∃ p ys, xs = [.ref p] ∧ (SqL K H p ys ∨ SqT K H p ys) ∧ ∀ l, H l = none → Q (.ref l) (upd H l (.lst ys))
theorem rel_listOf {K : PySem.W.Frag} {mu : Bool} : RelC K (rListOf K) (dListOf mu) := by
  intro ds vs H F M Qd Q r s h po
  unfold dListOf at h
  split at h
  · obtain ⟨v, e, r1⟩ := r.one
    subst e
    split at h
    · rename_i es e
      obtain ⟨a, xs, e1, hs, r2⟩ := dits_at s r1 e
      subst e1
      exact ⟨a, xs, rfl, hs, fun l hl => dNew_at s r2 h po hl⟩
    · exact h.elim
  · exact h.elim
/-- divmod -/
def dDivmod : DRC := fun ds M Q => match ds with
  | [.int i, .int j] => CDivP i j ∧ Q (.tup [.int (i / j), .int (i % j)]) M
  | _ => False
theorem rel_divmod {K : PySem.W.Frag} : RelC K (fun xs H Q => ∃ i j, xs = [.int i, .int j] ∧ CDivP i j ∧ ∀ p, H p = none → Q (.ref p) (upd H p (.tup [.int (i / j), .int (i % j)]))) dDivmod := by
  intro ds vs H F M Qd Q r s h po
  unfold dDivmod at h
  split at h
  · obtain ⟨v, u, e, r1, r2⟩ := r.two
    unfold Rp at r1 r2
    subst e r1 r2
    exact ⟨_, _, rfl, h.1, fun l hl => newT_at s (RpL.cons (by unfold Rp; rfl) (RpL.cons (by unfold Rp; rfl) RpL.nil)) h.2 po hl⟩
  · exact h.elim
/-- isinstance of a built-in class -/
def tyNm (M : Mu) : D → Option String
  | .non => some "NoneType"
  | .bl _ => some "bool"
  | .int _ => some "int"
  | .str _ => some "str"
  | .tup _ => some "tuple"
  | .lst _ => some "list"
  | .src _ => some "list"
  | .ref a => match M a with
    | some (.lst _) => some "list"
    | some (.dic _) => some "dict"
    | none => none
  | .ty _ => none
def dIsi : DRC := fun ds M Q => match ds with
  | [d, .ty T] => match (tyNm M d).bind fun n => kitB n T with
    | some b => Q (.bl b) M
    | none => False
  | _ => False
theorem ty_sqL {K : PySem.W.Frag} {H : Hp} {a : Addr} {xs : List V} (h : SqL K H a xs) : TyX K H (.ref a) (.type "list") := by
  rcases h with (h | ⟨o, h⟩) | ⟨o, its, n, h, c, _⟩
  · exact .base (.lst h)
  · exact .base (.frz h)
  · exact .kList h c
theorem ty_sqT {K : PySem.W.Frag} {H : Hp} {a : Addr} {xs : List V} (h : SqT K H a xs) : TyX K H (.ref a) (.type "tuple") := by
  rcases h with (h | ⟨o, h⟩) | ⟨o, its, n, h, c, _⟩
  · exact .base (.tup h)
  · exact .fTuple h
  · exact .kTuple h c
theorem tyNm_at {K : PySem.W.Frag} {H F : Hp} {M : Mu} {d : D} {v : V} {n : String} (s : Sv K H F M) (r : Rp K F d v) (h : tyNm M d = some n) : TyX K H v (.type n) := by
  cases d with
  | non => unfold Rp at r; subst r; cases h; exact .base .non
  | bl b => unfold Rp at r; subst r; cases h; exact .base (.bl b)
  | int b => unfold Rp at r; subst r; cases h; exact .base (.int b)
  | str b => unfold Rp at r; subst r; cases h; exact .base (.str _)
  | tup b => unfold Rp at r; obtain ⟨a, xs, e, h1, _⟩ := r; subst e; cases h; exact ty_sqT (s.fh.sqT h1)
  | lst b => unfold Rp at r; obtain ⟨a, xs, e, h1, _⟩ := r; subst e; cases h; exact .base (.lst (s.fh _ _ h1))
  | src b => unfold Rp at r; obtain ⟨a, e, h1⟩ := r; subst e; cases h; exact ty_sqL (s.fh.sqL h1)
  | ty b => cases h
  | ref a =>
    unfold Rp at r
    subst r
    have h' : (match M a with | some (.lst _) => some "list" | some (.dic _) => some "dict" | none => none) = some n := h
    cases q : M a with
    | none => rw [q] at h'; cases h'
    | some o =>
      rw [q] at h'
      obtain ⟨ho, e2, r2⟩ := s.mu a _ q
      cases o with
      | lst ds =>
        obtain ⟨xs, e3, _⟩ := r2
        subst e3
        cases h'
        exact .base (.lst e2)
      | dic ds =>
        obtain ⟨xs, e3, _⟩ := r2
        subst e3
        cases h'
        exact .base (.dK e2)
theorem rel_isi {K : PySem.W.Frag} : RelC K (rIsi K) dIsi := by
  intro ds vs H F M Qd Q r s h po
  unfold dIsi at h
  split at h
  · obtain ⟨v, u, e, r1, r2⟩ := r.two
    unfold Rp at r2
    subst e r2
    split at h
    · rename_i b e
      obtain ⟨n, e1, e2⟩ := Option.bind_eq_some_iff.mp e
      exact ⟨v, _, _, _, b, rfl, .ty _, tyNm_at s r1 e1, kit_ty e2, po.fin s h (by unfold Rp; rfl)⟩
    · exact h.elim
  · exact h.elim

/-! ### subscripts -/
def dIdx : DR2 := fun x y M Q => match y with
  | .int i => match x with
    | .str cs => match atI cs i with
      | some c => cs.length ≤ sizeLine ∧ Q (.str [c]) M
      | none => False
    | x => match (dits M x).bind fun ds => atI ds i with
      | some d => Q d M
      | none => False
  | _ => False
theorem atI_rel {K : PySem.W.Frag} {F : Hp} {ds : List D} {xs : List V} {i : Int} {d : D} (r : RpL K F ds xs) (h : atI ds i = some d) : ∃ v, atI xs i = some v ∧ Rp K F d v := by
  unfold atI at h ⊢
  rw [r.len] at h
  cases q : ixN xs.length i with
  | none => rw [q] at h; cases h
  | some j =>
    rw [q] at h
    exact r.get (i := j) h
theorem rel_idx {K : PySem.W.Frag} : Rel2 K (rIx K) dIdx := by
  intro x y vx vy H F M Qd Q rx ry s h po
  unfold dIdx at h
  split at h
  · unfold Rp at ry
    subst ry
    split at h
    · unfold Rp at rx
      subst rx
      split at h
      · rename_i c e
        exact .inr (.inr ⟨_, _, c, rfl, rfl, by rw [mkS_len]; exact h.1, e, po.fin s h.2 (by unfold Rp; rfl)⟩)
      · exact h.elim
    · split at h
      · rename_i d e
        obtain ⟨ds, e1, e2⟩ := Option.bind_eq_some_iff.mp e
        obtain ⟨a, xs, e3, hs, r1⟩ := dits_at s rx e1
        obtain ⟨v, e4, r2⟩ := atI_rel r1 e2
        subst e3
        rcases hs with hs | hs
        · exact .inl ⟨a, xs, _, v, rfl, rfl, hs, e4, po.fin s h r2⟩
        · exact .inr (.inl ⟨a, xs, _, v, rfl, rfl, hs, e4, po.fin s h r2⟩)
      · exact h.elim
  · exact h.elim
section
variable {X : Cx} {a b c : Expr} {ua ub uc : DTE} {pos : Pos}
theorem de_idx (ha : DE X a ua) (hb : DE X b ub) (hs : PlainIx b := by intro _ _; rfl) : DE X (.Subscript a b pos) (dOp dIdx ua ub) := PE.weak (pe_ix ix_seq ha hb hs) (bin2 rel_idx)
end

/-! ### slices -/
abbrev DTO := DEnv → Mu → (Option Int → Mu → Prop) → Prop
def dNoP : DTO := fun _ M Q => Q none M
def dPart (u : DTE) : DTO := fun δ M Q => u δ M fun d M1 => match d with
  | .int i => Q (some i) M1
  | _ => False
def PostO (K : PySem.W.Frag) (H F : Hp) (M : Mu) (Qd : Option Int → Mu → Prop) (Q : Option Int → Hp → Prop) : Prop := ∀ o M' F' H', Qd o M' → Go H F M H' F' M' → Sv K H' F' M' → Q o H'
def liftO (K : PySem.W.Frag) (u : DTO) : TO := fun σ H Q => ∃ δ M F Qd, ERel K F δ σ ∧ Sv K H F M ∧ u δ M Qd ∧ PostO K H F M Qd Q
/-- the part of a list from lo to hi -/
def cutL {α : Type} (xs : List α) (lo hi : Option Int) : List α := (xs.drop (HT.sIx xs.length 0 lo)).take (HT.sIx xs.length xs.length hi - HT.sIx xs.length 0 lo)
def dSlV (mu : Bool) (x : D) (lo hi : Option Int) (M : Mu) (Q : DK) : Prop := match x with
  | .str cs => cs.length ≤ sizeLine ∧ Q (.str (cutL cs lo hi)) M
  | .tup ds => Q (.tup (cutL ds lo hi)) M
  | x => match dlis M x with
    | some ds => dNew mu (cutL ds lo hi) M Q
    | none => False
def dSl (mu : Bool) (u : DTE) (ul uh : DTO) : DTE := fun δ M Q => u δ M fun x M1 => ul δ M1 fun lo M2 => uh δ M2 fun hi M3 => dSlV mu x lo hi M3 Q
theorem cutL_rel {K : PySem.W.Frag} {F : Hp} {ds : List D} {xs : List V} (r : RpL K F ds xs) (lo hi : Option Int) : RpL K F (cutL ds lo hi) (cutV xs lo hi) := by
  unfold cutL cutV
  rw [r.len]
  exact (r.drop _).take _
theorem cutL_str (cs : List Nat) (lo hi : Option Int) : cutS (mkS cs) lo hi = mkS (cutL cs lo hi) := by
  unfold cutS cutL
  rw [mkS_len]
  rfl
def rSlAll (K : PySem.W.Frag) : V → Option Int → Option Int → Hp → VK → Prop := fun x lo hi H Q => (rSlS x lo hi H Q ∨ rSlA K x lo hi H Q) ∨ rSlL K x lo hi H Q
theorem sl_all {X : Cx} : SlR X (rSlAll X.K) := SlR.or (SlR.or sl_str sl_tupA) sl_list
theorem rel_sl {K : PySem.W.Frag} {mu : Bool} {x : D} {vx : V} {lo hi : Option Int} {H F : Hp} {M : Mu} {Qd : DK} {Q : VK} (rx : Rp K F x vx) (s : Sv K H F M) (h : dSlV mu x lo hi M Qd) (po : Post K H F M Qd Q) : rSlAll K vx lo hi H Q := by
  unfold dSlV at h
  split at h
  · unfold Rp at rx
    exact .inl (.inl ⟨_, rx, by rw [mkS_len]; exact h.1, po.fin s h.2 (by unfold Rp; rw [cutL_str])⟩)
  · rename_i ds
    unfold Rp at rx
    obtain ⟨a, xs, e, h1, r⟩ := rx
    refine .inl (.inr ⟨a, xs, e, s.fh.sqT h1, fun z => ?_, fun _ p hp => newT_at s (cutL_rel r lo hi) h po hp⟩)
    refine po.fin s h ?_
    have e2 : cutL ds lo hi = ds := by
      unfold cutL
      rw [r.len, z.1, z.2, List.drop_zero, Nat.sub_zero]
      exact List.take_of_length_le (Nat.le_of_eq r.len)
    rw [e2]
    unfold Rp
    exact ⟨a, xs, rfl, h1, r⟩
  · split at h
    · rename_i ds e
      obtain ⟨a, xs, e1, hs, r1⟩ := dlis_at s rx e
      exact .inr ⟨a, xs, e1, hs, fun p hp => dNew_at s (cutL_rel r1 lo hi) h po hp⟩
    · exact h.elim
section
variable {X : Cx} {e : Expr} {lo hi : Option Expr} {u : DTE} {ul uh : DTO} {pos p2 : Pos}
theorem do_none : PO X none (liftO X.K dNoP) := ⟨fun pins s σ H Q I h => po_none.run pins s σ H Q I (by
  obtain ⟨δ, M, F, Qd, hE, s, hu, p⟩ := h
  exact p _ _ _ _ hu Go.refl s)⟩
theorem do_some {e : Expr} (h : DE X e u) : PO X (some e) (liftO X.K (dPart u)) := ⟨fun pins s σ H Q I hq => (po_some h).run pins s σ H Q I (by
  obtain ⟨δ, M, F, Qd, hE, s, hu, p⟩ := hq
  refine ⟨δ, M, F, _, hE, s, hu, fun d M' F' v H' q g s' r => ?_⟩
  cases d <;> first | exact False.elim q | skip
  unfold Rp at r
  subst r
  exact ⟨_, rfl, p _ _ _ _ q g s'⟩)⟩
theorem de_slice (mu : Bool) (h : DE X e u) (hl : PO X lo (liftO X.K ul)) (hh : PO X hi (liftO X.K uh)) : DE X (.Subscript e (.Slice lo hi none p2) pos) (dSl mu u ul uh) := PE.weak (pe_slice sl_all h hl hh) fun σ H Q h => by
  obtain ⟨δ, M, F, Qd, hE, s, hu, p⟩ := h
  refine ⟨δ, M, F, _, hE, s, hu, fun d M1 F1 v H1 q g s1 r => ?_⟩
  refine ⟨δ, M1, F1, _, hE.mono g.le, s1, q, fun lo M2 F2 H2 q2 g2 s2 => ?_⟩
  refine ⟨δ, M2, F2, _, hE.mono (g.le.trans g2.le), s2, q2, fun hi M3 F3 H3 q3 g3 s3 => ?_⟩
  exact rel_sl (r.mono (g2.le.trans g3.le)) s3 q3 (p.go (g.trans (g2.trans g3)))
end

/-! ### methods of texts -/
def DM := D → List D → Mu → DK → Prop
def RelM (K : PySem.W.Frag) (T : String) (r : V → List V → Hp → VK → Prop) (rd : DM) : Prop := ∀ x vx ds vs H F M Qd Q, Rp K F x vx → RpL K F ds vs → Sv K H F M → rd x ds M Qd → Post K H F M Qd Q → r vx vs H Q
/-- of what type the receiver is -/
def isTy (M : Mu) (T : String) (d : D) : Prop := tyNm M d = some T
def dBM (T : String) (rd : DM) (uo : DTE) (ua : DTA) : DTE := fun δ M Q => uo δ M fun x M1 => tyNm M1 x = some T ∧ ua δ M1 fun ds M2 => rd x ds M2 Q
theorem tyV_str {K : PySem.W.Frag} {H F : Hp} {M : Mu} {d : D} {v : V} (s : Sv K H F M) (r : Rp K F d v) (h : tyNm M d = some "str") : tyV K "str" v H := by
  cases d with
  | str cs => unfold Rp at r; subst r; rfl
  | ref a =>
    have h' : (match M a with | some (.lst _) => some "list" | some (.dic _) => some "dict" | none => none) = some "str" := h
    cases q : M a with
    | none => rw [q] at h'; cases h'
    | some o => rw [q] at h'; cases o <;> exact absurd (Option.some.inj h') (by decide)
  | ty _ => cases h
  | _ => exact absurd (Option.some.inj h) (by decide)
theorem tyV_list {K : PySem.W.Frag} {H F : Hp} {M : Mu} {d : D} {v : V} (s : Sv K H F M) (r : Rp K F d v) (h : tyNm M d = some "list") : tyV K "list" v H := by
  cases d with
  | lst ds =>
    unfold Rp at r
    obtain ⟨a, xs, e, h1, _⟩ := r
    subst e
    exact .inl ⟨rfl, xs, .inl (.inl (s.fh _ _ h1))⟩
  | src ns =>
    unfold Rp at r
    obtain ⟨a, e, h1⟩ := r
    subst e
    exact .inl ⟨rfl, _, s.fh.sqL h1⟩
  | ref a =>
    have h' : (match M a with | some (.lst _) => some "list" | some (.dic _) => some "dict" | none => none) = some "list" := h
    unfold Rp at r
    subst r
    cases q : M a with
    | none => rw [q] at h'; cases h'
    | some o =>
      rw [q] at h'
      cases o with
      | lst ds =>
        obtain ⟨ho, e2, xs, e3, _⟩ := s.mu a _ q
        subst e3
        exact .inl ⟨rfl, xs, .inl (.inl e2)⟩
      | dic _ => exact absurd (Option.some.inj h') (by decide)
  | ty _ => cases h
  | _ => exact absurd (Option.some.inj h) (by decide)
section
variable {X : Cx} {o e : Expr} {es : List Expr} {uo : DTE} {ua : DTA} {name : Str} {apos cpos : Pos} {T id : String} {r : V → List V → Hp → VK → Prop} {rd : DM}
theorem de_bm0 (hT : ∀ {H F : Hp} {M : Mu} {d : D} {v : V}, Sv X.K H F M → Rp X.K F d v → tyNm M d = some T → tyV X.K T v H) (hr : RelM X.K T r rd) (pa : PlainAttrs T) (slot : Slot T name id) (hty : typeOf (.builtin id) = pure (.type "method_descriptor")) (hm : MtR X id r) (ho : DE X o uo)
    (hbase : attributeBase o name X.env (eval o X.env) = eval o X.env := by rfl) (hline : (apos.endLine == cpos.line) = true := by rfl) : DE X (.Call (.Attribute o name apos) [] [] cpos) (dBM T rd uo dNil) := PE.weak (pe_bm0 pa slot hty hm ho hbase hline) fun σ H Q h => by
  obtain ⟨δ, M, F, Qd, hE, s, hu, p⟩ := h
  refine ⟨δ, M, F, _, hE, s, hu, fun d M1 F1 v H1 q g s1 r1 => ?_⟩
  exact ⟨hT s1 r1 q.1, hr _ _ _ _ _ _ _ _ _ r1 RpL.nil s1 q.2 (p.go g)⟩
theorem de_bm (hT : ∀ {H F : Hp} {M : Mu} {d : D} {v : V}, Sv X.K H F M → Rp X.K F d v → tyNm M d = some T → tyV X.K T v H) (hr : RelM X.K T r rd) (pa : PlainAttrs T) (slot : Slot T name id) (hty : typeOf (.builtin id) = pure (.type "method_descriptor")) (hm : MtR X id r) (ho : DE X o uo) (ha : DA X (e :: es) ua)
    (hbase : attributeBase o name X.env (eval o X.env) = eval o X.env := by rfl)
    (hfew : ((backTo cpos (starEach (e :: es) X.env)).all (fun x => !x.1) && (backToKw cpos (keywordEach [] X.env)).all (fun x => x.1.isSome)
      && decide ((e :: es).length + ([] : List Keyword).length + (if ([] : List Keyword).isEmpty then 0 else 1) < 30)) = true := by rfl)
    (hline : (apos.endLine == cpos.line) = true := by rfl) (hs : starEach (e :: es) X.env = (false, eval e X.env) :: starEach es X.env := by rfl) (hplain : (backTo cpos (starEach es X.env)).any (·.1) = false := by rfl) :
    DE X (.Call (.Attribute o name apos) (e :: es) [] cpos) (dBM T rd uo ua) := PE.weak (pe_bm pa slot hty hm ho ha hbase hfew hline hs hplain) fun σ H Q h => by
  obtain ⟨δ, M, F, Qd, hE, s, hu, p⟩ := h
  refine ⟨δ, M, F, _, hE, s, hu, fun d M1 F1 v H1 q g s1 r1 => ?_⟩
  refine ⟨hT s1 r1 q.1, δ, M1, F1, _, hE.mono g.le, s1, q.2, fun ds M2 F2 vs H2 q2 g2 s2 r2 => ?_⟩
  exact hr _ _ _ _ _ _ _ _ _ (r1.mono g2.le) r2 s2 q2 (p.go (g.trans g2))
end
/-- list.append -/
def dAppend : DM := fun x ds M Q => match x, ds with
  | .ref a, [d] => match M a with
    | some (.lst es) => es.length < sizeLine ∧ Q .non (mset M a (.lst (es ++ [d])))
    | _ => False
  | _, _ => False
theorem rel_append {K : PySem.W.Frag} : RelM K "list" rAppend dAppend := by
  intro x vx ds vs H F M Qd Q rx rs s h po
  unfold dAppend at h
  split at h
  · obtain ⟨v, e, r1⟩ := rs.one
    unfold Rp at rx
    subst e rx
    split at h
    · rename_i es q
      obtain ⟨ho, e2, xs, e3, r2⟩ := s.mu _ _ q
      subst e3
      obtain ⟨s1, g1⟩ := s.wr (o' := .lst (es ++ [_])) (ho := .lst (xs ++ [v])) q ⟨_, rfl, r2.snoc r1⟩
      exact ⟨_, xs, v, rfl, rfl, e2, by rw [← r2.len]; exact h.1, po _ _ _ _ _ h.2 g1 s1 (by unfold Rp; rfl)⟩
    · exact h.elim
  · exact h.elim
/-- list.pop() -/
def dPop : DM := fun x ds M Q => match x, ds with
  | .ref a, [] => match M a with
    | some (.lst es) => match es[es.length - 1]? with
      | some d => Q d (mset M a (.lst es.dropLast))
      | none => False
    | _ => False
  | _, _ => False
theorem rel_pop {K : PySem.W.Frag} : RelM K "list" rPop dPop := by
  intro x vx ds vs H F M Qd Q rx rs s h po
  unfold dPop at h
  split at h
  · unfold RpL at rs
    unfold Rp at rx
    subst rs rx
    split at h
    · rename_i es q
      obtain ⟨ho, e2, xs, e3, r2⟩ := s.mu _ _ q
      subst e3
      split at h
      · rename_i d e
        obtain ⟨v, e4, r3⟩ := r2.get e
        obtain ⟨s1, g1⟩ := s.wr (o' := .lst es.dropLast) (ho := .lst xs.dropLast) q ⟨_, rfl, r2.last⟩
        exact ⟨_, xs, v, rfl, rfl, e2, by rw [← r2.len]; exact e4, po _ _ _ _ _ h g1 s1 r3⟩
      · exact h.elim
    · exact h.elim
  · exact h.elim
/-- list.extend(a list) -/
def dExtend : DM := fun x ds M Q => match x, ds with
  | .ref a, [d] => match M a, dseq M d with
    | some (.lst es), some fs => es.length + fs.length ≤ sizeLine ∧ Q .non (mset M a (.lst (es ++ fs)))
    | _, _ => False
  | _, _ => False
theorem rel_extend {K : PySem.W.Frag} : RelM K "list" rExtend dExtend := by
  intro x vx ds vs H F M Qd Q rx rs s h po
  unfold dExtend at h
  split at h
  · obtain ⟨v, e, r1⟩ := rs.one
    unfold Rp at rx
    subst e rx
    split at h
    · rename_i es fs q q2
      obtain ⟨ho, e2, xs, e3, r2⟩ := s.mu _ _ q
      subst e3
      obtain ⟨b, ys, e4, h4, r4⟩ := dseq_at s r1 q2
      subst e4
      obtain ⟨s1, g1⟩ := s.wr (o' := .lst (es ++ fs)) (ho := .lst (xs ++ ys)) q ⟨_, rfl, r2.app r4⟩
      exact ⟨_, b, xs, ys, rfl, rfl, e2, h4, by rw [← r2.len, ← r4.len]; exact h.1, po _ _ _ _ _ h.2 g1 s1 (by unfold Rp; rfl)⟩
    · exact h.elim
  · exact h.elim
/-- list.reverse() -/
def dReverse : DM := fun x ds M Q => match x, ds with
  | .ref a, [] => match M a with
    | some (.lst es) => Q .non (mset M a (.lst es.reverse))
    | _ => False
  | _, _ => False
theorem rel_reverse {K : PySem.W.Frag} : RelM K "list" rReverse dReverse := by
  intro x vx ds vs H F M Qd Q rx rs s h po
  unfold dReverse at h
  split at h
  · unfold RpL at rs
    unfold Rp at rx
    subst rs rx
    split at h
    · rename_i es q
      obtain ⟨ho, e2, xs, e3, r2⟩ := s.mu _ _ q
      subst e3
      obtain ⟨s1, g1⟩ := s.wr (o' := .lst es.reverse) (ho := .lst xs.reverse) q ⟨_, rfl, r2.rev⟩
      exact ⟨_, xs, rfl, rfl, e2, po _ _ _ _ _ h g1 s1 (by unfold Rp; rfl)⟩
    · exact h.elim
  · exact h.elim
/-! texts: by lists of codes -/
def dSplit (mu : Bool) : DM := fun x ds M Q => match x, ds with
  | .str a, [.str b] => b ≠ [] ∧ a.length + 2 ≤ sizeLine ∧ b.all (· < 256) = true ∧ dNew mu ((spl b 0 [] a).map .str) M Q
  | _, _ => False
def rSplit : V → List V → Hp → VK → Prop := fun x xs H Q => ∃ a b, x = .str a ∧ xs = [.str b] ∧ (b.length == 0) = false ∧ a.length + 2 ≤ sizeLine ∧ rNewStrs (Txt.split a b) H Q
theorem RpL.ofStrs {K : PySem.W.Frag} {F : Hp} : ∀ {ys : List Str}, RpL K F ((ys.map tl).map D.str) (ys.map V.str)
  | [] => RpL.nil
  | y :: ys => RpL.cons (by unfold Rp; rw [mkS_of]) RpL.ofStrs
theorem rel_split {K : PySem.W.Frag} {mu : Bool} : RelM K "str" rSplit (dSplit mu) := by
  intro x vx ds vs H F M Qd Q rx rs s h po
  unfold dSplit at h
  split at h
  · rename_i a b
    obtain ⟨v, e, r1⟩ := rs.one
    unfold Rp at rx r1
    subst e r1 rx
    obtain ⟨h1, h2, h3, h4⟩ := h
    refine ⟨_, _, rfl, rfl, ?_, by rw [mkS_len]; exact h2, fun p hp => ?_⟩
    · rw [mkS_len]
      cases b with
      | nil => exact absurd rfl h1
      | cons c b => rfl
    · have e2 : (Txt.split (mkS a) (mkS b)).map tl = spl b 0 [] a := split_spl _ _ h1 (kind_ok (by simpa [mkS] using h3))
      have r2 : RpL K F ((spl b 0 [] a).map .str) ((Txt.split (mkS a) (mkS b)).map V.str) := by rw [← e2]; exact RpL.ofStrs
      exact dNew_at s r2 h4 po hp
  · exact h.elim
def strsOf : List D → Option (List (List Nat))
  | [] => some []
  | .str i :: ds => (strsOf ds).map (i :: ·)
  | _ :: _ => none
theorem strsOf_at {K : PySem.W.Frag} {F : Hp} : ∀ {ds : List D} {vs : List V} {ns : List (List Nat)}, RpL K F ds vs → strsOf ds = some ns → vs = (ns.map mkS).map V.str
  | [], _, _, r, e => by unfold RpL at r; cases e; exact r
  | d :: ds, _, _, r, e => by
    unfold RpL at r
    obtain ⟨x, xs, e1, r1, r2⟩ := r
    cases d <;> first | (cases e; done) | skip
    unfold strsOf at e
    cases q : strsOf ds with
    | none => rw [q] at e; cases e
    | some ms =>
      rw [q] at e
      cases e
      unfold Rp at r1
      rw [e1, r1, strsOf_at r2 q]
      rfl
theorem strsOf_map : ∀ ns : List (List Nat), strsOf (ns.map D.str) = some ns
  | [] => rfl
  | n :: ns => by
    show (strsOf (ns.map D.str)).map (n :: ·) = _
    rw [strsOf_map ns]
    rfl
def dJoin : DM := fun x ds M Q => match x, ds with
  | .str a, [d] => match (dits M d).bind strsOf with
    | some ys => (ys.map (·.length)).sum + ys.length * a.length ≤ 16777216 ∧ Q (.str (joinL a ys)) M
    | none => False
  | _, _ => False
def rJoin (K : PySem.W.Frag) : V → List V → Hp → VK → Prop := fun x xs H Q => ∃ a p, ∃ ys : List Str, x = .str a ∧ xs = [.ref p] ∧ (SqL K H p (ys.map V.str) ∨ SqT K H p (ys.map V.str)) ∧
    (ys.map (·.length)).sum + ys.length * a.length ≤ 16777216 ∧ Q (.str (Txt.join a ys)) H
theorem rel_join {K : PySem.W.Frag} : RelM K "str" (rJoin K) dJoin := by
  intro x vx ds vs H F M Qd Q rx rs s h po
  unfold dJoin at h
  split at h
  · rename_i a d
    obtain ⟨v, e, r1⟩ := rs.one
    unfold Rp at rx
    subst e rx
    split at h
    · rename_i ys e
      obtain ⟨es, e1, e2⟩ := Option.bind_eq_some_iff.mp e
      obtain ⟨p, xs, e3, hs, r2⟩ := dits_at s r1 e1
      have e4 := strsOf_at r2 e2
      subst e3 e4
      refine ⟨mkS a, p, ys.map mkS, rfl, rfl, hs, ?_, po.fin s h.2 ?_⟩
      · have e5 : (ys.map mkS).map (·.length) = ys.map (·.length) := by
          rw [List.map_map]
          exact List.map_congr_left fun y _ => mkS_len y
        rw [e5, List.length_map, mkS_len]
        exact h.1
      · unfold Rp
        congr 1
        refine ext_tl ?_
        rw [join_eq, tl_join, List.map_map]
        have e6 : (ys.map (tl ∘ mkS)) = ys := by
          have : (tl ∘ mkS) = id := by funext y; rfl
          rw [this, List.map_id]
        rw [e6]
        rfl
    · exact h.elim
  · exact h.elim
/-- startswith -/
def dStarts : DM := fun x ds M Q => match x, ds with
  | .str a, [.str b] => Q (.bl (Txt.startswith (mkS a) (mkS b))) M
  | _, _ => False
def r1S (g : Str → Str → V) : V → List V → Hp → VK → Prop := fun x xs H Q => ∃ a b, x = .str a ∧ xs = [.str b] ∧ Q (g a b) H
theorem rel_starts {K : PySem.W.Frag} : RelM K "str" (r1S fun a b => .bl (Txt.startswith a b)) dStarts := by
  intro x vx ds vs H F M Qd Q rx rs s h po
  unfold dStarts at h
  split at h
  · obtain ⟨v, e, r1⟩ := rs.one
    unfold Rp at rx r1
    subst e r1 rx
    exact ⟨_, _, rfl, rfl, po.fin s h (by unfold Rp; rfl)⟩
  · exact h.elim
def dCount : DM := fun x ds M Q => match x, ds with
  | .str a, [.str b] => Q (.int (Txt.count (mkS a) (mkS b))) M
  | _, _ => False
theorem rel_count {K : PySem.W.Frag} : RelM K "str" (r1S fun a b => .int (Txt.count a b)) dCount := by
  intro x vx ds vs H F M Qd Q rx rs s h po
  unfold dCount at h
  split at h
  · obtain ⟨v, e, r1⟩ := rs.one
    unfold Rp at rx r1
    subst e r1 rx
    exact ⟨_, _, rfl, rfl, po.fin s h (by unfold Rp; rfl)⟩
  · exact h.elim
end DL

namespace DL
open PySem PySem.Spec PyProof.Rows L2 TL

/-! ### weaker knowledge: a list that may change is said to stay, a thing is forgotten -/
def Wk (d : D) (M : Mu) (d' : D) (M' : Mu) : Prop := ∀ (K : PySem.W.Frag) (H F : Hp) (v : V), Sv K H F M → Rp K F d v → ∃ F', Sv K H F' M' ∧ Go H F M H F' M' ∧ Rp K F' d' v
theorem Wk.refl {d : D} {M : Mu} : Wk d M d M := fun K H F v s r => ⟨F, s, Go.refl, r⟩
theorem Wk.trans {d d1 d2 : D} {M M1 M2 : Mu} (a : Wk d M d1 M1) (b : Wk d1 M1 d2 M2) : Wk d M d2 M2 := fun K H F v s r => by
  obtain ⟨F1, s1, g1, r1⟩ := a K H F v s r
  obtain ⟨F2, s2, g2, r2⟩ := b K H F1 v s1 r1
  exact ⟨F2, s2, g1.trans g2, r2⟩
def Sub (M' M : Mu) : Prop := ∀ b o, M' b = some o → M b = some o
theorem Sub.refl {M : Mu} : Sub M M := fun _ _ h => h
theorem Sub.trans {M M1 M2 : Mu} (a : Sub M M1) (b : Sub M1 M2) : Sub M M2 := fun c o h => b c o (a c o h)
theorem Sub.set {M M' : Mu} {p : Addr} {o : DO} (h : Sub M M') (n : M p = none) : Sub M (mset M' p o) := fun b u e => by
  rw [mset_ne (fun z => by subst z; rw [n] at e; cases e)]
  exact h b u e
theorem Sub.none {M M' : Mu} {p : Addr} (h : Sub M M') (n : M' p = none) : M p = none := by
  cases e : M p with
  | none => rfl
  | some o => rw [h p o e] at n; cases n
theorem Sv.sub {K : PySem.W.Frag} {H F : Hp} {M M' : Mu} (s : Sv K H F M) (h : Sub M' M) : Sv K H F M' ∧ Go H F M H F M' := by
  refine ⟨⟨s.fh, fun b o e => ?_, fun a o e => s.mu a o (h a o e)⟩, ⟨Le.refl F, fun b o e m => ⟨e, ?_, fun z => z⟩⟩⟩
  · exact h.none (s.fm b o e)
  · exact h.none m
theorem Wk.drop {d : D} {M M' : Mu} (h : Sub M' M) : Wk d M d M' := fun K H F v s r => by
  obtain ⟨s1, g1⟩ := s.sub h
  exact ⟨F, s1, g1, r⟩
theorem Sv.frz {K : PySem.W.Frag} {H F : Hp} {M M' : Mu} {a : Addr} {ds : List D} (s : Sv K H F M) (e : M a = some (.lst ds)) (h : Sub M' M) (n : M' a = none) : ∃ xs, Sv K H (upd F a (.lst xs)) M' ∧ Go H F M H (upd F a (.lst xs)) M' ∧ RpL K (upd F a (.lst xs)) ds xs := by
  obtain ⟨ho, e2, xs, e3, r⟩ := s.mu a _ e
  subst e3
  have hF : F a = none := by
    cases q : F a with
    | none => rfl
    | some u => rw [s.fm a u q] at e; cases e
  have l : Le F (upd F a (.lst xs)) := Le.new hF
  refine ⟨xs, ⟨fun b u q => ?_, fun b u q => ?_, fun b u q => ?_⟩, ⟨l, fun b u q m => ⟨q, ?_, fun z => ?_⟩⟩, r.mono l⟩
  · by_cases hb : b = a
    · subst hb; rw [upd_same] at q; cases q; exact e2
    · rw [upd_ne hb] at q; exact s.fh b u q
  · by_cases hb : b = a
    · subst hb; exact n
    · rw [upd_ne hb] at q; exact h.none (s.fm b u q)
  · obtain ⟨ho, e4, r4⟩ := s.mu b u (h b u q)
    exact ⟨ho, e4, r4.mono l⟩
  · exact h.none m
  · have hb : b ≠ a := fun z => by subst z; rw [m] at e; cases e
    rw [upd_ne hb]; exact z
theorem Wk.frz {M M' : Mu} {a : Addr} {ds : List D} (e : M a = some (.lst ds)) (h : Sub M' M) (n : M' a = none) : Wk (.ref a) M (.lst ds) M' := fun K H F v s r => by
  obtain ⟨xs, s1, g1, r1⟩ := s.frz e h n
  unfold Rp at r
  obtain ⟨ho, e2, ys, e3, _⟩ := s.mu a _ e
  refine ⟨_, s1, g1, ?_⟩
  unfold Rp
  exact ⟨a, xs, r, upd_same, r1⟩
theorem Sub.drop {M : Mu} {a : Addr} : Sub (mdrop M a) M := fun b o e => by
  unfold mdrop at e
  by_cases hb : b = a
  · rw [if_pos hb] at e; cases e
  · rw [if_neg hb] at e; exact e
/-- wanted of a value up to weaker knowledge -/
def Wq (Q : DK) : DK := fun d M => ∃ d' M', Wk d M d' M' ∧ Q d' M'
theorem Wq.now {Q : DK} {d : D} {M : Mu} (h : Q d M) : Wq Q d M := ⟨d, M, Wk.refl, h⟩
theorem Wq.drop {Q : DK} {d : D} {M M' : Mu} (h : Sub M' M) (q : Q d M') : Wq Q d M := ⟨d, M', Wk.drop h, q⟩
theorem Wq.frz {Q : DK} {a : Addr} {ds : List D} {M M' : Mu} (e : M a = some (.lst ds)) (h : Sub M' M) (n : M' a = none) (q : Q (.lst ds) M') : Wq Q (.ref a) M := ⟨_, M', Wk.frz e h n, q⟩
theorem Post.wq {K : PySem.W.Frag} {H F : Hp} {M : Mu} {Qd : DK} {Q : VK} (p : Post K H F M Qd Q) : Post K H F M (Wq Qd) Q := fun d M' F' v H' q g s r => by
  obtain ⟨d2, M2, w, q⟩ := q
  obtain ⟨F2, s2, g2, r2⟩ := w K H' F' v s r
  exact p d2 M2 F2 v H' q (g.trans g2) s2 r2
def dWq (u : DTE) : DTE := fun δ M Q => u δ M (Wq Q)
theorem de_wq {X : Cx} {e : Expr} {u : DTE} (h : DE X e u) : DE X e (dWq u) := PE.weak h fun σ H Q h => by
  obtain ⟨δ, M, F, Qd, hE, s, hu, p⟩ := h
  exact ⟨δ, M, F, _, hE, s, hu, p.wq⟩

/-! ### targets -/
abbrev DTg := D → DEnv → Mu → (DEnv → Mu → Prop) → Prop
def dgN (i : Nat) : DTg := fun d δ M Q => Q (δ.set i (some d)) M
def dgAll : List DTg → List D → DEnv → Mu → (DEnv → Mu → Prop) → Prop
  | [], [], δ, M, Q => Q δ M
  | t :: ts, d :: ds, δ, M, Q => t d δ M fun δ' M' => dgAll ts ds δ' M' Q
  | _, _, _, _, _ => False
def dgT (ts : List DTg) : DTg := fun d δ M Q => match d with
  | .tup ds => ds.length = ts.length ∧ dgAll ts ds δ M Q
  | _ => False
/-- vs: slots of a block's own; what is wanted tells that nothing else was stored -/
def RelG (K : PySem.W.Frag) (vs : List Nat) (g : TG) (dg : DTg) : Prop := ∀ d x δ σ σ0 H F M Qd Q, Rp K F d x → ERel K F δ σ → Sv K H F M → dg d δ M Qd → PostE K H F M Qd (fun σ2 H2 => wipe σ2 vs = wipe σ0 vs → Q σ2 H2) → wipe σ vs = wipe σ0 vs → g x σ H Q
def RelGs (K : PySem.W.Frag) (vs : List Nat) (g : TGs) (dg : List DTg) : Prop := ∀ ds xs δ σ σ0 H F M Qd Q, RpL K F ds xs → ERel K F δ σ → Sv K H F M → dgAll dg ds δ M Qd → PostE K H F M Qd (fun σ2 H2 => wipe σ2 vs = wipe σ0 vs → Q σ2 H2) → wipe σ vs = wipe σ0 vs → g xs σ H Q
theorem wipe_in {σ : L2.St} {i : Nat} : ∀ {vs : List Nat}, i ∈ vs → i < σ.length → (wipe σ vs)[i]? = some none
  | v :: vs, h, hl => by
    unfold wipe
    by_cases e : v = i
    · subst e
      rw [List.getElem?_set_self (by rw [wipe_length]; exact hl)]
    · rw [List.getElem?_set_ne e]
      exact wipe_in ((List.mem_cons.mp h).resolve_left fun z => e z.symm) hl
theorem wipe_set {σ : L2.St} {j : Nat} {v : Option V} {vs : List Nat} (h : j ∈ vs) : wipe (σ.set j v) vs = wipe σ vs := by
  refine List.ext_getElem? fun i => ?_
  by_cases hi : i ∈ vs
  · by_cases hl : i < σ.length
    · rw [wipe_in hi (by rw [List.length_set]; exact hl), wipe_in hi hl]
    · rw [List.getElem?_eq_none (by rw [wipe_length, List.length_set]; omega), List.getElem?_eq_none (by rw [wipe_length]; omega)]
  · rw [wipe_out hi, wipe_out hi, List.getElem?_set_ne (fun z => hi (by rw [← z]; exact h))]
theorem relg_name {K : PySem.W.Frag} {vs : List Nat} (i : Nat) (hi : i ∈ vs := by decide) : RelG K vs (gName i) (dgN i) := fun d x δ σ σ0 H F M Qd Q r e s h po w => po _ _ _ _ _ h Go.refl s (e.set r) (by rw [wipe_set hi]; exact w)
theorem relgs_nil {K : PySem.W.Frag} {vs : List Nat} : RelGs K vs gNil [] := fun ds xs δ σ σ0 H F M Qd Q r e s h po w => by
  cases ds with
  | nil =>
    unfold RpL at r
    exact ⟨r, po _ _ _ _ _ h Go.refl s e w⟩
  | cons _ _ => exact False.elim h
theorem relgs_cons {K : PySem.W.Frag} {vs : List Nat} {g : TG} {gs : TGs} {dg : DTg} {dgs : List DTg} (h1 : RelG K vs g dg) (h2 : RelGs K vs gs dgs) : RelGs K vs (gCons g gs) (dg :: dgs) := fun ds xs δ σ σ0 H F M Qd Q r e s h po w => by
  cases ds with
  | nil => exact False.elim h
  | cons d ds =>
    unfold RpL at r
    obtain ⟨x, ys, e1, r1, r2⟩ := r
    refine ⟨x, ys, e1, ?_⟩
    refine h1 d x δ σ σ0 H F M _ _ r1 e s h (fun δ2 M2 F2 σ2 H2 q2 g2 s2 e2 w2 => ?_) w
    exact h2 ds ys δ2 σ2 σ0 H2 F2 M2 Qd Q (r2.mono g2.le) e2 s2 q2 (po.go g2) w2
theorem relg_tup {K : PySem.W.Frag} {vs : List Nat} {gs : TGs} {dgs : List DTg} (n : Nat) (hn : dgs.length = n) (h : RelGs K vs gs dgs) : RelG K vs (gTup K n gs) (dgT dgs) := fun d x δ σ σ0 H F M Qd Q r e s hd po w => by
  cases d <;> first | exact False.elim hd | skip
  rename_i ds
  unfold Rp at r
  obtain ⟨a, xs, e1, h1, r1⟩ := r
  exact ⟨a, xs, e1, s.fh.sqT h1, by rw [← r1.len, hd.1, hn], h ds xs δ σ σ0 H F M Qd Q r1 e s hd.2 po w⟩

/-! ### statements -/
def dNx : DTS := fun D δ M => D.nx δ M
def dBk : DTS := fun D δ M => D.bk δ M
def dCt : DTS := fun D δ M => D.ct δ M
def dSq (t u : DTS) : DTS := fun D δ M => t { D with nx := u D } δ M
def dNo : DTS := fun _ _ _ => False
def dEx (u : DTE) : DTS := fun D δ M => u δ M fun _ M1 => D.nx δ M1
def dRt (u : DTE) : DTS := fun D δ M => u δ M D.rt
def dRtN : DTS := fun D _ M => D.rt .non M
def dIfS (c : DTT) (t u : DTS) : DTS := fun D δ M => c δ M fun b M1 => match b with
  | true => t D δ M1
  | false => u D δ M1
def dAs (u : DTE) (g : DTg) : DTS := fun D δ M => u δ M fun d M1 => g d δ M1 D.nx
def dAu (i : Nat) (rd : DR2) (u : DTE) : DTS := fun D δ M => match δ[i]? with
  | some (some x) => u δ M fun y M1 => rd x y M1 fun z M2 => D.nx (δ.set i (some z)) M2
  | _ => False
def dPar (i j : Nat) (ua : DTA) : DTS := fun D δ M => ua δ M fun ds M1 => match ds with
  | [v, w] => D.nx ((δ.set i (some v)).set j (some w)) M1
  | _ => False
def dWhile (c : DTT) (b : DTS) : DTS := fun D δ M => ∃ W : Nat → DEnv → Mu → Prop, (∃ m, W m δ M) ∧ ∀ m δ M, W m δ M →
  c δ M fun k M1 => match k with
    | true => b { D with nx := fun δ' M' => ∃ m', m' < m ∧ W m' δ' M', ct := fun δ' M' => ∃ m', m' < m ∧ W m' δ' M', bk := D.nx } δ M1
    | false => D.nx δ M1
section
variable {X : Cx} {st : Stmt} {rest : List Stmt} {t u : DTS} {e : Expr} {ue : DTE} {pos : Pos}
theorem dss_nil : DSs X [] dNx := PSs.weak pss_nil fun D σ H h => by
  obtain ⟨δ, M, F, Dd, hE, s, hu, p⟩ := h
  exact p.nx _ _ _ _ _ hu Go.refl s hE
theorem dss_cons (h1 : DS X st t) (h2 : DSs X rest u) : DSs X (st :: rest) (dSq t u) := PSs.weak (pss_cons h1 h2) fun D σ H h => by
  obtain ⟨δ, M, F, Dd, hE, s, hu, p⟩ := h
  exact ⟨δ, M, F, { Dd with nx := u Dd }, hE, s, hu, ⟨fun δ' M' F' σ' H' q g s' e => ⟨δ', M', F', Dd, e, s', q, p.go g⟩, p.rt, p.bk, p.ct⟩⟩
theorem dss_one (h1 : DS X st t) : DSs X [st] t := pss_one h1
theorem ds_pass : DS X (.Pass pos) dNx := PS.weak ps_pass fun D σ H h => by
  obtain ⟨δ, M, F, Dd, hE, s, hu, p⟩ := h
  exact p.nx _ _ _ _ _ hu Go.refl s hE
theorem ds_break : DS X (.Break pos) dBk := PS.weak ps_break fun D σ H h => by
  obtain ⟨δ, M, F, Dd, hE, s, hu, p⟩ := h
  exact p.bk _ _ _ _ _ hu Go.refl s hE
theorem ds_cont : DS X (.Continue pos) dCt := PS.weak ps_continue fun D σ H h => by
  obtain ⟨δ, M, F, Dd, hE, s, hu, p⟩ := h
  exact p.ct _ _ _ _ _ hu Go.refl s hE
theorem ds_doc {x : Str} {j : Nat} {pos' : Pos} : DS X (.Expr (.Constant (.str x) j pos) pos') dNx := PS.weak ps_doc fun D σ H h => by
  obtain ⟨δ, M, F, Dd, hE, s, hu, p⟩ := h
  exact p.nx _ _ _ _ _ hu Go.refl s hE
theorem ds_never : DS X st dNo := PS.weak ps_never fun D σ H h => by
  obtain ⟨δ, M, F, Dd, hE, s, hu, p⟩ := h
  exact hu
theorem dss_never : DSs X rest dNo := PSs.weak pss_never fun D σ H h => by
  obtain ⟨δ, M, F, Dd, hE, s, hu, p⟩ := h
  exact hu
theorem ds_expr (he : DE X e ue) (hs : swapsWith e none pos.line X.env = pure false := by rfl) : DS X (.Expr e pos) (dEx ue) := PS.weak (ps_expr he hs) fun D σ H h => by
  obtain ⟨δ, M, F, Dd, hE, s, hu, p⟩ := h
  exact ⟨δ, M, F, _, hE, s, hu, fun d M' F' v H' q g s' r => p.nx _ _ _ _ _ q g s' (hE.mono g.le)⟩
theorem ds_ret (he : DE X e ue) : DS X (.Return (some e) pos) (dRt ue) := PS.weak (ps_ret he) fun D σ H h => by
  obtain ⟨δ, M, F, Dd, hE, s, hu, p⟩ := h
  exact ⟨δ, M, F, _, hE, s, hu, p.rt⟩
theorem ds_retN : DS X (.Return none pos) dRtN := PS.weak ps_retN fun D σ H h => by
  obtain ⟨δ, M, F, Dd, hE, s, hu, p⟩ := h
  exact p.rt _ _ _ _ _ hu Go.refl s (by unfold Rp; rfl)
theorem ds_if {c : Expr} {a b : List Stmt} {tc : DTT} (hc : DT X c tc) (ha : DSs X a t) (hb : DSs X b u) : DS X (.If c a b pos) (dIfS tc t u) := PS.weak (ps_if hc ha hb) fun D σ H h => by
  obtain ⟨δ, M, F, Dd, hE, s, hu, p⟩ := h
  refine ⟨δ, M, F, _, hE, s, hu, fun d M' F' H' q g s' => ?_⟩
  cases d with
  | true => exact ⟨δ, M', F', Dd, hE.mono g.le, s', q, p.go g⟩
  | false => exact ⟨δ, M', F', Dd, hE.mono g.le, s', q, p.go g⟩
theorem ds_set {i : Nat} {x : Str} {pos' : Pos} (hN : X.N.Nodup) (he : DE X e ue) (hi : X.N[i]? = some x := by rfl) (hx : Loc X.env.scope x := by first | exact Or.inl rfl | exact Or.inr rfl) (hs : swapsWith e (some (.Name x pos')) pos.line X.env = pure false := by rfl) (hf : X.fn x = true ∨ X.env.scope.names.lookup x = some .local := by first | exact .inl rfl | exact .inr rfl | assumption) :
    DS X (.Assign [.Name x pos'] e pos) (dAs ue (dgN i)) := PS.weak (ps_set hN hi hx he hs hf) fun D σ H h => by
  obtain ⟨δ, M, F, Dd, hE, s, hu, p⟩ := h
  exact ⟨δ, M, F, _, hE, s, hu, fun d M' F' v H' q g s' r => p.nx _ _ _ _ _ q g s' ((hE.mono g.le).set r)⟩
theorem ds_asg {tg : Expr} {g : TG} {dg : DTg} {vs : List Nat} (hg : PG X tg g) (hr : RelG X.K vs g dg) (he : DE X e ue) (hs : swapsWithSole [tg] e pos.line X.env = pure false := by rfl) (hw : swappedStores [tg] e X.env = pure none := by rfl)
    (h1 : (assignEach [tg] X.env).map (·.2) = [assign tg X.env] := by rfl) : DS X (.Assign [tg] e pos) (dAs ue dg) := PS.weak (ps_asg he hg hs hw h1) fun D σ H h => by
  obtain ⟨δ, M, F, Dd, hE, s, hu, p⟩ := h
  refine ⟨δ, M, F, _, hE, s, hu, fun d M' F' v H' q g s' r => ?_⟩
  exact hr d v δ σ σ H' F' M' _ _ r (hE.mono g.le) s' q (fun δ2 M2 F2 σ2 H2 q2 g2 s2 e2 _ => p.nx _ _ _ _ _ q2 (g.trans g2) s2 e2) rfl
theorem ds_aug {i : Nat} {x : Str} {op : Operator} {ti : TIp} {rd : DR2} {pos' : Pos} (hN : X.N.Nodup) (ho : PIp X op ti) (hr : Rel2 X.K ti rd) (he : DE X e ue) (hi : X.N[i]? = some x := by rfl) (hx : Loc X.env.scope x := by first | exact Or.inl rfl | exact Or.inr rfl) (hf : X.fn x = true ∨ X.env.scope.names.lookup x = some .local := by first | exact .inl rfl | exact .inr rfl | assumption) :
    DS X (.AugAssign (.Name x pos') op e pos) (dAu i rd ue) := PS.weak (ps_aug hN hi hx he ho hf) fun D σ H h => by
  obtain ⟨δ, M, F, Dd, hE, s, hu, p⟩ := h
  have hu' : (match δ[i]? with | some (some x) => ue δ M fun y M1 => rd x y M1 fun z M2 => Dd.nx (δ.set i (some z)) M2 | _ => False) := hu
  split at hu'
  · rename_i d ed
    obtain ⟨v, e2, r⟩ := hE.2 i d ed
    refine ⟨v, e2, δ, M, F, _, hE, s, hu', fun y M1 F1 vy H1 q g s1 r1 => ?_⟩
    refine hr _ _ _ _ _ _ _ _ _ (r.mono g.le) r1 s1 q fun z M2 F2 vz H2 q2 g2 s2 r2 => ?_
    exact p.nx _ _ _ _ _ q2 (g.trans g2) s2 ((hE.mono (g.le.trans g2.le)).set r2)
  · exact hu'.elim
theorem ds_par {i j : Nat} {x y : Str} {a b : Expr} {ua : DTA} {px py pt : Pos} {kt k2 : Nat} {pt2 : Pos} (hc : X.calm = true) (hN : X.N.Nodup) (ha : DA X [a, b] ua) (hi : X.N[i]? = some x := by rfl) (hj : X.N[j]? = some y := by rfl) (hij : i ≠ j := by decide)
    (hx : X.env.scope.names.lookup x = some .local := by rfl) (hy : X.env.scope.names.lookup y = some .local := by rfl)
    (hw : swappedStores [.Tuple [.Name x px, .Name y py] kt pt] (.Tuple [a, b] k2 pt2) X.env = pure (some [x, y]) := by rfl)
    (hs : swapsWithSole [.Tuple [.Name x px, .Name y py] kt pt] (.Tuple [a, b] k2 pt2) pos.line X.env = pure false := by rfl) :
    DS X (.Assign [.Tuple [.Name x px, .Name y py] kt pt] (.Tuple [a, b] k2 pt2) pos) (dPar i j ua) := PS.weak (ps_par hc hN hi hj hij hx hy ha hw hs) fun D σ H h => by
  obtain ⟨δ, M, F, Dd, hE, s, hu, p⟩ := h
  refine ⟨δ, M, F, _, hE, s, hu, fun ds M1 F1 vs H1 q g s1 r => ?_⟩
  split at q
  · rename_i v w
    obtain ⟨v1, v2, e, r1, r2⟩ := r.two
    exact ⟨v1, v2, e, p.nx _ _ _ _ _ q g s1 (((hE.mono g.le).set r1).set r2)⟩
  · exact q.elim
theorem ds_while {c : Expr} {body : List Stmt} {tc : DTT} {tb : DTS} (hp : PassesOwn (model X.prog X.w) X.A X.env X.xe) (hc : DT X c tc) (hb : DSs X body tb) : DS X (.While c body [] pos) (dWhile tc tb) := PS.weak (ps_while hp hc hb) fun D σ H h => by
  obtain ⟨δ, M, F, Dd, hE, s, ⟨W, ⟨m, w0⟩, turn⟩, p⟩ := h
  refine ⟨fun m σ' H' => ∃ δ' M' F', W m δ' M' ∧ ERel X.K F' δ' σ' ∧ Sv X.K H' F' M' ∧ Go H F M H' F' M', ⟨m, δ, M, F, w0, hE, s, Go.refl⟩, ?_⟩
  rintro m σ1 H1 ⟨δ1, M1, F1, w1, e1, s1, g1⟩
  refine ⟨δ1, M1, F1, _, e1, s1, turn m δ1 M1 w1, fun b M2 F2 H2 q g2 s2 => ?_⟩
  cases b with
  | false =>
    rw [if_neg Bool.false_ne_true]
    exact p.nx _ _ _ _ _ q (g1.trans g2) s2 (e1.mono g2.le)
  | true =>
    rw [if_pos rfl]
    refine ⟨fun σ' H' => ∃ m', m' < m ∧ ∃ δ' M' F', W m' δ' M' ∧ ERel X.K F' δ' σ' ∧ Sv X.K H' F' M' ∧ Go H F M H' F' M', fun σ' H' z => z, ?_⟩
    refine ⟨δ1, M2, F2, _, e1.mono g2.le, s2, q, ⟨?_, p.rt.go (g1.trans g2), p.nx.go (g1.trans g2), ?_⟩⟩
    · intro δ3 M3 F3 σ3 H3 ⟨m', hm, w3⟩ g3 s3 e3
      exact ⟨m', hm, δ3, M3, F3, w3, e3, s3, (g1.trans g2).trans g3⟩
    · intro δ3 M3 F3 σ3 H3 ⟨m', hm, w3⟩ g3 s3 e3
      exact ⟨m', hm, δ3, M3, F3, w3, e3, s3, (g1.trans g2).trans g3⟩
end
/-! += -/
def dIAdd : DR2
  | .int i, .int j, M, Q => Q (.int (i + j)) M
  | .str a, .str b, M, Q => a.length + b.length ≤ sizeLine ∧ Q (.str (a ++ b)) M
  | _, _, _, _ => False
def rIAdd : R2 := fun x y H Q => (rI0 (fun i j => .int (i + j))) x y H Q ∨ (∃ i j, x = .str i ∧ y = .str j ∧ i.length + j.length ≤ sizeLine ∧ Q (.str (i ++ j)) H)
theorem pip_add {X : Cx} : PIp X .Add rIAdd := fun pins s σ H x y v u Q I rx ry h => OpR.or iop_add iop_add_str pins s σ H x y v u Q I rx ry h
theorem pip_sub {X : Cx} : PIp X .Sub (rI0 fun i j => .int (i - j)) := fun pins s σ H x y v u Q I rx ry h => iop_sub pins s σ H x y v u Q I rx ry h
theorem rel_iadd {K : PySem.W.Frag} : Rel2 K rIAdd dIAdd := by
  intro x y vx vy H F M Qd Q rx ry s h po
  unfold dIAdd at h
  split at h
  · unfold Rp at rx ry
    exact .inl ⟨_, _, rx, ry, po.fin s h (by unfold Rp; rfl)⟩
  · unfold Rp at rx ry
    obtain ⟨hl, h⟩ := h
    exact .inr ⟨_, _, rx, ry, by rw [mkS_len, mkS_len]; exact hl, po.fin s h (by unfold Rp; rw [mkS_app])⟩
  · exact h.elim
/-! o[i] = e, o[i] += e -/
def dSetV (o i v : D) (M : Mu) (Q : Mu → Prop) : Prop := match o, i with
  | .ref a, .int k => match M a with
    | some (.lst es) => match ixN es.length k with
      | some j => Q (mset M a (.lst (es.set j v)))
      | none => False
    | _ => False
  | _, _ => False
def PostM (K : PySem.W.Frag) (H F : Hp) (M : Mu) (Qd : Mu → Prop) (Q : Hp → Prop) : Prop := ∀ M' F' H', Qd M' → Go H F M H' F' M' → Sv K H' F' M' → Q H'
theorem rel_setV {K : PySem.W.Frag} {o i v : D} {vo vi vv : V} {H F : Hp} {M : Mu} {Qd : Mu → Prop} {Q : Hp → Prop} (ro : Rp K F o vo) (ri : Rp K F i vi) (rv : Rp K F v vv) (s : Sv K H F M) (h : dSetV o i v M Qd) (po : PostM K H F M Qd Q) : rSetL vo vi vv H Q := by
  unfold dSetV at h
  split at h
  · unfold Rp at ro ri
    subst ro ri
    split at h
    · rename_i es q
      obtain ⟨ho, e2, xs, e3, r2⟩ := s.mu _ _ q
      subst e3
      split at h
      · rename_i j ej
        obtain ⟨s1, g1⟩ := s.wr (o' := .lst (es.set j v)) (ho := .lst (xs.set j vv)) q ⟨_, rfl, r2.set j rv⟩
        exact ⟨_, xs, _, j, rfl, rfl, e2, by rw [← r2.len]; exact ej, po _ _ _ h g1 s1⟩
      · exact h.elim
    · exact h.elim
  · exact h.elim
def dgSub (uo ui : DTE) : DTg := fun v δ M Q => uo δ M fun o M1 => ui δ M1 fun i M2 => dSetV o i v M2 fun M3 => Q δ M3
def dGetM : DR2 := fun o i M Q => match o, i with
  | .ref a, .int k => match M a with
    | some (.lst es) => match atI es k with
      | some d => Q d M
      | none => False
    | _ => False
  | _, _ => False
theorem rel_getM {K : PySem.W.Frag} : Rel2 K (rIxL K) dGetM := by
  intro x y vx vy H F M Qd Q rx ry s h po
  unfold dGetM at h
  split at h
  · unfold Rp at rx ry
    subst rx ry
    split at h
    · rename_i es q
      obtain ⟨ho, e2, xs, e3, r2⟩ := s.mu _ _ q
      subst e3
      split at h
      · rename_i d ed
        obtain ⟨v, e4, r4⟩ := atI_rel r2 ed
        exact ⟨_, xs, _, v, rfl, rfl, .inl (.inl e2), e4, po.fin s h r4⟩
      · exact h.elim
    · exact h.elim
  · exact h.elim
def dAuS (uo ui ue : DTE) (rd : DR2) : DTS := fun D δ M => uo δ M fun o M1 => ui δ M1 fun i M2 => dGetM o i M2 fun x M3 => ue δ M3 fun y M4 => rd x y M4 fun z M5 => dSetV o i z M5 fun M6 => D.nx δ M6
theorem get_list {X : Cx} : PGet X (rIxL X.K) := by
  intro pins s σ H x y v u Q I rx ry h
  obtain ⟨p, xs, i, z, rfl, rfl, hq, he, q⟩ := h
  cases rx
  obtain ⟨t, rfl⟩ := ry
  obtain ⟨its, r, pl, hz⟩ := I.list hq
  obtain ⟨j, h1, h2, h3, h4, h5⟩ := atI_get he
  obtain ⟨w, ew, rw'⟩ := r.get h2
  have hl := r.length
  have hn := line63
  have fin : EP X pins σ Q w s := ⟨z, H, I, rw', q⟩
  by_cases h0 : 0 ≤ i
  · have hj : i.toNat = j := by
      rw [seqIndex_of h0 h5] at h1
      exact Option.some.inj h1
    exact wpAny_getItem_list pl.isList h0 (by omega) (by rw [hj]; simpa using ew) fin
  · have hj : (i + (its.toArray.size : Int)).toNat = j := by
      rw [seqIndex_neg (by omega) h4] at h1
      rw [List.size_toArray, ← hl]
      exact Option.some.inj h1
    exact wpAny_getItem_list_neg pl.isList (by omega) (by rw [List.size_toArray] <;> omega) (by omega) (by rw [hj]; simpa using ew) fin
theorem relg_sub {K : PySem.W.Frag} {vs : List Nat} {uo ui : DTE} : RelG K vs (gSub (lift K uo) (lift K ui) rSetL) (dgSub uo ui) := fun d x δ σ σ0 H F M Qd Q r e s h po w => by
  refine ⟨δ, M, F, _, e, s, h, fun o M1 F1 vo H1 q1 g1 s1 r1 => ?_⟩
  refine ⟨δ, M1, F1, _, e.mono g1.le, s1, q1, fun i M2 F2 vi H2 q2 g2 s2 r2 => ?_⟩
  exact rel_setV (r1.mono g2.le) r2 (r.mono (g1.le.trans g2.le)) s2 q2 fun M3 F3 H3 q3 g3 s3 => po _ _ _ _ _ q3 (g1.trans (g2.trans g3)) s3 (e.mono (g1.le.trans (g2.le.trans g3.le))) w
section
variable {X : Cx} {o i e : Expr} {uo ui ue : DTE} {pos tpos : Pos}
theorem ds_setIx (ho : DE X o uo) (hi : DE X i ui) (he : DE X e ue) (ha : ∀ v, assign (.Subscript o i tpos) X.env v = (do
      let ov ← holding [v] (eval o X.env)
      let iv ← holding [v, ov] (eval i X.env)
      standAt tpos
      holding [v, ov, iv] (setItem ov iv v)
      release [v, ov, iv] []) := by intro _; rfl) (hs : swapsWithSole [.Subscript o i tpos] e pos.line X.env = pure false := by rfl) (hw : swappedStores [.Subscript o i tpos] e X.env = pure none := by rfl)
    (h1 : (assignEach [.Subscript o i tpos] X.env).map (·.2) = [assign (.Subscript o i tpos) X.env] := by rfl) : DS X (.Assign [.Subscript o i tpos] e pos) (dAs ue (dgSub uo ui)) := ds_asg (vs := []) (pg_sub ho hi set_list ha) relg_sub he hs hw h1
theorem ds_augIx {op : Operator} {ti : TIp} {rd : DR2} (hp : PIp X op ti) (hr : Rel2 X.K ti rd) (ho : DE X o uo) (hi : DE X i ui) (he : DE X e ue)
    (ha : ∀ ov iv new, augStore i ov iv new = (do holding [new, ov, iv] (setItem ov iv new); release [new, ov, iv] []; pure .next) := by intros; rfl) : DS X (.AugAssign (.Subscript o i tpos) op e pos) (dAuS uo ui ue rd) := PS.weak (ps_augS ho hi get_list he hp set_list ha) fun D σ H h => by
  obtain ⟨δ, M, F, Dd, hE, s, hu, p⟩ := h
  refine ⟨δ, M, F, _, hE, s, hu, fun od M1 F1 vo H1 q1 g1 s1 r1 => ?_⟩
  refine ⟨δ, M1, F1, _, hE.mono g1.le, s1, q1, fun id M2 F2 vi H2 q2 g2 s2 r2 => ?_⟩
  have ro := r1.mono g2.le
  have e2 := hE.mono (g1.le.trans g2.le)
  refine rel_getM _ _ _ _ _ _ _ _ _ ro r2 s2 q2 fun x M3 F3 vx H3 q3 g3 s3 r3 => ?_
  refine ⟨δ, M3, F3, _, e2.mono g3.le, s3, q3, fun y M4 F4 vy H4 q4 g4 s4 r4 => ?_⟩
  refine hr _ _ _ _ _ _ _ _ _ (r3.mono g4.le) r4 s4 q4 fun z M5 F5 vz H5 q5 g5 s5 r5 => ?_
  exact rel_setV (ro.mono (g3.le.trans (g4.le.trans g5.le))) (r2.mono (g3.le.trans (g4.le.trans g5.le))) r5 s5 q5 fun M6 F6 H6 q6 g6 s6 =>
    p.nx _ _ _ _ _ q6 (g1.trans (g2.trans (g3.trans (g4.trans (g5.trans g6))))) s6 (e2.mono (g3.le.trans (g4.le.trans (g5.le.trans g6.le))))
end
end DL

namespace DL
open PySem PySem.Spec PyProof.Rows L2 TL

/-! ### what is walked: its items, and what must stay true of what may change -/
abbrev DTI := DEnv → Mu → (List D → (Mu → Prop) → Mu → Prop) → Prop
def PostI (K : PySem.W.Frag) (H F : Hp) (M : Mu) (Rd : List D → (Mu → Prop) → Mu → Prop) (R : It → Hp → Prop) : Prop :=
  ∀ ds g M' F' H' J G Y, Rd ds g M' → Go H F M H' F' M' → Sv K H' F' M' → Walk J ds.length G Y →
    (∀ H2 F2 M2, Go H' F' M' H2 F2 M2 → Sv K H2 F2 M2 → g M2 → G H2) →
    (∀ i H1 F1 M1 x H2, i < ds.length → Go H' F' M' H1 F1 M1 → Sv K H1 F1 M1 → g M1 → Y i H1 x H2 → ∃ F2, Sv K H2 F2 M1 ∧ Go H1 F1 M1 H2 F2 M1 ∧ ∃ d, ds[i]? = some d ∧ Rp K F2 d x) → R J H'
def liftI (K : PySem.W.Frag) (u : DTI) : TI := fun σ H R => ∃ δ M F Rd, ERel K F δ σ ∧ Sv K H F M ∧ u δ M Rd ∧ PostI K H F M Rd R
abbrev DI (X : Cx) (tg iter : Expr) (u : DTI) : Prop := PI X tg iter (liftI X.K u)
theorem PI.weak {X : Cx} {tg e : Expr} {t t' : TI} (h : PI X tg e t) (i : ∀ σ H R, t' σ H R → t σ H R) : PI X tg e t' := ⟨fun pins s σ H R I q => h.run pins s σ H R I (i _ _ _ q)⟩
/-- range -/
def rngD (lo : Int) (n : Nat) : List D := (List.range n).map fun k => .int (lo + (k : Nat))
def diR1 (ua : DTA) : DTI := fun δ M R => ua δ M fun ds M1 => match ds with
  | [.int j] => -(2 ^ 62) ≤ j ∧ j < 2 ^ 62 ∧ R (rngD 0 j.toNat) (fun _ => True) M1
  | _ => False
def diR2 (ua : DTA) : DTI := fun δ M R => ua δ M fun ds M1 => match ds with
  | [.int i, .int j] => (-(2 ^ 62) ≤ i ∧ i < 2 ^ 62 ∧ -(2 ^ 62) ≤ j ∧ j < 2 ^ 62) ∧ R (rngD i (j - i).toNat) (fun _ => True) M1
  | _ => False
theorem rngD_len (lo : Int) (n : Nat) : (rngD lo n).length = n := by unfold rngD; rw [List.length_map, List.length_range]
theorem rngD_at {lo : Int} {n i : Nat} (h : i < n) : (rngD lo n)[i]? = some (.int (lo + (i : Nat))) := by
  unfold rngD
  rw [List.getElem?_map, List.getElem?_range h]
  rfl
theorem post_rng {K : PySem.W.Frag} {H F H1 F1 : Hp} {M M1 : Mu} {Rd : List D → (Mu → Prop) → Mu → Prop} {R : It → Hp → Prop} {lo : Int} {n : Nat} (po : PostI K H F M Rd R) (q : Rd (rngD lo n) (fun _ => True) M1) (g : Go H F M H1 F1 M1) (s : Sv K H1 F1 M1) : R (Itr lo n) H1 := by
  refine po (rngD lo n) _ M1 F1 H1 (Itr lo n) (fun _ => True) (YFn fun i => .int (lo + i)) q g s (by rw [rngD_len]; exact walk_range) (fun _ _ _ _ _ _ => trivial) fun i H2 F2 M2 x H3 hi g2 s2 _ y => ?_
  rw [rngD_len] at hi
  obtain ⟨e1, e2⟩ := y
  subst e1 e2
  exact ⟨F2, s2, Go.refl, _, rngD_at hi, by unfold Rp; rfl⟩
section
variable {X : Cx} {tg : Expr} {a b e : Expr} {ua : DTA} {ue : DTE} {p pos : Pos}
theorem di_r1 (hg : Gl X "range") (hm : X.mg "range" = none) (ha : DA X [a] ua) (hs : starEach [a] X.env = [(false, eval a X.env)] := by rfl) : DI X tg (.Call (.Name "range" p) [a] [] pos) (diR1 ua) := PI.weak (pi_range1 hg hm ha hs) fun σ H R h => by
  obtain ⟨δ, M, F, Rd, hE, s, hu, po⟩ := h
  refine ⟨δ, M, F, _, hE, s, hu, fun ds M1 F1 vs H1 q g s1 r => ?_⟩
  split at q
  · obtain ⟨v, e1, r1⟩ := r.one
    unfold Rp at r1
    subst r1
    exact ⟨_, e1, q.1, q.2.1, post_rng po q.2.2 g s1⟩
  · exact q.elim
theorem di_r2 (hg : Gl X "range") (hm : X.mg "range" = none) (ha : DA X [a, b] ua) (hs : starEach [a, b] X.env = [(false, eval a X.env), (false, eval b X.env)] := by rfl) (hs2 : starEach [b] X.env = [(false, eval b X.env)] := by rfl) : DI X tg (.Call (.Name "range" p) [a, b] [] pos) (diR2 ua) := PI.weak (pi_range2 hg hm ha hs hs2) fun σ H R h => by
  obtain ⟨δ, M, F, Rd, hE, s, hu, po⟩ := h
  refine ⟨δ, M, F, _, hE, s, hu, fun ds M1 F1 vs H1 q g s1 r => ?_⟩
  split at q
  · obtain ⟨v, u, e1, r1, r2⟩ := r.two
    unfold Rp at r1 r2
    subst r1 r2
    exact ⟨_, _, e1, q.1, post_rng po q.2 g s1⟩
  · exact q.elim
end
/-! a list, a tuple, a text -/
def iSeq (K : PySem.W.Frag) (tl : TE) : TI := fun σ H R => tl σ H fun x H1 => (∃ a, x = .ref a ∧ (((∃ xs, SqL K H1 a xs) ∧ R (Itl K a) H1) ∨ ((∃ xs, SqT K H1 a xs) ∧ R (Itt K a) H1))) ∨ ∃ z, x = .str z ∧ R (Its z) H1
theorem pi_seq {X : Cx} {tg l : Expr} {te : TE} (hl : PE X l te) : PI X tg l (iSeq X.K te) := by
  refine ⟨fun pins s σ H R I h => ?_⟩
  refine thn (hl.run pins s σ H _ I h) fun v s1 ⟨x, H1, I1, r1, q1⟩ => ?_
  rcases q1 with ⟨a, e, ⟨⟨xs, hq⟩, q⟩ | ⟨⟨xs, hq⟩, q⟩⟩ | ⟨z, e, q⟩
  · subst e
    cases r1
    obtain ⟨its, rv, p, hz⟩ := I1.list hq
    refine wpAny_pyIter_list p.isList ?_
    refine ⟨s1.heap.objs.size, [s1.heap.objs.size], _, _, H1, rfl, I1.kept (t' := s1.toks) fun b o e => Heap.get?_push_of_some _ e, turn_list a _, ⟨_, Heap.get?_push_size _ rfl, rfl, rfl⟩, fun b hb => ?_, q⟩
    have e : b = s1.heap.objs.size := by simpa using hb
    subst e
    exact I1.fpOk (Nat.le_refl _) (I1.hok.fresh (Nat.le_refl _))
  · subst e
    cases r1
    obtain ⟨its, rv, p, hz⟩ := I1.tuple hq
    refine wpAny_pyIter_tuple (show s1.heap.IsTuple a its.toArray from p) ?_
    refine ⟨s1.heap.objs.size, [s1.heap.objs.size], _, _, H1, rfl, I1.kept (t' := s1.toks) fun b o e => Heap.get?_push_of_some _ e, turn_tuple a _, ⟨_, Heap.get?_push_size _ rfl, rfl, rfl⟩, fun b hb => ?_, q⟩
    have e : b = s1.heap.objs.size := by simpa using hb
    subst e
    exact I1.fpOk (Nat.le_refl _) (I1.hok.fresh (Nat.le_refl _))
  · subst e
    obtain ⟨t, rfl⟩ := r1
    cases ha : z.cps.all (· < 128)
    · exact wpAny_pyIter_wide ha (pi_one (tk := s1.toks) I1 _ (turn_str _ z t "str_iterator" (.inr rfl)) ⟨_, Heap.get?_push_size _ rfl, rfl, rfl⟩ q)
    · exact wpAny_pyIter_ascii ha (pi_one (tk := s1.toks) I1 _ (turn_str _ z t "str_ascii_iterator" (.inl rfl)) ⟨_, Heap.get?_push_size _ rfl, rfl, rfl⟩ q)
/-- a list that may change: it must stand as it was at each turn -/
def diSeq (ue : DTE) : DTI := fun δ M R => ue δ M fun d M1 => match d with
  | .tup ds => R ds (fun _ => True) M1
  | .lst ds => R ds (fun _ => True) M1
  | .src ns => R (ns.map .int) (fun _ => True) M1
  | .str cs => R (cs.map fun c => .str [c]) (fun _ => True) M1
  | .ref a => match M1 a with
    | some (.lst ds) => R ds (fun M2 => M2 a = some (.lst ds)) M1
    | _ => False
  | _ => False
theorem di_seq {X : Cx} {tg e : Expr} {ue : DTE} (h : DE X e ue) : DI X tg e (diSeq ue) := PI.weak (pi_seq h) fun σ H R h => by
  obtain ⟨δ, M, F, Rd, hE, s, hu, po⟩ := h
  refine ⟨δ, M, F, _, hE, s, hu, fun d M1 F1 v H1 q g s1 r => ?_⟩
  have stay : ∀ {ds : List D} {xs : List V} {a : Addr} {g' : Mu → Prop}, Rd ds g' M1 → RpL X.K F1 ds xs → (∀ H2 F2 M2, Go H1 F1 M1 H2 F2 M2 → Sv X.K H2 F2 M2 → g' M2 → SqL X.K H2 a xs) → (∀ H2 F2 M2, Go H1 F1 M1 H2 F2 M2 → Sv X.K H2 F2 M2 → g' M2 → True) → SqL X.K H1 a xs → R (Itl X.K a) H1 := fun {ds xs a g'} q r hs _ h0 => by
    refine po ds g' M1 F1 H1 (Itl X.K a) (fun H => SqL X.K H a xs) (YAt xs) q g s1 (by rw [r.len]; exact walk_list) hs fun i H2 F2 M2 x H3 hi g2 s2 _ y => ?_
    obtain ⟨e1, e2⟩ := y
    subst e1
    obtain ⟨d, e3, r3⟩ := (r.mono g2.le).getV e2
    exact ⟨F2, s2, Go.refl, d, e3, r3⟩
  cases d with
  | tup ds =>
    unfold Rp at r
    obtain ⟨a, xs, e1, h1, r1⟩ := r
    subst e1
    refine .inl ⟨a, rfl, .inr ⟨⟨xs, s1.fh.sqT h1⟩, ?_⟩⟩
    refine po ds _ M1 F1 H1 (Itt X.K a) (fun H => SqT X.K H a xs) (YAt xs) q g s1 (by rw [r1.len]; exact walk_tup) (fun H2 F2 M2 g2 s2 _ => s2.fh.sqT (g2.le.sqT h1)) fun i H2 F2 M2 x H3 hi g2 s2 _ y => ?_
    obtain ⟨e1, e2⟩ := y
    subst e1
    obtain ⟨d, e3, r3⟩ := (r1.mono g2.le).getV e2
    exact ⟨F2, s2, Go.refl, d, e3, r3⟩
  | lst ds =>
    unfold Rp at r
    obtain ⟨a, xs, e1, h1, r1⟩ := r
    subst e1
    have hl : SqL X.K F1 a xs := .inl (.inl h1)
    exact .inl ⟨a, rfl, .inl ⟨⟨xs, s1.fh.sqL hl⟩, stay q r1 (fun H2 F2 M2 g2 s2 _ => s2.fh.sqL (g2.le.sqL hl)) (fun _ _ _ _ _ _ => trivial) (s1.fh.sqL hl)⟩⟩
  | src ns =>
    unfold Rp at r
    obtain ⟨a, e1, h1⟩ := r
    subst e1
    exact .inl ⟨a, rfl, .inl ⟨⟨_, s1.fh.sqL h1⟩, stay q RpL.ints (fun H2 F2 M2 g2 s2 _ => s2.fh.sqL (g2.le.sqL h1)) (fun _ _ _ _ _ _ => trivial) (s1.fh.sqL h1)⟩⟩
  | str cs =>
    unfold Rp at r
    subst r
    refine .inr ⟨_, rfl, ?_⟩
    refine po _ _ M1 F1 H1 (Its (mkS cs)) (fun _ => True) _ q g s1 (by rw [List.length_map]; exact walk_str) (fun _ _ _ _ _ _ => trivial) fun i H2 F2 M2 x H3 hi g2 s2 _ y => ?_
    obtain ⟨e1, c, e2, e3⟩ := y
    subst e1 e3
    refine ⟨F2, s2, Go.refl, .str [c], ?_, by unfold Rp; rfl⟩
    rw [List.getElem?_map]
    have e4 : cs[i]? = some c := by simpa [mkS] using e2
    rw [e4]
    rfl
  | ref a =>
    unfold Rp at r
    subst r
    have q' : (match M1 a with | some (.lst ds) => Rd ds (fun M2 => M2 a = some (.lst ds)) M1 | _ => False) := q
    split at q'
    · rename_i ds e
      obtain ⟨ho, e2, xs, e3, r2⟩ := s1.mu a _ e
      subst e3
      refine .inl ⟨a, rfl, .inl ⟨⟨xs, .inl (.inl e2)⟩, ?_⟩⟩
      have w : Walk (Itl X.K a) ds.length (fun H => ∃ ys, SqL X.K H a ys ∧ ys.length = ds.length) (fun i H x H' => H' = H ∧ ∀ ys, SqL X.K H a ys → ys[i]? = some x) :=
        ⟨fun i _ hi ⟨ys, h1, h2⟩ => ⟨ys, ys[i]'(by omega), h1, by simp [show i < ys.length by omega]⟩, fun _ ⟨ys, h1, h2⟩ => ⟨ys, h1, by omega⟩, fun _ _ _ _ _ _ y => y⟩
      refine po ds _ M1 F1 H1 (Itl X.K a) _ _ q' g s1 w (fun H2 F2 M2 g2 s2 e4 => ?_) fun i H2 F2 M2 x H3 hi g2 s2 e4 y => ?_
      · obtain ⟨ho, e5, ys, e6, r6⟩ := s2.mu a _ e4
        subst e6
        exact ⟨ys, .inl (.inl e5), r6.len.symm⟩
      · obtain ⟨ho, e5, ys, e6, r6⟩ := s2.mu a _ e4
        subst e6
        obtain ⟨e1, e7⟩ := y
        subst e1
        obtain ⟨d, e3, r3⟩ := r6.getV (e7 ys (.inl (.inl e5)))
        exact ⟨F2, s2, Go.refl, d, e3, r3⟩
    · exact q'.elim
  | _ => exact q.elim

/-! ### for -/
def dForGo (g : Mu → Prop) (tg : DTg) (b : DTS) (E : DEnds) : List D → DEnv → Mu → Prop
  | [], δ, M => g M ∧ E.nx δ M
  | x :: xs, δ, M => g M ∧ tg x δ M fun δ' M' => b { E with nx := dForGo g tg b E xs, ct := dForGo g tg b E xs, bk := E.nx } δ' M'
def dFor (di : DTI) (tg : DTg) (b : DTS) : DTS := fun D δ M => di δ M fun ds g M1 => dForGo g tg b D ds δ M1
theorem drop_at {α : Type} {l : List α} {i : Nat} {d : α} (h : l[i]? = some d) : l.drop i = d :: l.drop (i + 1) := by
  obtain ⟨h1, h2⟩ := List.getElem?_eq_some_iff.mp h
  rw [List.drop_eq_getElem_cons h1, h2]
theorem ds_for {X : Cx} {tg iter : Expr} {body : List Stmt} {di : DTI} {g : TG} {dg : DTg} {tb : DTS} {vs : List Nat} {pos : Pos} (hp : PassesOwn (model X.prog X.w) X.A X.env X.xe) (hc : X.calm = true) (hi : DI X tg iter di) (hg : PG X tg g) (hr : RelG X.K vs g dg) (hb : DSs X body tb)
    (hs : ∀ x, foldedSetIterable iter X.env x = pure x := by intro _; rfl) : DS X (.For tg iter body [] pos) (dFor di dg tb) := PS.weak (ps_for hp hc hi hg hb hs) fun D σ H h => by
  obtain ⟨δ, M, F, Dd, hE, s, hu, p⟩ := h
  refine ⟨δ, M, F, _, hE, s, hu, fun ds gd M1 F1 H1 J G Y q g1 s1 w hG hY => ?_⟩
  refine for_it w (fun i σ' H' => ∃ δ' M' F', dForGo gd dg tb Dd (ds.drop i) δ' M' ∧ ERel X.K F' δ' σ' ∧ Sv X.K H' F' M' ∧ Go H1 F1 M1 H' F' M') ⟨δ, M1, F1, q, hE.mono g1.le, s1, Go.refl⟩ ?_ ?_ ?_
  · rintro i σ' H' hi ⟨δ', M', F', q', e', s', g'⟩
    refine hG H' F' M' g' s' ?_
    cases hd : ds.drop i with
    | nil => rw [hd] at q'; exact q'.1
    | cons x xs => rw [hd] at q'; exact q'.1
  · rintro i x σ' H' H2 hi ⟨δ', M', F', q', e', s', g'⟩ y
    have hgd : gd M' := by
      cases hd : ds.drop i with
      | nil => rw [hd] at q'; exact q'.1
      | cons x xs => rw [hd] at q'; exact q'.1
    obtain ⟨F2, s2, g2, d, e2, r2⟩ := hY i H' F' M' x H2 hi g' s' hgd y
    rw [drop_at e2] at q'
    refine hr d x δ' σ' σ' H2 F2 M' _ _ r2 (e'.mono g2.le) s2 q'.2 (fun δ3 M3 F3 σ3 H3 q3 g3 s3 e3 _ => ?_) rfl
    have gg := (g'.trans g2).trans g3
    refine ⟨δ3, M3, F3, _, e3, s3, q3, ⟨?_, p.rt.go (g1.trans gg), p.nx.go (g1.trans gg), ?_⟩⟩
    · intro δ4 M4 F4 σ4 H4 q4 g4 s4 e4
      exact ⟨δ4, M4, F4, q4, e4, s4, gg.trans g4⟩
    · intro δ4 M4 F4 σ4 H4 q4 g4 s4 e4
      exact ⟨δ4, M4, F4, q4, e4, s4, gg.trans g4⟩
  · rintro σ' H' ⟨δ', M', F', q', e', s', g'⟩
    rw [List.drop_length] at q'
    exact p.nx _ _ _ _ _ q'.2 (g1.trans g') s' e'

/-! ### comprehensions -/
def dwipe (δ : DEnv) : List Nat → DEnv
  | [] => δ
  | v :: vs => (dwipe δ vs).set v none
theorem ERel.setN {K : PySem.W.Frag} {F : Hp} {δ : DEnv} {σ : L2.St} {i : Nat} (h : ERel K F δ σ) : ERel K F (δ.set i none) (σ.set i none) := by
  refine ⟨by rw [List.length_set, List.length_set]; exact h.1, fun j e hj => ?_⟩
  by_cases hji : i = j
  · subst hji
    by_cases hl : i < δ.length
    · rw [List.getElem?_set_self hl] at hj; cases hj
    · rw [List.getElem?_eq_none (by rw [List.length_set]; omega)] at hj; cases hj
  · rw [List.getElem?_set_ne hji] at hj ⊢
    exact h.2 j e hj
theorem ERel.wipe {K : PySem.W.Frag} {F : Hp} {δ : DEnv} {σ : L2.St} (h : ERel K F δ σ) : ∀ vs : List Nat, ERel K F (dwipe δ vs) (L2.wipe σ vs)
  | [] => h
  | v :: vs => (ERel.wipe h vs).setN
def dLcGo (g : Mu → Prop) (tg : DTg) (tt : DTT) (te : DTE) (δw : DEnv) : List D → List D → Mu → (List D → Mu → Prop) → Prop
  | [], acc, M, Q => g M ∧ Q acc M
  | x :: xs, acc, M, Q => g M ∧ tg x δw M fun δ' M' => tt δ' M' fun b M1 => match b with
    | true => te δ' M1 fun y M2 => acc.length < sizeLine ∧ dLcGo g tg tt te δw xs (acc ++ [y]) M2 Q
    | false => dLcGo g tg tt te δw xs acc M1 Q
def dLc (mu : Bool) (di : DTI) (tg : DTg) (tt : DTT) (te : DTE) (vs : List Nat) : DTE := fun δ M Q => di δ M fun ds g M1 => dLcGo g tg tt te (dwipe δ vs) ds [] M1 fun acc M2 => dNew mu acc M2 Q
def dYes : DTT := fun _ M Q => Q true M
abbrev DPs (X : Cx) (ifs : List Expr) (t : DTT) : Prop := PTs X ifs (liftT X.K t)
theorem dps_nil {X : Cx} : DPs X [] dYes := ⟨fun pins s σ H Q I h => by
  obtain ⟨δ, M, F, Qd, hE, sv, hu, p⟩ := h
  exact pts_nil.run pins s σ H Q I (p _ _ _ _ hu Go.refl sv)⟩
theorem dps_one {X : Cx} {c : Expr} {t : DTT} (h : DT X c t) : DPs X [c] t := pts_one h
theorem lc_rel {K : PySem.W.Frag} {mu : Bool} {di : DTI} {g : TG} {dg : DTg} {tt : DTT} {te : DTE} {vs : List Nat} (hr : RelG K vs g dg) : ∀ σ H Q, lift K (dLc mu di dg tt te vs) σ H Q → tLc (liftI K di) g (liftT K tt) (lift K te) vs σ H Q := fun σ H Q h => by
  obtain ⟨δ, M, F, Qd, hE, s, hu, p⟩ := h
  refine ⟨δ, M, F, _, hE, s, hu, fun ds gd M1 F1 H1 J G Y q g1 s1 w hG hY => ?_⟩
  intro D hD
  have fr := s1.fresh hD
  -- the list that is made: hidden
  have s1' : Sv K (upd H1 D (.lst [])) F1 M1 := by
    refine ⟨fun b o e => ?_, s1.fm, fun a o e => ?_⟩
    · rw [upd_ne (ne_of_none e fr.1)]; exact s1.fh b o e
    · obtain ⟨ho, e2, r2⟩ := s1.mu a o e
      exact ⟨ho, by rw [upd_ne (ne_of_none e2 hD)]; exact e2, r2⟩
  have g1' : Go H1 F1 M1 (upd H1 D (.lst [])) F1 M1 := ⟨Le.refl _, fun b o e m => ⟨by rw [upd_ne (ne_of_none e hD)]; exact e, m, fun z => z⟩⟩
  refine lc_it w (fun i H' => ∃ M' F' acc xs, dLcGo gd dg tt te (dwipe δ vs) (ds.drop i) acc M' (fun acc M2 => dNew mu acc M2 Qd) ∧ Sv K H' F' M' ∧ Go H1 F1 M1 H' F' M' ∧ H' D = some (.lst xs) ∧ M' D = none ∧ F' D = none ∧ RpL K F' acc xs)
    ⟨M1, F1, [], [], q, s1', g1', upd_same, fr.2, fr.1, RpL.nil⟩ ?_ ?_ ?_
  · rintro i H' hi ⟨M', F', acc, xs, q', s', g', eD, mD, fD, r⟩
    refine hG H' F' M' g' s' ?_
    cases hd : ds.drop i with
    | nil => rw [hd] at q'; exact q'.1
    | cons x xs => rw [hd] at q'; exact q'.1
  · rintro i x H' H2 hi ⟨M', F', acc, xs, q', s', g', eD, mD, fD, r⟩ y
    have hgd : gd M' := by
      cases hd : ds.drop i with
      | nil => rw [hd] at q'; exact q'.1
      | cons x xs => rw [hd] at q'; exact q'.1
    obtain ⟨F2, s2, g2, d, e2, r2⟩ := hY i H' F' M' x H2 hi g' s' hgd y
    rw [drop_at e2] at q'
    have ew : ERel K F2 (dwipe δ vs) (L2.wipe σ vs) := (hE.mono (g1.le.trans (g'.le.trans g2.le))).wipe vs
    refine hr d x _ _ (L2.wipe σ vs) H2 F2 M' _ _ r2 ew s2 q'.2 (fun δ3 M3 F3 σ3 H3 q3 g3 s3 e3 w3 => ⟨?_, ?_⟩) rfl
    · rw [w3]
      clear q q' hG hY
      refine List.ext_getElem? fun j => ?_
      by_cases hj : j ∈ vs
      · by_cases hl : j < σ.length
        · rw [wipe_in hj (by rw [wipe_length]; exact hl), wipe_in hj hl]
        · rw [List.getElem?_eq_none (by rw [wipe_length, wipe_length]; omega), List.getElem?_eq_none (by rw [wipe_length]; omega)]
      · rw [wipe_out hj]
    · refine ⟨δ3, M3, F3, _, e3, s3, q3, fun b M4 F4 H4 q4 g4 s4 => ?_⟩
      cases b with
      | false =>
        rw [if_neg Bool.false_ne_true]
        have gg := (g2.trans g3).trans g4
        obtain ⟨h1, h2, h3⟩ := gg.kp D _ eD mD
        exact ⟨M4, F4, acc, xs, q4, s4, g'.trans gg, h1, h2, h3 fD, r.mono gg.le⟩
      | true =>
        rw [if_pos rfl]
        refine ⟨δ3, M4, F4, _, e3.mono g4.le, s4, q4, fun z M5 F5 v H5 q5 g5 s5 r5 => ?_⟩
        have gg := ((g2.trans g3).trans g4).trans g5
        obtain ⟨h1, h2, h3⟩ := gg.kp D _ eD mD
        have rr := r.mono gg.le
        have hD5 : H1 D = none := hD
        have g6 := g'.trans gg
        refine ⟨xs, h1, by rw [← r.len]; exact q5.1, M5, F5, acc ++ [z], xs ++ [v], q5.2, ?_, ?_, upd_same, h2, h3 fD, rr.snoc r5⟩
        · refine ⟨fun b o e => ?_, s5.fm, fun a o e => ?_⟩
          · rw [upd_ne (fun z => by rw [z, h3 fD] at e; cases e)]; exact s5.fh b o e
          · obtain ⟨ho, e2, r2⟩ := s5.mu a o e
            exact ⟨ho, by rw [upd_ne (fun z => by rw [z, h2] at e; cases e)]; exact e2, r2⟩
        · refine ⟨g6.le, fun b o e m => ?_⟩
          obtain ⟨k1, k2, k3⟩ := g6.kp b o e m
          exact ⟨by rw [upd_ne (ne_of_none e hD5)]; exact k1, k2, k3⟩
  · rintro H' ⟨M', F', acc, xs, q', s', g', eD, mD, fD, r⟩
    rw [List.drop_length] at q'
    have po := p.go g1
    have q2 := q'.2
    have nD : ∀ b o, H1 b = some o → b ≠ D := fun b o e => ne_of_none e hD
    cases mu with
    | false =>
      have l : Le F' (upd F' D (.lst xs)) := Le.new fD
      refine po _ M' (upd F' D (.lst xs)) _ _ q2 ⟨g'.le.trans l, fun b o e m => ?_⟩ ⟨fun b o e => ?_, fun b o e => ?_, fun a o e => ?_⟩ ?_
      · obtain ⟨k1, k2, k3⟩ := g'.kp b o e m
        exact ⟨k1, k2, fun z => by rw [upd_ne (nD b o e)]; exact k3 z⟩
      · by_cases hb : b = D
        · subst hb; rw [upd_same] at e; cases e; exact eD
        · rw [upd_ne hb] at e; exact s'.fh b o e
      · by_cases hb : b = D
        · subst hb; exact mD
        · rw [upd_ne hb] at e; exact s'.fm b o e
      · obtain ⟨ho, e2, r2⟩ := s'.mu a o e
        exact ⟨ho, e2, r2.mono l⟩
      · unfold Rp
        exact ⟨D, xs, rfl, upd_same, r.mono l⟩
    | true =>
      refine po _ (mset M' D (.lst acc)) F' _ _ (q2 D mD) ⟨g'.le, fun b o e m => ?_⟩ ⟨s'.fh, fun b o e => ?_, fun a o e => ?_⟩ (by unfold Rp; rfl)
      · obtain ⟨k1, k2, k3⟩ := g'.kp b o e m
        exact ⟨k1, by rw [mset_ne (nD b o e)]; exact k2, k3⟩
      · rw [mset_ne (fun z => by rw [z, fD] at e; cases e)]; exact s'.fm b o e
      · by_cases ha : a = D
        · subst ha
          rw [mset_same] at e
          cases e
          exact ⟨_, eD, xs, rfl, r⟩
        · rw [mset_ne ha] at e
          exact s'.mu a o e
section
variable {X : Cx} {elt tg iter : Expr} {ifs : List Expr} {scope : Scope} {own : List (Str × Nat)} {pos : Pos} {di : DTI} {g : TG} {dg : DTg} {tt : DTT} {te : DTE}
theorem de_lc (mu : Bool) (hc : X.calm = true) (hN : X.N.Nodup) (hi : DI X tg iter di) (ok : BlkOk X.N X.env.scope scope own) (hr : RelG X.K (own.map (·.2)) g dg)
    (hg : ∀ (s : Shared) (H : Hp) (C : Addr) (cl : List (Str × Addr)) (fp : List Addr), PG (X.blk s H scope (compEnvC scope cl C X.env) fp) tg g) (ht : ∀ (s : Shared) (H : Hp) (C : Addr) (cl : List (Str × Addr)) (fp : List Addr), DPs (X.blk s H scope (compEnvC scope cl C X.env) fp) ifs tt)
    (he : ∀ (s : Shared) (H : Hp) (C : Addr) (cl : List (Str × Addr)) (fp : List Addr), DE (X.blk s H scope (compEnvC scope cl C X.env) fp) elt te) (hs : ∀ x, foldedSetIterable iter X.env x = pure x := by intro _; rfl) :
    DE X (.ListComp elt [⟨tg, iter, ifs, 0⟩] scope pos) (dLc mu di dg tt te (own.map (·.2))) := PE.weak (pe_lc hc hN hi ok hg ht he hs) (lc_rel hr)
theorem ds_setLc (mu : Bool) {i : Nat} {y : Str} {py : Pos} {spos : Pos} (hc : X.calm = true) (hN : X.N.Nodup) (hi : DI X tg iter di) (ok : BlkOk X.N X.env.scope scope own) (hr : RelG X.K (own.map (·.2)) g dg)
    (hg : ∀ (s : Shared) (H : Hp) (C : Addr) (cl : List (Str × Addr)) (fp : List Addr), PG (X.blk s H scope (compEnvC scope cl C X.env) fp) tg g) (ht : ∀ (s : Shared) (H : Hp) (C : Addr) (cl : List (Str × Addr)) (fp : List Addr), DPs (X.blk s H scope (compEnvC scope cl C X.env) fp) ifs tt)
    (he : ∀ (s : Shared) (H : Hp) (C : Addr) (cl : List (Str × Addr)) (fp : List Addr), DE (X.blk s H scope (compEnvC scope cl C X.env) fp) elt te)
    (hsw : swapsWith (.ListComp elt [⟨tg, iter, ifs, 0⟩] scope pos) (some (.Name y py)) spos.line X.env = pure true) (hy : X.N[i]? = some y := by rfl) (hyl : X.env.scope.names.lookup y = some .local := by rfl) (hs : ∀ x, foldedSetIterable iter X.env x = pure x := by intro _; rfl) :
    DS X (.Assign [.Name y py] (.ListComp elt [⟨tg, iter, ifs, 0⟩] scope pos) spos) (dAs (dLc mu di dg tt te (own.map (·.2))) (dgN i)) := PS.weak (ps_setLc hc hN hy hyl hsw hi ok hg ht he hs) fun D σ H h => by
  obtain ⟨δ, M, F, Dd, hE, s, hu, p⟩ := h
  exact lc_rel hr σ H _ ⟨δ, M, F, _, hE, s, hu, fun d M' F' v H' q g s' r => p.nx _ _ _ _ _ q g s' ((hE.mono g.le).set r)⟩
end

/-! ### defs -/
structure DX where
  cls : Addr
  fs : List (Str × D)
abbrev DXK := DX → Mu → Prop
abbrev DSp := List D → Mu → DK → DXK → Prop
def RpX (K : PySem.W.Frag) (F : Hp) (H : Hp) (M : Mu) (x : DX) (d : Option Addr) : Prop := match x.fs with
  | [] => d = none
  | fs => ∃ a vs, d = some a ∧ H a = some (.xd vs) ∧ M a = none ∧ fs.map (·.1) = vs.map (·.1) ∧ RpL K F (fs.map (·.2)) (vs.map (·.2))
def PostX (K : PySem.W.Frag) (H F : Hp) (M : Mu) (Ed : DXK) (E : XK) : Prop := ∀ x M' F' d H', Ed x M' → Go H F M H' F' M' → Sv K H' F' M' → RpX K F' H' M' x d → E (.ref x.cls) d H'
theorem PostX.go {K : PySem.W.Frag} {H F H1 F1 : Hp} {M M1 : Mu} {Ed : DXK} {E : XK} (p : PostX K H F M Ed E) (g : Go H F M H1 F1 M1) : PostX K H1 F1 M1 Ed E := fun x M' F' d H' q g' s r => p x M' F' d H' q (g.trans g') s r
abbrev dX0 : DXK := fun _ _ => False
theorem post0 {K : PySem.W.Frag} {H F : Hp} {M : Mu} {E : XK} : PostX K H F M dX0 E := fun _ _ _ _ _ q _ _ _ => q.elim
def liftSp (K : PySem.W.Frag) (sp : DSp) : Sp := fun vs H Q E => ∃ ds M F Qd Ed, RpL K F ds vs ∧ Sv K H F M ∧ sp ds M Qd Ed ∧ Post K H F M Qd Q ∧ PostX K H F M Ed E
/-- a call of a def whose promise is sp; ds: the defaults that fill up -/
def dCall (sp : DSp) (dds : List D) (E : DXK) (ua : DTA) : DTE := fun δ M Q => ua δ M fun ds M1 => sp (ds ++ dds) M1 Q E
section
variable {X : Cx} {CX : CXT} {k : Nat} {f : Addr} {fd : FuncData} {ps : List Str} {sp : DSp} {dvs : List V} {dds : List D} {ds : List Value} {x : Str} {p pos : Pos} {e : Expr} {es : List Expr} {ua : DTA}
theorem call_rel (hd : ∀ F, RpL X.K F dds dvs) : ∀ σ H Q, lift X.K (dCall sp dds dX0 ua) σ H Q → tCall (liftSp X.K sp) dvs E0 (liftA X.K ua) σ H Q := fun σ H Q h => by
  obtain ⟨δ, M, F, Qd, hE, s, hu, p⟩ := h
  exact ⟨δ, M, F, _, hE, s, hu, fun ds M1 F1 vs H1 q g s1 r => ⟨_, M1, F1, Qd, dX0, r.app (hd F1), s1, q, p.go g, post0⟩⟩
/-- f(e, ..), nothing is raised -/
theorem de_call (F : FnOk X.prog X.w X.K X.mg X.base CX0 k f fd ps (liftSp X.K sp)) (hr : Room k X.A) (hm : X.mg x = some (.ref f)) (hk : PySem.W.keepIn X.K (.ref f) = true) (hb : Binds X.K fd ps ds) (hd : Vals dvs ds) (hdd : ∀ F, RpL X.K F dds dvs)
    (ha : DA X (e :: es) ua) (hg : Gl X x := by rfl) (hdb : (x == ("__debug__" : Str)) = false := by decide) (he : starEach (e :: es) X.env = (false, eval e X.env) :: starEach es X.env := by rfl) (hpl : (backTo pos (starEach es X.env)).any (·.1) = false := by rfl) :
    DE X (.Call (.Name x p) (e :: es) [] pos) (dCall sp dds dX0 ua) := PE.weak (pe_call F hr hg hm hk hb hd pass0 ha hdb he hpl) (call_rel hdd)
theorem de_call0 (F : FnOk X.prog X.w X.K X.mg X.base CX0 k f fd ps (liftSp X.K sp)) (hr : Room k X.A) (hm : X.mg x = some (.ref f)) (hk : PySem.W.keepIn X.K (.ref f) = true) (hb : Binds X.K fd ps ds) (hd : Vals dvs ds) (hdd : ∀ F, RpL X.K F dds dvs)
    (hg : Gl X x := by rfl) (hdb : (x == ("__debug__" : Str)) = false := by decide) :
    DE X (.Call (.Name x p) [] [] pos) (dCall sp dds dX0 dNil) := PE.weak (pe_call0 F hr hg hm hk hb hd pass0 hdb) fun σ H Q h => by
  obtain ⟨δ, M, F, Qd, hE, s, hu, p⟩ := call_rel hdd σ H Q h
  exact p _ _ _ _ _ hu Go.refl s RpL.nil
end
/-- what a def's body is to reach -/
def dEnd (Q : DK) : DEnds := { nx := fun _ M => Wq Q .non M, rt := Wq Q }
def dstart (n : Nat) (ds : List D) : DEnv := ds.map some ++ List.replicate (n - ds.length) none
/-- THE RULE: a def that raises nothing, by its body's reading t -/
theorem dfn {P : Program} {w : World} {K : PySem.W.Frag} {mg : Str → Option Value} {base : Heap} {x qual : Str} {params : Arguments} {body : List Stmt} {scope : Scope} {dvs : List V} {kws : List (Str × V)} {f : Addr} {fd : FuncData} {N ps : List Str} {k : Nat} {sp : DSp} {t : DTS}
    (Fd : FunD K x qual params body scope dvs kws f fd) (S : FnScope N ps scope) (len : ∀ ds M Q E, sp ds M Q E → ds.length = ps.length)
    (hb : ∀ (cdv : Value) (A : Around) (outer : List Env) (s : Shared) (H : Hp) (E : XK), Room k (A.deeper (envOfC qual scope s.heap.objs.size f cdv)) → DSs (cxOf CX0 P w K mg base N qual scope f cdv A outer s H E).nox body t)
    (hs : ∀ ds M Q E, sp ds M Q E → t (dEnd Q) (dstart N.length ds) M) : FnOk P w K mg base CX0 (k + 1) f fd ps (liftSp K sp) := by
  refine Fd.ok S (fun vs H Q E h => ?_) (fun cdv A outer s H vs Q E hr h => ⟨liftS K t, PSs.nox (hb cdv A outer s H E hr), ?_⟩)
  · obtain ⟨ds, M, F, Qd, Ed, r, _, h, _⟩ := h
    rw [← r.len]
    exact len _ _ _ _ h
  · obtain ⟨ds, M, F, Qd, Ed, r, sv, h, po, px⟩ := h
    refine ⟨dstart N.length ds, M, F, dEnd Qd, ?_, sv, hs ds M Qd Ed h, ⟨?_, po.wq, fun _ _ _ _ _ q => q.elim, fun _ _ _ _ _ q => q.elim⟩⟩
    · exact ERel.start r
    · intro δ' M' F' σ' H' q g s' e
      exact po.wq _ _ _ _ _ q g s' (by unfold Rp; rfl)
end DL

namespace DL
open PySem PySem.Spec PyProof.Rows L2 TL

/-! ### defs and constants of the module by their names -/
/-- the def x stands there, as the text says -/
def DefAt (K : PySem.W.Frag) (mg : Str → Option Value) (x : Str) (st : Stmt) : Prop := ∃ f fd, FunD K x x (defArgs st) (defBody st) (defScope st) [] [] f fd ∧ mg x = some (.ref f)
/-- the def x may be called with this promise -/
def Cal (P : Program) (w : World) (K : PySem.W.Frag) (mg : Str → Option Value) (base : Heap) (k : Nat) (x : Str) (ps : List Str) (sp : DSp) : Prop :=
  ∃ f fd, FnOk P w K mg base CX0 k f fd ps (liftSp K sp) ∧ mg x = some (.ref f) ∧ PySem.W.keepIn K (.ref f) = true ∧ Binds K fd ps []
theorem Cal.mono {P : Program} {w : World} {K : PySem.W.Frag} {mg : Str → Option Value} {base : Heap} {j k : Nat} {x : Str} {ps : List Str} {sp : DSp} (c : Cal P w K mg base j x ps sp) (h : j ≤ k) : Cal P w K mg base k x ps sp := by
  obtain ⟨f, fd, F, m, kp, b⟩ := c
  exact ⟨f, fd, F.mono h, m, kp, b⟩
/-- a weaker promise -/
theorem Cal.imp {P : Program} {w : World} {K : PySem.W.Frag} {mg : Str → Option Value} {base : Heap} {k : Nat} {x : Str} {ps : List Str} {sp sp' : DSp} (c : Cal P w K mg base k x ps sp) (h : ∀ ds M Q E, sp' ds M Q E → sp ds M Q E) : Cal P w K mg base k x ps sp' := by
  obtain ⟨f, fd, F, m, kp, b⟩ := c
  refine ⟨f, fd, F.imp fun vs H Q E q => ?_, m, kp, b⟩
  obtain ⟨ds, M, F, Qd, Ed, r, s, q, p1, p2⟩ := q
  exact ⟨ds, M, F, Qd, Ed, r, s, h _ _ _ _ q, p1, p2⟩
section
variable {X : Cx} {k : Nat} {ps : List Str} {sp : DSp} {x : Str} {p pos : Pos} {e : Expr} {es : List Expr} {ua : DTA}
theorem de_cal (C : Cal X.prog X.w X.K X.mg X.base k x ps sp) (hr : Room k X.A) (ha : DA X (e :: es) ua) (hg : Gl X x := by rfl) (hdb : (x == ("__debug__" : Str)) = false := by decide)
    (he : starEach (e :: es) X.env = (false, eval e X.env) :: starEach es X.env := by rfl) (hpl : (backTo pos (starEach es X.env)).any (·.1) = false := by rfl) : DE X (.Call (.Name x p) (e :: es) [] pos) (dCall sp [] dX0 ua) := by
  obtain ⟨f, fd, F, m, kp, b⟩ := C
  exact de_call F hr m kp b .nil (fun _ => RpL.nil) ha hg hdb he hpl
theorem de_cal0 (C : Cal X.prog X.w X.K X.mg X.base k x ps sp) (hr : Room k X.A) (hg : Gl X x := by rfl) (hdb : (x == ("__debug__" : Str)) = false := by decide) : DE X (.Call (.Name x p) [] [] pos) (dCall sp [] dX0 dNil) := by
  obtain ⟨f, fd, F, m, kp, b⟩ := C
  exact de_call0 F hr m kp b .nil (fun _ => RpL.nil) hg hdb
end
/-- THE RULE -/
theorem cal_of {P : Program} {w : World} {K : PySem.W.Frag} {mg : Str → Option Value} {base : Heap} {x : Str} {st : Stmt} {N ps : List Str} {k : Nat} {sp : DSp} {t : DTS} (d : DefAt K mg x st) (S : FnScope N ps (defScope st))
    (len : ∀ ds M Q E, sp ds M Q E → ds.length = ps.length)
    (hbind : ∀ (kV doc pm : Value) (an : Option Addr) (cdv ct : Value) (us : List Value), us.length = ps.length → bindArgs (PySem.W.fnOf x x (defArgs st) (defBody st) (defScope st) .none kV doc pm an cdv ct) ⟨us, []⟩ = pure (ps.zip us))
    (hb : ∀ (f : Addr) (cdv : Value) (A : Around) (outer : List Env) (s : Shared) (H : Hp) (E : XK), Room k (A.deeper (envOfC x (defScope st) s.heap.objs.size f cdv)) → DSs (cxOf CX0 P w K mg base N x (defScope st) f cdv A outer s H E).nox (defBody st) t)
    (hs : ∀ ds M Q E, sp ds M Q E → t (dEnd Q) (dstart N.length ds) M) : Cal P w K mg base (k + 1) x ps sp := by
  obtain ⟨f, fd, F, m⟩ := d
  exact ⟨f, fd, dfn F S len (hb f) hs, m, F.kp, F.bindsN hbind⟩
/-- a constant of the module -/
def GC (K : PySem.W.Frag) (mg : Str → Option Value) (x : Str) (d : D) : Prop := ∃ u v, mg x = some u ∧ RelV v u ∧ ∀ F, Rp K F d v
theorem de_gc {X : Cx} {x : Str} {pos : Pos} {d : D} (c : GC X.K X.mg x d) (hg : Gl X x := by rfl) (hd : (x == ("__debug__" : Str)) = false := by decide) : DE X (.Name x pos) (dC d) := by
  obtain ⟨u, v, m, r, rp⟩ := c
  exact de_glob hg m r rp hd
/-- an entry of a dict of the module -/
def GD (K : PySem.W.Frag) (mg : Str → Option Value) (w : World) (x key : Str) (d : D) : Prop := ∃ a v, mg x = some (.ref a) ∧ KDct K w a key v ∧ ∀ F, Rp K F d v
theorem de_gd {X : Cx} {x key : Str} {pos p kp : Pos} {j : Nat} {d : D} (c : GD X.K X.mg X.w x key d) (hg : Gl X x := by rfl) (hd : (x == ("__debug__" : Str)) = false := by decide) (hs : PlainIx (.Constant (.str key) j kp) := by intro _ _; rfl) :
    DE X (.Subscript (.Name x p) (.Constant (.str key) j kp) pos) (dC d) := by
  obtain ⟨a, v, m, kd, rp⟩ := c
  refine PE.weak (pe_ix ix_kdict (pe_glob (v := .ref a) hg m rfl hd) pe_str hs) fun σ H Q h => ?_
  obtain ⟨δ, M, F, Qd, hE, s, hu, po⟩ := h
  exact ⟨a, key, v, rfl, rfl, kd, po.fin s hu (rp F)⟩
theorem gc_str {K : PySem.W.Frag} {mg : Str → Option Value} {x z : Str} {cs : List Nat} {t : Tok} (h : mg x = some (.str z t)) (e : z = mkS cs) : GC K mg x (.str cs) := ⟨_, .str z, h, ⟨t, rfl⟩, fun F => by unfold Rp; rw [e]⟩
/-! ### bit_length -/
def dBits (uo : DTE) : DTE := fun δ M Q => uo δ M fun d M1 => match d with
  | .int i => Q (.int (Builtin.Int.intBits i : Nat)) M1
  | _ => False
theorem de_bits {X : Cx} {o : Expr} {uo : DTE} {apos pos : Pos} (ho : DE X o uo) (hbase : attributeBase o "bit_length" X.env (eval o X.env) = eval o X.env := by rfl) (hline : (apos.endLine == pos.line) = true := by rfl) : DE X (.Call (.Attribute o "bit_length" apos) [] [] pos) (dBits uo) := PE.weak (pe_bits ho hbase hline) fun σ H Q h => by
  obtain ⟨δ, M, F, Qd, hE, s, hu, po⟩ := h
  refine ⟨δ, M, F, _, hE, s, hu, fun d M1 F1 v H1 q g s1 r => ?_⟩
  cases d <;> first | exact False.elim q | skip
  unfold Rp at r
  subst r
  exact ⟨_, rfl, po _ _ _ _ _ q g s1 (by unfold Rp; rfl)⟩
/-! ### e.replace of written texts, where a token has been given out -/
open CwR PySem.StrLaws
def dRepl (uo : DTE) (y z : List Nat) : DTE := fun δ M Q => uo δ M fun d M1 => match d with
  | .str cs => cs.length + (cs.length + 1) * z.length ≤ 16777216 ∧ Q (.str (replL y z cs)) M1
  | _ => False
abbrev DET (X : Cx) (e : Expr) (u : DTE) : Prop := PET X e (lift X.K u)
abbrev DSsT (X : Cx) (s : List Stmt) (u : DTS) : Prop := PSsT X s (liftS X.K u)
theorem PET.weak {X : Cx} {e : Expr} {t t' : TE} (h : PET X e t) (i : ∀ σ H Q, t' σ H Q → t σ H Q) : PET X e t' := fun pins s σ H Q h0 I q => h pins s σ H Q h0 I (i _ _ _ q)
theorem PST.weak {X : Cx} {e : Stmt} {t t' : TS} (h : PST X e t) (i : ∀ D σ H, t' D σ H → t D σ H) : PST X e t' := fun pins s σ H D h0 I q => h pins s σ H D h0 I (i _ _ _ q)
theorem det_repl {X : Cx} {o : Expr} {uo : DTE} {j k : Nat} {c0 c1 apos pos : Pos} {y z : Str} (ys zs : List Nat) (ho : DE X o uo) (hy : y = mkS ys := by decide +kernel) (hz : z = mkS zs := by decide +kernel) (hne : 1 ≤ ys.length := by decide) (hyz : (y == z) = false := by decide +kernel)
    (hst : starEach [.Constant (.str y) j c0, .Constant (.str z) k c1] X.env = [(false, eval (.Constant (.str y) j c0) X.env), (false, eval (.Constant (.str z) k c1) X.env)] := by rfl)
    (hbase : attributeBase o "replace" X.env (eval o X.env) = eval o X.env := by rfl) (hline : (apos.endLine == pos.line) = true := by rfl) :
    DET X (.Call (.Attribute o "replace" apos) [.Constant (.str y) j c0, .Constant (.str z) k c1] [] pos) (dRepl uo ys zs) := PET.weak (pet_replC ho hyz hst hbase hline) fun σ H Q h => by
  obtain ⟨δ, M, F, Qd, hE, s, hu, po⟩ := h
  refine ⟨δ, M, F, _, hE, s, hu, fun d M1 F1 v H1 q g s1 r => ?_⟩
  cases d <;> first | exact False.elim q | skip
  unfold Rp at r
  subst r hy hz
  refine ⟨_, rfl, by rw [mkS_len, mkS_len]; exact q.1, po _ _ _ _ _ q.2 g s1 ?_⟩
  unfold Rp
  congr 1
  refine ext_tl ?_
  have e := replace_list (x := mkS (by assumption)) (y := mkS ys) (z := mkS zs) (by rw [mkS_len]; exact hne)
  exact e
theorem dst_ret {X : Cx} {e : Expr} {ue : DTE} {pos : Pos} (he : DET X e ue) : PST X (.Return (some e) pos) (liftS X.K (dRt ue)) := PST.weak (pst_ret he) fun D σ H h => by
  obtain ⟨δ, M, F, Dd, hE, s, hu, p⟩ := h
  exact ⟨δ, M, F, _, hE, s, hu, p.rt⟩
theorem dsst_one {X : Cx} {st : Stmt} {t : DTS} (h : PST X st (liftS X.K t)) : DSsT X [st] t := fun pins s σ H D h0 I q => psst_one h pins s σ H D h0 I q
/-- if a == 8: ..: behind the test a token has been given out -/
theorem ds_ifT {X : Cx} {a : Expr} {i : Int} {j : Nat} {cp pos pos' : Pos} {body : List Stmt} {ua : DTE} {t : DTS} (hu : X.A.units + 64 < cLine) (ha : DE X a ua) (hb : DSsT X body t) : DS X (.If (.Compare a [.Eq] [.Constant (.int i) j cp] pos') body [] pos) (dIfS (dTest (dOp dEq ua (dC (.int i)))) t dNx) := by
  have hc : DT X (.Compare a [.Eq] [.Constant (.int i) j cp] pos') (dTest (dOp dEq ua (dC (.int i)))) := dt_eq hu ha de_int
  refine ⟨fun pins s σ H D I h => ?_⟩
  obtain ⟨δ, M, F, Dd, hE, sv, hu', p⟩ := h
  have h2 : liftT X.K (dTest (dOp dEq ua (dC (.int i)))) σ H (fun b H1 => if b = true then liftS X.K t D σ H1 else liftS X.K dNx D σ H1) := by
    refine ⟨δ, M, F, _, hE, sv, hu', fun d M' F' H' q g s' => ?_⟩
    cases d with
    | true => exact ⟨δ, M', F', Dd, hE.mono g.le, s', q, p.go g⟩
    | false => exact ⟨δ, M', F', Dd, hE.mono g.le, s', q, p.go g⟩
  have h3 := bin2 rel_eq _ _ _ (lift_test h2)
  refine wpAny_If (thn (Q := fun b s1 => 1 ≤ s1.toks ∧ TP X pins σ (fun b H1 => if b = true then liftS X.K t D σ H1 else liftS X.K dNx D σ H1) b s1) ?_ fun d s1 q => ?_)
  · refine wpAny_isTrue_Compare1 (thn (ha.run pins s σ H _ I h3) fun v s1 ⟨x, H1, I1, r1, q1⟩ => ?_) (nomark _)
    obtain ⟨δ2, M2, F2, Qd2, hE2, sv2, hu2, p2⟩ := q1
    have q2 := p2.fin (d := .int i) (v := .int i) sv2 hu2 (by unfold Rp; rfl)
    refine wpAny_Constant_int ?_
    refine wpAny_mono (PySem.wpAny_toks_of (n := 1) (by show 1 ≤ s1.toks + 1; omega) (op_eqAll hu pins _ σ H1 x (.int i) v _ _ (I1.tok _) r1 ⟨_, rfl⟩ q2)) (fun c s3 ⟨hk, z, H3, I3, r3, k, e, q3⟩ => ?_) fun _ _ z => z.2
    subst e
    cases r3
    exact wpAny_truthy_bool ⟨hk, H3, I3, q3⟩
  · obtain ⟨hk, H1, I1, q1⟩ := q
    cases d with
    | true =>
      rw [if_pos rfl] at q1
      exact hb pins s1 σ H1 D hk I1 q1
    | false =>
      rw [if_neg Bool.false_ne_true] at q1
      exact dss_nil.run pins s1 σ H1 D I1 q1
end DL

namespace DL
open PySem PySem.Spec PyProof.Rows L2 TL

/-! ### for, comprehensions: by a word of what is left -/
theorem for_inv {g : Mu → Prop} {tg : DTg} {b : DTS} {E : DEnds} (I : List D → DEnv → Mu → Prop) (hg : ∀ xs δ M, I xs δ M → g M)
    (hs : ∀ x xs δ M (N : DEnv → Mu → Prop), I (x :: xs) δ M → (∀ δ' M', I xs δ' M' → N δ' M') → tg x δ M fun δ' M' => b { E with nx := N, ct := N, bk := E.nx } δ' M')
    (he : ∀ δ M, I [] δ M → E.nx δ M) : ∀ (ds : List D) (δ : DEnv) (M : Mu), I ds δ M → dForGo g tg b E ds δ M
  | [], δ, M, h => ⟨hg _ _ _ h, he _ _ h⟩
  | x :: xs, δ, M, h => ⟨hg _ _ _ h, hs x xs δ M _ h fun δ' M' h' => for_inv I hg hs he xs δ' M' h'⟩
theorem lc_inv {g : Mu → Prop} {tg : DTg} {tt : DTT} {te : DTE} {δw : DEnv} {Q : List D → Mu → Prop} (I : List D → List D → Mu → Prop) (hg : ∀ xs acc M, I xs acc M → g M)
    (hs : ∀ x xs acc M (N : List D → Mu → Prop), I (x :: xs) acc M → (∀ acc' M', I xs acc' M' → N acc' M') → tg x δw M fun δ' M' => tt δ' M' fun b M1 => match b with
      | true => te δ' M1 fun y M2 => acc.length < sizeLine ∧ N (acc ++ [y]) M2
      | false => N acc M1)
    (he : ∀ acc M, I [] acc M → Q acc M) : ∀ (ds acc : List D) (M : Mu), I ds acc M → dLcGo g tg tt te δw ds acc M Q
  | [], acc, M, h => ⟨hg _ _ _ h, he _ _ h⟩
  | x :: xs, acc, M, h => ⟨hg _ _ _ h, hs x xs acc M (fun acc M => dLcGo g tg tt te δw xs acc M Q) h fun acc' M' h' => lc_inv I hg hs he xs acc' M' h'⟩
/-- a comprehension without tests, whose element is the value f x of the item and changes nothing -/
theorem lc_map {g : Mu → Prop} {tg : DTg} {te : DTE} {δw : DEnv} {Q : List D → Mu → Prop} (f : D → D) {M : Mu} (hg : g M) : ∀ (ds acc : List D), acc.length + ds.length ≤ sizeLine →
    (∀ x ∈ ds, ∀ R : DK, R (f x) M → tg x δw M fun δ' M' => te δ' M' R) → Q (acc ++ ds.map f) M → dLcGo g tg dYes te δw ds acc M Q
  | [], acc, _, _, h => ⟨hg, by rw [List.map_nil, List.append_nil] at h; exact h⟩
  | x :: xs, acc, hl, hs, h => by
    rw [List.length_cons] at hl
    refine ⟨hg, hs x (List.mem_cons_self ..) (fun y M2 => acc.length < sizeLine ∧ dLcGo g tg dYes te δw xs (acc ++ [y]) M2 Q) ⟨by omega, ?_⟩⟩
    refine lc_map f hg xs (acc ++ [f x]) (by rw [List.length_append, List.length_singleton]; omega) (fun y hy => hs y (List.mem_cons_of_mem _ hy)) ?_
    rw [List.append_assoc]
    exact h
theorem sz1000 {n : Nat} (h : n ≤ 1000000) : n ≤ sizeLine := Nat.le_trans h (by rw [sizeLine_eq]; decide)
theorem szlt {n : Nat} (h : n < 1000000) : n < sizeLine := Nat.lt_of_lt_of_le h (by rw [sizeLine_eq]; decide)
theorem mul_fit {i j : Int} (a b : Nat) (ha : i.natAbs < 2 ^ a) (hb : j.natAbs < 2 ^ b) (h : a + b ≤ 134217728 := by decide) : CMulX i j := mulx_ok ha hb h
theorem nlt_pow {i : Int} {k : Nat} (h1 : -(2 ^ k : Nat) < i) (h2 : i < (2 ^ k : Nat)) : i.natAbs < 2 ^ k := by omega
theorem div_fit {j : Int} (k : Nat) (h0 : j ≠ 0) (h : j.natAbs < 2 ^ k) (hk : 0 < k := by decide) (h9 : k ≤ 9000 := by decide) : CDivX j := ⟨h0, Nat.lt_of_lt_of_le (PySem.Flt.log2_lt_of hk h) h9⟩
theorem fmod_pos {i j : Int} (h : 0 < j) : i.fmod j = i % j := Int.fmod_eq_emod_of_nonneg i (by omega)
theorem fdiv_pos {i j : Int} (h : 0 < j) : i.fdiv j = i / j := Int.fdiv_eq_ediv_of_nonneg i (by omega)
theorem atI_zero {α : Type} {x : α} {xs : List α} : atI (x :: xs) 0 = some x := atI_nat (xs := x :: xs) (j := 0) rfl
theorem atI_one {α : Type} {x y : α} {xs : List α} : atI (x :: y :: xs) 1 = some y := atI_nat (xs := x :: y :: xs) (j := 1) rfl
theorem atI_two {α : Type} {x y z : α} {xs : List α} : atI (x :: y :: z :: xs) 2 = some z := atI_nat (xs := x :: y :: z :: xs) (j := 2) rfl
theorem ixN_nat {n : Nat} {j : Nat} (h : j < n) : ixN n (j : Int) = some j := by
  unfold ixN
  rw [if_pos (by omega), if_pos (by omega)]
  rfl
theorem dseq_ref {M : Mu} {a : Addr} {ds : List D} (h : M a = some (.lst ds)) : dseq M (.ref a) = some ds := by
  show (match M a with | some (.lst ds) => some ds | _ => none) = some ds
  rw [h]
theorem dits_ref {M : Mu} {a : Addr} {ds : List D} (h : M a = some (.lst ds)) : dits M (.ref a) = some ds := dseq_ref h
theorem tyNm_ref {M : Mu} {a : Addr} {ds : List D} (h : M a = some (.lst ds)) : tyNm M (.ref a) = some "list" := by
  show (match M a with | some (.lst _) => some "list" | some (.dic _) => some "dict" | none => none) = some "list"
  rw [h]
end DL

namespace DL
open PySem PySem.Spec PyProof.Rows L2 TL

/-! ### stepping through readings, rule by rule (the tactic of that name stands behind them) -/
def kB (Q : Bool → Mu → Prop) : DK := fun d M => match d with
  | .bl b => Q b M
  | _ => False
def kT (Q : Bool → Mu → Prop) : DK := fun d M => dTruB M d fun b => Q b M
def kP (Q : Option Int → Mu → Prop) : DK := fun d M => match d with
  | .int i => Q (some i) M
  | _ => False
def kI (R : List D → (Mu → Prop) → Mu → Prop) : DK := fun d M1 => match d with
  | .tup ds => R ds (fun _ => True) M1
  | .lst ds => R ds (fun _ => True) M1
  | .src ns => R (ns.map .int) (fun _ => True) M1
  | .str cs => R (cs.map fun c => .str [c]) (fun _ => True) M1
  | .ref a => match M1 a with
    | some (.lst ds) => R ds (fun M2 => M2 a = some (.lst ds)) M1
    | _ => False
  | _ => False
def kR1 (R : List D → (Mu → Prop) → Mu → Prop) : List D → Mu → Prop := fun ds M1 => match ds with
  | [.int j] => -(2 ^ 62) ≤ j ∧ j < 2 ^ 62 ∧ R (rngD 0 j.toNat) (fun _ => True) M1
  | _ => False
def kR2 (R : List D → (Mu → Prop) → Mu → Prop) : List D → Mu → Prop := fun ds M1 => match ds with
  | [.int i, .int j] => (-(2 ^ 62) ≤ i ∧ i < 2 ^ 62 ∧ -(2 ^ 62) ≤ j ∧ j < 2 ^ 62) ∧ R (rngD i (j - i).toNat) (fun _ => True) M1
  | _ => False
def kS {α : Type} (b : Bool) (x y : α) (P : α → Prop) : Prop := P (if b = true then x else y)
section
variable {δ : DEnv} {M : Mu} {Q : DK} {QT : Bool → Mu → Prop} {QA : List D → Mu → Prop} {QE : DEnv → Mu → Prop} {D0 : DEnds} {d x y : D} {u ua ub ue uo ui : DTE} {us ur : DTA} {t t1 t2 : DTS} {c c1 c2 : DTT} {g : DTg} {i j : Nat} {n m : Int} {a b : Addr} {es fs : List D} {cs ds' : List Nat} {mu : Bool}
theorem r_sq (h : t1 { nx := t2 D0, rt := D0.rt, bk := D0.bk, ct := D0.ct } δ M) : dSq t1 t2 D0 δ M := h
theorem r_nx (h : D0.nx δ M) : dNx D0 δ M := h
theorem r_bk (h : D0.bk δ M) : dBk D0 δ M := h
theorem r_ct (h : D0.ct δ M) : dCt D0 δ M := h
theorem r_rt (h : u δ M D0.rt) : dRt u D0 δ M := h
theorem r_rtN (h : D0.rt .non M) : dRtN D0 δ M := h
theorem r_ex (h : u δ M fun _ M1 => D0.nx δ M1) : dEx u D0 δ M := h
theorem r_as (h : u δ M fun d M1 => g d δ M1 D0.nx) : dAs u g D0 δ M := h
theorem r_if (h : c δ M fun b M1 => (b = true → t1 D0 δ M1) ∧ (b = false → t2 D0 δ M1)) : dIfS c t1 t2 D0 δ M := by
  unfold dIfS
  revert h
  exact cast (congrArg (fun z => (c δ M z → _)) (funext fun b => funext fun M1 => by cases b <;> simp)) id
theorem r_ifT (h : c δ M fun b M1 => match b with
  | true => t1 D0 δ M1
  | false => t2 D0 δ M1) : dIfS c t1 t2 D0 δ M := h
theorem r_dgN {δ' : DEnv} (e : δ.set i (some d) = δ') (h : QE δ' M) : dgN i d δ M QE := by unfold dgN; rw [e]; exact h
theorem r_dgSub (h : uo δ M fun o M1 => ui δ M1 fun i M2 => dSetV o i d M2 fun M3 => QE δ M3) : dgSub uo ui d δ M QE := h
theorem r_dgT {ts : List DTg} (hl : es.length = ts.length) (h : dgAll ts es δ M QE) : dgT ts (.tup es) δ M QE := ⟨hl, h⟩
theorem r_dga0 (h : QE δ M) : dgAll [] [] δ M QE := h
theorem r_dga1 {ts : List DTg} (h : g d δ M fun δ' M' => dgAll ts es δ' M' QE) : dgAll (g :: ts) (d :: es) δ M QE := h
theorem r_auS {rd : DR2} (h : uo δ M fun o M1 => ui δ M1 fun i M2 => dGetM o i M2 fun x M3 => ue δ M3 fun y M4 => rd x y M4 fun z M5 => dSetV o i z M5 fun M6 => D0.nx δ M6) : dAuS uo ui ue rd D0 δ M := h
theorem r_setV {k : Int} (h : M a = some (.lst es)) (hk : ixN es.length k = some j) {Q : Mu → Prop} (q : Q (mset M a (.lst (es.set j d)))) : dSetV (.ref a) (.int k) d M Q := by
  unfold dSetV; simp only [h, hk]; exact q
theorem r_getM (h : M a = some (.lst es)) (hk : atI es n = some d) (q : Q d M) : dGetM (.ref a) (.int n) M Q := by
  unfold dGetM; simp only [h, hk]; exact q
theorem r_au {rd : DR2} (e : δ[i]? = some (some x)) (h : u δ M fun y M1 => rd x y M1 fun z M2 => D0.nx (δ.set i (some z)) M2) : dAu i rd u D0 δ M := by
  unfold dAu; rw [e]; exact h
def kPar (i j : Nat) (δ : DEnv) (D0 : DEnds) : List D → Mu → Prop := fun ds M1 => match ds with
  | [v, w] => D0.nx ((δ.set i (some v)).set j (some w)) M1
  | _ => False
theorem r_par (h : us δ M (kPar i j δ D0)) : dPar i j us D0 δ M := h
theorem r_kPar {v w : D} {δ' : DEnv} (e : (δ.set i (some v)).set j (some w) = δ') (h : D0.nx δ' M) : kPar i j δ D0 [v, w] M := by
  unfold kPar; simp only [e]; exact h
/-! expressions -/
theorem r_var (e : δ[i]? = some (some d)) (q : Q d M) : dVar i δ M Q := by unfold dVar; rw [e]; exact q
theorem r_c (q : Q d M) : dC d δ M Q := q
theorem r_op {rd : DR2} (h : ua δ M fun x M1 => ub δ M1 fun y M2 => rd x y M2 Q) : dOp rd ua ub δ M Q := h
theorem r_un {rd : DUn} (h : ua δ M fun x M1 => rd x M1 Q) : dUn rd ua δ M Q := h
theorem r_neg (q : Q (.int (-n)) M) : dNeg (.int n) M Q := q
theorem r_addI (q : Q (.int (n + m)) M) : dAdd mu (.int n) (.int m) M Q := q
theorem r_addS {p q : List Nat} (h : p.length + q.length ≤ sizeLine ∧ Q (.str (p ++ q)) M) : dAdd mu (.str p) (.str q) M Q := h
theorem r_addT {p q : List D} (h : p.length + q.length ≤ sizeLine ∧ Q (.tup (p ++ q)) M) : dAdd mu (.tup p) (.tup q) M Q := h
theorem r_addL {p q : List D} (h : p.length + q.length ≤ sizeLine ∧ dNew mu (p ++ q) M Q) : dAdd mu (.lst p) (.lst q) M Q := h
theorem r_subI (q : Q (.int (n - m)) M) : dSub (.int n) (.int m) M Q := q
theorem r_mulI (h : CMulX n m ∧ Q (.int (n * m)) M) : dMul mu (.int n) (.int m) M Q := h
theorem r_fdiv (h : CDivX m ∧ Q (.int (n.fdiv m)) M) : dFdiv (.int n) (.int m) M Q := h
theorem r_mod (h : m ≠ 0 ∧ Q (.int (n.fmod m)) M) : dMod (.int n) (.int m) M Q := h
theorem r_pow (h : CPow n m ∧ Q (.int (n ^ m.toNat)) M) : dPow (.int n) (.int m) M Q := h
theorem r_shl (h : CShl n m ∧ Q (.int (n * 2 ^ m.toNat)) M) : dShl (.int n) (.int m) M Q := h
theorem r_eqI (q : Q (.bl (decide (n = m))) M) : dEq (.int n) (.int m) M Q := q
theorem r_eqS {p q : List Nat} (h : Q (.bl (decide (p = q))) M) : dEq (.str p) (.str q) M Q := h
theorem r_eqB {p q : Bool} (h : Q (.bl (decide (p = q))) M) : dEq (.bl p) (.bl q) M Q := h
theorem r_neI (q : Q (.bl (!decide (n = m))) M) : dNe (.int n) (.int m) M Q := q
theorem r_neS {p q : List Nat} (h : Q (.bl (!decide (p = q))) M) : dNe (.str p) (.str q) M Q := h
theorem r_neB {p q : Bool} (h : Q (.bl (!decide (p = q))) M) : dNe (.bl p) (.bl q) M Q := h
theorem r_ltI (q : Q (.bl (decide (n < m))) M) : dLt (.int n) (.int m) M Q := q
theorem r_gtI (q : Q (.bl (decide (m < n))) M) : dGt (.int n) (.int m) M Q := q
theorem r_leI (q : Q (.bl (decide (n ≤ m))) M) : dLe (.int n) (.int m) M Q := q
theorem r_geI (q : Q (.bl (decide (m ≤ n))) M) : dGe (.int n) (.int m) M Q := q
theorem r_isN (q : Q (.bl (DL.isNon x)) M) : dIsN x .non M Q := ⟨rfl, q⟩
theorem r_notN (q : Q (.bl (!DL.isNon x)) M) : dNotN x .non M Q := ⟨rfl, q⟩
theorem r_inS {neg : Bool} {z : Nat} (q : Q (.bl (if neg then !decide (z ∈ cs) else decide (z ∈ cs))) M) : dInB neg (.str [z]) (.str cs) M Q := q
theorem r_idxR (h : M a = some (.lst es)) (hk : atI es n = some d) (q : Q d M) : dIdx (.ref a) (.int n) M Q := by
  unfold dIdx; simp only [dits, dseq, h, Option.bind_some, hk]; exact q
theorem r_idxL (hk : atI es n = some d) (q : Q d M) : dIdx (.lst es) (.int n) M Q := by
  unfold dIdx; simp only [dits, dseq, Option.bind_some, hk]; exact q
theorem r_idxT (hk : atI es n = some d) (q : Q d M) : dIdx (.tup es) (.int n) M Q := by
  unfold dIdx; simp only [dits, Option.bind_some, hk]; exact q
theorem r_idxSrc {ns : List Int} (hk : atI (ns.map D.int) n = some d) (q : Q d M) : dIdx (.src ns) (.int n) M Q := by
  unfold dIdx; simp only [dits, Option.bind_some, hk]; exact q
theorem r_idxS {z : Nat} (hk : atI cs n = some z) (hl : cs.length ≤ sizeLine) (q : Q (.str [z]) M) : dIdx (.str cs) (.int n) M Q := by
  unfold dIdx; simp only [hk]; exact ⟨hl, q⟩
/-! tests -/
theorem r_test (h : u δ M (kB QT)) : dTest u δ M QT := h
theorem r_kB {b : Bool} (q : QT b M) : kB QT (.bl b) M := q
theorem r_tru (h : u δ M (kT QT)) : dTru u δ M QT := h
theorem r_kTb {b : Bool} (q : QT b M) : kT QT (.bl b) M := q
theorem r_kTi (q : QT (n != 0) M) : kT QT (.int n) M := q
theorem r_kTn (q : QT false M) : kT QT .non M := q
theorem r_kTl (q : QT (!es.isEmpty) M) : kT QT (.lst es) M := q
theorem r_kTt (q : QT (!es.isEmpty) M) : kT QT (.tup es) M := q
theorem r_kTs (q : cs.length ≤ sizeLine ∧ QT (!cs.isEmpty) M) : kT QT (.str cs) M := q
theorem r_not (h : c δ M fun b M1 => QT (!b) M1) : dNot c δ M QT := h
theorem r_and (h : c1 δ M fun b M1 => (b = true → c2 δ M1 QT) ∧ (b = false → QT false M1)) : dAnd c1 c2 δ M QT := by
  unfold dAnd
  revert h
  exact cast (congrArg (fun z => (c1 δ M z → _)) (funext fun b => funext fun M1 => by cases b <;> simp)) id
theorem r_or (h : c1 δ M fun b M1 => (b = true → QT true M1) ∧ (b = false → c2 δ M1 QT)) : dOr c1 c2 δ M QT := by
  unfold dOr
  revert h
  exact cast (congrArg (fun z => (c1 δ M z → _)) (funext fun b => funext fun M1 => by cases b <;> simp)) id
theorem r_dif (h : c δ M fun b M1 => (b = true → ua δ M1 Q) ∧ (b = false → ub δ M1 Q)) : dIf c ua ub δ M Q := by
  unfold dIf
  revert h
  exact cast (congrArg (fun z => (c δ M z → _)) (funext fun b => funext fun M1 => by cases b <;> simp)) id
theorem r_andV (h : ua δ M (kB fun b M1 => (b = true → ub δ M1 Q) ∧ (b = false → Q (.bl false) M1))) : dAndV ua ub δ M Q := by
  unfold dAndV
  revert h
  refine cast (congrArg (fun z => (ua δ M z → _)) (funext fun d => funext fun M1 => ?_)) id
  cases d <;> try rfl
  rename_i b
  cases b <;> simp [kB]
theorem r_orV (h : ua δ M (kB fun b M1 => (b = true → Q (.bl true) M1) ∧ (b = false → ub δ M1 Q))) : dOrV ua ub δ M Q := by
  unfold dOrV
  revert h
  refine cast (congrArg (fun z => (ua δ M z → _)) (funext fun d => funext fun M1 => ?_)) id
  cases d <;> try rfl
  rename_i b
  cases b <;> simp [kB]
theorem r_notV (h : u δ M (kB fun b M1 => Q (.bl !b) M1)) : dNotV u δ M Q := h
theorem r_yes (h : QT true M) : dYes δ M QT := h
/-! rows -/
theorem r_nil (q : QA [] M) : dNil δ M QA := q
theorem r_cons (h : ua δ M fun d M1 => ur δ M1 fun ds M2 => QA (d :: ds) M2) : dCons ua ur δ M QA := h
theorem r_tup (h : us δ M fun ds M1 => ds.length ≤ sizeLine ∧ Q (.tup ds) M1) : dTup us δ M Q := h
theorem r_lst (h : us δ M fun ds M1 => ds.length ≤ sizeLine ∧ dNew mu ds M1 Q) : dLst mu us δ M Q := h
theorem r_newF (q : Q (.lst es) M) : dNew false es M Q := q
theorem r_newT (q : ∀ p, M p = none → Q (.ref p) (mset M p (.lst es))) : dNew true es M Q := q
theorem r_cb {rd : DRC} (h : us δ M fun ds M1 => rd ds M1 Q) : dCB rd us δ M Q := h
theorem r_lenS (h : cs.length ≤ sizeLine ∧ Q (.int cs.length) M) : dLen [.str cs] M Q := h
theorem r_lenL (h : Q (.int es.length) M) : dLen [.lst es] M Q := h
theorem r_lenT (h : Q (.int es.length) M) : dLen [.tup es] M Q := h
theorem r_lenSrc {ns : List Int} (h : Q (.int ns.length) M) : dLen [.src ns] M Q := by
  unfold dLen; simp only [dits, List.length_map]; exact h
theorem r_lenR (e : M a = some (.lst es)) (h : Q (.int es.length) M) : dLen [.ref a] M Q := by
  unfold dLen; simp only [dits, dseq, e]; exact h
theorem r_abs (h : Q (.int (n.natAbs : Int)) M) : dAbs [.int n] M Q := h
theorem r_min2 (h : Q (.int (if m < n then m else n)) M) : dMin2 [.int n, .int m] M Q := h
theorem r_max2 (h : Q (.int (if m > n then m else n)) M) : dMax2 [.int n, .int m] M Q := h
theorem r_intI (h : Q (.int n) M) : dInt [.int n] M Q := h
theorem r_str (h : n.natAbs.log2 < 1920 ∧ Q (.str (numI n)) M) : dStr [.int n] M Q := h
theorem r_tupT (h : Q (.tup es) M) : dTupOf [.tup es] M Q := h
theorem r_tupL (h : Q (.tup es) M) : dTupOf [.lst es] M Q := h
theorem r_tupR (e : M a = some (.lst es)) (h : Q (.tup es) M) : dTupOf [.ref a] M Q := by
  unfold dTupOf; simp only [dlis, dseq, e]; exact h
theorem r_divmod (h : CDivP n m ∧ Q (.tup [.int (n / m), .int (n % m)]) M) : dDivmod [.int n, .int m] M Q := h
theorem r_isi {T S : String} {b : Bool} (h : tyNm M d = some S) (hb : kitB S T = some b) (q : Q (.bl b) M) : dIsi [d, .ty T] M Q := by
  unfold dIsi; simp only [h, Option.bind_some, hb]; exact q
theorem r_sum {ns : List Int} (e : dseq M d = some es) (hi : intsOf es = some ns) (q : Q (.int ns.sum) M) : dSum [d] M Q := by
  unfold dSum; simp only [e, Option.bind_some, hi]; exact q
theorem r_all {bs : List Bool} (e : dseq M d = some es) (hi : blsOf es = some bs) (q : Q (.bl (bs.all id)) M) : dAll [d] M Q := by
  unfold dAll; simp only [e, Option.bind_some, hi]; exact q
theorem r_any {bs : List Bool} (e : dseq M d = some es) (hi : blsOf es = some bs) (q : Q (.bl (bs.any id)) M) : dAny [d] M Q := by
  unfold dAny; simp only [e, Option.bind_some, hi]; exact q
theorem r_sl {ul uh : DTO} (h : u δ M fun x M1 => ul δ M1 fun lo M2 => uh δ M2 fun hi M3 => dSlV mu x lo hi M3 Q) : dSl mu u ul uh δ M Q := h
theorem r_noP {QO : Option Int → Mu → Prop} (h : QO none M) : dNoP δ M QO := h
theorem r_part {QO : Option Int → Mu → Prop} (h : u δ M (kP QO)) : dPart u δ M QO := h
theorem r_kP {QO : Option Int → Mu → Prop} (h : QO (some n) M) : kP QO (.int n) M := h
theorem r_slS {lo hi : Option Int} (h : cs.length ≤ sizeLine ∧ Q (.str (cutL cs lo hi)) M) : dSlV mu (.str cs) lo hi M Q := h
theorem r_slT {lo hi : Option Int} (h : Q (.tup (cutL es lo hi)) M) : dSlV mu (.tup es) lo hi M Q := h
theorem r_slL {lo hi : Option Int} (h : dNew mu (cutL es lo hi) M Q) : dSlV mu (.lst es) lo hi M Q := h
theorem r_slSrc {ns : List Int} {lo hi : Option Int} (h : dNew mu (cutL (ns.map D.int) lo hi) M Q) : dSlV mu (.src ns) lo hi M Q := h
theorem r_slR {lo hi : Option Int} (e : M a = some (.lst es)) (h : dNew mu (cutL es lo hi) M Q) : dSlV mu (.ref a) lo hi M Q := by
  unfold dSlV; simp only [dlis, dseq, e]; exact h
theorem r_bm {T : String} {rd : DM} (h : uo δ M fun x M1 => tyNm M1 x = some T ∧ us δ M1 fun ds M2 => rd x ds M2 Q) : dBM T rd uo us δ M Q := h
theorem r_tyS {P : Prop} (h : P) : tyNm M (.str cs) = some "str" ∧ P := ⟨rfl, h⟩
theorem r_tyR {P : Prop} (e : M a = some (.lst es)) (h : P) : tyNm M (.ref a) = some "list" ∧ P := ⟨tyNm_ref e, h⟩
theorem r_append (e : M a = some (.lst es)) (hl : es.length < sizeLine) (h : Q .non (mset M a (.lst (es ++ [d])))) : dAppend (.ref a) [d] M Q := by
  unfold dAppend; simp only [e]; exact ⟨hl, h⟩
theorem r_split {z : List Nat} (h0 : z ≠ []) (h1 : z.all (· < 256) = true) (hl : cs.length + 2 ≤ sizeLine) (h : dNew mu ((spl z 0 [] cs).map .str) M Q) : dSplit mu (.str cs) [.str z] M Q := ⟨h0, hl, h1, h⟩
theorem r_join {ys : List (List Nat)} (e : dits M d = some es) (hs : strsOf es = some ys) (hl : (ys.map (·.length)).sum + ys.length * cs.length ≤ 16777216) (h : Q (.str (joinL cs ys)) M) : dJoin (.str cs) [d] M Q := by
  unfold dJoin; simp only [e, Option.bind_some, hs]; exact ⟨hl, h⟩
theorem r_starts {z : List Nat} (h : Q (.bl (Txt.startswith (mkS cs) (mkS z))) M) : dStarts (.str cs) [.str z] M Q := h
theorem r_count {z : List Nat} (h : Q (.int (Txt.count (mkS cs) (mkS z))) M) : dCount (.str cs) [.str z] M Q := h
theorem r_bits (h : uo δ M fun d M1 => ∃ n, d = .int n ∧ Q (.int (Builtin.Int.intBits n : Nat)) M1) : dBits uo δ M Q := by
  unfold dBits
  revert h
  refine cast (congrArg (fun z => (uo δ M z → _)) (funext fun d => funext fun M1 => ?_)) id
  cases d <;> simp
/-! calls, loops -/
theorem r_call {sp : DSp} {E : DXK} (h : us δ M fun ds M1 => sp ds M1 Q E) : dCall sp [] E us δ M Q := by
  unfold dCall
  revert h
  exact cast (congrArg (fun z => (us δ M z → _)) (funext fun ds => funext fun M1 => by rw [List.append_nil])) id
theorem r_for {di : DTI} (h : di δ M fun ds g1 M1 => dForGo g1 g t D0 ds δ M1) : dFor di g t D0 δ M := h
theorem r_seq {R : List D → (Mu → Prop) → Mu → Prop} (h : ue δ M (kI R)) : diSeq ue δ M R := h
theorem r_kIt {R : List D → (Mu → Prop) → Mu → Prop} (h : R es (fun _ => True) M) : kI R (.tup es) M := h
theorem r_kIl {R : List D → (Mu → Prop) → Mu → Prop} (h : R es (fun _ => True) M) : kI R (.lst es) M := h
theorem r_kIs {R : List D → (Mu → Prop) → Mu → Prop} (h : R (cs.map fun c => .str [c]) (fun _ => True) M) : kI R (.str cs) M := h
theorem r_kIsrc {ns : List Int} {R : List D → (Mu → Prop) → Mu → Prop} (h : R (ns.map .int) (fun _ => True) M) : kI R (.src ns) M := h
theorem r_kIr {R : List D → (Mu → Prop) → Mu → Prop} (e : M a = some (.lst es)) (h : R es (fun M2 => M2 a = some (.lst es)) M) : kI R (.ref a) M := by
  unfold kI; simp only [e]; exact h
theorem r_r1 {R : List D → (Mu → Prop) → Mu → Prop} (h : us δ M (kR1 R)) : diR1 us δ M R := h
theorem r_kR1 {R : List D → (Mu → Prop) → Mu → Prop} (h1 : -(2 ^ 62) ≤ n) (h2 : n < 2 ^ 62) (h : R (rngD 0 n.toNat) (fun _ => True) M) : kR1 R [.int n] M := ⟨h1, h2, h⟩
theorem r_r2 {R : List D → (Mu → Prop) → Mu → Prop} (h : us δ M (kR2 R)) : diR2 us δ M R := h
theorem r_kR2 {R : List D → (Mu → Prop) → Mu → Prop} (h0 : -(2 ^ 62) ≤ n ∧ n < 2 ^ 62 ∧ -(2 ^ 62) ≤ m ∧ m < 2 ^ 62) (h : R (rngD n (m - n).toNat) (fun _ => True) M) : kR2 R [.int n, .int m] M := ⟨h0, h⟩
theorem r_lc {di : DTI} {vs : List Nat} (h : di δ M fun ds g1 M1 => dLcGo g1 g c ue (dwipe δ vs) ds [] M1 fun acc M2 => dNew mu acc M2 Q) : dLc mu di g c ue vs δ M Q := h
/-! what may change -/
theorem sub_new {p : Addr} {o : DO} (h : M p = none) : Sub M (mset M p o) := fun b u e => by
  rw [mset_ne (fun z => by rw [z, h] at e; cases e)]; exact e
theorem ne_new {p q : Addr} {o : DO} (h : M p = some o) (e : M q = none) : p ≠ q := fun z => by rw [z, e] at h; cases h
theorem mset_swap {p q : Addr} {o o' : DO} (h : p ≠ q) : mset (mset M p o) q o' = mset (mset M q o') p o := by
  funext b
  unfold mset
  by_cases h1 : b = q
  · subst h1; rw [if_pos rfl, if_neg (fun z => h z.symm), if_pos rfl]
  · rw [if_neg h1]
    by_cases h2 : b = p
    · rw [if_pos h2, if_pos h2]
    · rw [if_neg h2, if_neg h2, if_neg h1]
theorem lit_len {α : Type} {xs : List α} (n : Nat) (h : xs.length = n) (hn : n ≤ 1000000) : xs.length ≤ sizeLine := sz1000 (h ▸ hn)
theorem lit0 {α : Type} {P : Prop} (h : P) : ([] : List α).length ≤ sizeLine ∧ P := ⟨lit_len 0 rfl (by decide), h⟩
theorem lit1 {α : Type} {a : α} {P : Prop} (h : P) : [a].length ≤ sizeLine ∧ P := ⟨lit_len 1 rfl (by decide), h⟩
theorem lit2 {α : Type} {a b : α} {P : Prop} (h : P) : [a, b].length ≤ sizeLine ∧ P := ⟨lit_len 2 rfl (by decide), h⟩
theorem lit3 {α : Type} {a b c : α} {P : Prop} (h : P) : [a, b, c].length ≤ sizeLine ∧ P := ⟨lit_len 3 rfl (by decide), h⟩
theorem lit4 {α : Type} {a b c d : α} {P : Prop} (h : P) : [a, b, c, d].length ≤ sizeLine ∧ P := ⟨lit_len 4 rfl (by decide), h⟩
theorem lit5 {α : Type} {a b c d e : α} {P : Prop} (h : P) : [a, b, c, d, e].length ≤ sizeLine ∧ P := ⟨lit_len 5 rfl (by decide), h⟩
theorem lit6 {α : Type} {a b c d e f : α} {P : Prop} (h : P) : [a, b, c, d, e, f].length ≤ sizeLine ∧ P := ⟨lit_len 6 rfl (by decide), h⟩
theorem lit7 {α : Type} {a b c d e f g : α} {P : Prop} (h : P) : [a, b, c, d, e, f, g].length ≤ sizeLine ∧ P := ⟨lit_len 7 rfl (by decide), h⟩
end
/-! a middle word -/
theorem via {u : DTE} {δ : DEnv} {M : Mu} {Q : DK} (P : DK) (h1 : ∀ Q' : DK, (∀ d M', P d M' → Q' d M') → u δ M Q') (h2 : ∀ d M', P d M' → Q d M') : u δ M Q := h1 Q h2
theorem viaS {t : DTS} {D0 : DEnds} {δ : DEnv} {M : Mu} (P : DEnv → Mu → Prop) (h1 : ∀ N : DEnv → Mu → Prop, (∀ δ' M', P δ' M' → N δ' M') → t { nx := N, rt := D0.rt, bk := D0.bk, ct := D0.ct } δ M) (h2 : ∀ δ' M', P δ' M' → D0.nx δ' M') : t D0 δ M := h1 D0.nx h2
end DL

namespace DL
open PySem PySem.Spec PyProof.Rows L2 TL
local macro_rules | `(tactic| walk_at "st1") => `(tactic| first
  | with_reducible refine r_sq ?_ | with_reducible refine r_nx ?_ | with_reducible refine r_rt ?_ | with_reducible refine r_rtN ?_ | with_reducible refine r_ex ?_ | with_reducible refine r_as ?_ | with_reducible refine r_bk ?_ | with_reducible refine r_ct ?_
  | ((with_reducible apply r_var); exact rfl) | with_reducible refine r_c ?_ | with_reducible refine r_op ?_ | with_reducible refine r_un ?_ | with_reducible refine r_neg ?_
  | ((with_reducible refine r_dgN rfl ?_); (try simp only [List.set]))
  | with_reducible refine r_dgSub ?_ | with_reducible refine r_dgT rfl ?_ | with_reducible refine r_dga0 ?_ | with_reducible refine r_dga1 ?_ | with_reducible refine r_auS ?_ | ((with_reducible apply r_au); exact rfl)
  | with_reducible refine r_par ?_ | ((with_reducible refine r_kPar rfl ?_); (try simp only [List.set]))
  | with_reducible refine r_addI ?_ | with_reducible refine r_addS ?_ | with_reducible refine r_addT ?_ | with_reducible refine r_addL ?_ | with_reducible refine r_subI ?_ | with_reducible refine r_mulI ?_ | with_reducible refine r_fdiv ?_ | with_reducible refine r_mod ?_ | with_reducible refine r_pow ?_ | with_reducible refine r_shl ?_
  | with_reducible refine r_eqI ?_ | with_reducible refine r_eqS ?_ | with_reducible refine r_eqB ?_ | with_reducible refine r_neI ?_ | with_reducible refine r_neS ?_ | with_reducible refine r_neB ?_ | with_reducible refine r_ltI ?_ | with_reducible refine r_gtI ?_ | with_reducible refine r_leI ?_ | with_reducible refine r_geI ?_ | with_reducible refine r_isN ?_ | with_reducible refine r_notN ?_ | with_reducible refine r_inS ?_
  | with_reducible refine r_test ?_ | with_reducible refine r_kB ?_ | with_reducible refine r_tru ?_ | with_reducible refine r_kTb ?_ | with_reducible refine r_kTi ?_ | with_reducible refine r_kTn ?_ | with_reducible refine r_kTl ?_ | with_reducible refine r_kTt ?_ | with_reducible refine r_kTs ?_ | with_reducible refine r_not ?_ | with_reducible refine r_notV ?_ | with_reducible refine r_yes ?_
  | with_reducible refine r_nil ?_ | with_reducible refine r_cons ?_ | with_reducible refine r_tup ?_ | with_reducible refine r_lst ?_ | with_reducible refine r_newF ?_ | with_reducible refine r_cb ?_
  | with_reducible refine r_lenS ?_ | with_reducible refine r_lenL ?_ | with_reducible refine r_lenT ?_ | with_reducible refine r_lenSrc ?_ | with_reducible refine r_abs ?_ | with_reducible refine r_min2 ?_ | with_reducible refine r_max2 ?_ | with_reducible refine r_intI ?_ | with_reducible refine r_str ?_ | with_reducible refine r_tupT ?_ | with_reducible refine r_tupL ?_ | with_reducible refine r_divmod ?_
  | with_reducible refine r_sl ?_ | with_reducible refine r_noP ?_ | with_reducible refine r_part ?_ | with_reducible refine r_kP ?_ | with_reducible refine r_slS ?_ | with_reducible refine r_slT ?_ | with_reducible refine r_slL ?_ | with_reducible refine r_slSrc ?_
  | with_reducible refine r_bm ?_ | with_reducible refine r_tyS ?_ | with_reducible refine r_starts ?_ | with_reducible refine r_count ?_ | with_reducible refine r_call ?_ | with_reducible refine r_for ?_ | with_reducible refine r_seq ?_ | with_reducible refine r_kIt ?_ | with_reducible refine r_kIl ?_ | with_reducible refine r_kIs ?_ | with_reducible refine r_kIsrc ?_ | with_reducible refine r_r1 ?_ | with_reducible refine r_r2 ?_ | with_reducible refine r_lc ?_
  | with_reducible refine lit0 ?_ | with_reducible refine lit1 ?_ | with_reducible refine lit2 ?_ | with_reducible refine lit3 ?_ | with_reducible refine lit4 ?_ | with_reducible refine lit5 ?_ | with_reducible refine lit6 ?_ | with_reducible refine lit7 ?_
  | fail)
local macro_rules | `(tactic| walk_at "st") => `(tactic| repeat (first | walk_at "st1" | dsimp only))
local macro_rules | `(tactic| walk_at "go") => `(tactic| (simp only [dstart, dEnd, List.map_cons, List.map_nil, List.length_cons, List.length_nil, Nat.reduceAdd, Nat.reduceSub, Nat.zero_add, List.replicate, List.cons_append, List.nil_append]; walk_at "st"))

/-! ### the law's source of numbers -/
/-- a source: k more picks may be made -/
def Src (k : Nat) (o : DO) : Prop := ∃ a b c : Int, o = .lst [.int a, .int b, .int c] ∧ 0 ≤ a ∧ a < 2 ^ 400 ∧ 0 ≤ b ∧ b < 2147483647 ∧ 0 ≤ c ∧ c + k ≤ 2 ^ 60
theorem Src.less {j k : Nat} {o : DO} (h : Src k o) (l : j ≤ k) : Src j o := by
  obtain ⟨a, b, c, e, h1, h2, h3, h4, h5, h6⟩ := h
  exact ⟨a, b, c, e, h1, h2, h3, h4, h5, by omega⟩
def sp_law_pick : DSp := fun ds M Q _ => ∃ a m o k, ds = [.ref a, .int m] ∧ M a = some o ∧ Src (k + 1) o ∧ 0 < m ∧ m < 2 ^ 1000 ∧ ∀ r o', 0 ≤ r → r < m → Src k o' → Q (.int r) (mset M a o')
def t_law_pick : DTS := (dSq (dIfS (dTest (dOp dGt (dOp dIdx (dVar 0) (dC (.int 0))) (dC (.int 0)))) (dSq (dAs (dOp dMod (dCB dInt (dCons (dOp dIdx (dVar 0) (dC (.int 0))) dNil)) (dVar 1)) (dgN 2)) (dSq (dAs (dOp dFdiv (dOp dIdx (dVar 0) (dC (.int 0))) (dVar 1)) (dgSub (dVar 0) (dC (.int 0)))) (dRt (dVar 2)))) dNx) (dSq (dAuS (dVar 0) (dC (.int 2)) (dC (.int 1)) dIAdd) (dSq (dAs (dOp dMod (dCB dInt (dCons (dOp (dAdd false) (dOp (dMul false) (dOp dIdx (dVar 0) (dC (.int 1))) (dC (.int 48271))) (dOp (dMul false) (dOp dIdx (dVar 0) (dC (.int 2))) (dC (.int 90001)))) dNil)) (dC (.int 2147483647))) (dgSub (dVar 0) (dC (.int 1)))) (dRt (dOp dMod (dOp dFdiv (dOp dMod (dCB dInt (dCons (dOp (dAdd false) (dOp (dMul false) (dOp dIdx (dVar 0) (dC (.int 1))) (dC (.int 16807))) (dOp (dMul false) (dOp dIdx (dVar 0) (dC (.int 2))) (dC (.int 5701)))) dNil)) (dC (.int 2147483629))) (dC (.int 8))) (dVar 1))))))
theorem len_law_pick : ∀ ds M Q E, sp_law_pick ds M Q E → ds.length = 2 := by
  intro ds M Q E h
  obtain ⟨a, m, o, k, rfl, _⟩ := h
  rfl
theorem sem_law_pick (ds : List D) (M : Mu) (Q : DK) (E : DXK) (h : sp_law_pick ds M Q E) : t_law_pick (dEnd Q) (dstart 3 ds) M := by
  obtain ⟨p, m, o, k, rfl, hM, ⟨a, b, c, rfl, a0, a1, b0, b1, c0, c1⟩, m0, m1, h⟩ := h
  unfold t_law_pick
  walk_at "go"
  refine r_if ?_
  walk_at "st"
  refine r_idxR hM atI_zero ?_
  walk_at "st"
  refine ⟨fun ha => ?_, fun ha => ?_⟩
  · have ha := of_decide_eq_true ha
    walk_at "st"
    refine r_idxR hM atI_zero ?_
    walk_at "st"
    refine ⟨by omega, ?_⟩
    walk_at "st"
    refine r_idxR hM atI_zero ?_
    walk_at "st"
    refine ⟨div_fit 1000 (by omega) (by omega), ?_⟩
    walk_at "st"
    refine r_setV hM (j := 0) rfl ?_
    walk_at "st"
    refine Wq.now (h _ _ ?_ ?_ ⟨_, b, c, rfl, ?_, ?_, b0, b1, c0, by omega⟩)
    · rw [fmod_pos m0]; exact Int.emod_nonneg _ (by omega)
    · rw [fmod_pos m0]; exact Int.emod_lt_of_pos _ m0
    · rw [fdiv_pos m0]; exact Int.ediv_nonneg a0 (by omega)
    · rw [fdiv_pos m0]; exact Int.lt_of_le_of_lt (Int.ediv_le_self _ a0) a1
  · clear ha
    walk_at "st"
    refine r_getM hM atI_two ?_
    walk_at "st"
    refine r_setV hM (j := 2) rfl ?_
    walk_at "st"
    refine r_idxR mset_same atI_one ?_
    walk_at "st"
    refine ⟨mul_fit 32 32 (by omega) (by decide), ?_⟩
    walk_at "st"
    refine r_idxR mset_same atI_two ?_
    walk_at "st"
    refine ⟨mul_fit 64 32 (by omega) (by decide), ?_⟩
    walk_at "st"
    refine ⟨by decide, ?_⟩
    have p1 : (0 : Int) < 2147483647 := by decide
    have p2 : (0 : Int) < 2147483629 := by decide
    have p3 : (0 : Int) < 8 := by decide
    rw [fmod_pos p1]
    walk_at "st"
    refine r_setV mset_same (j := 1) rfl ?_
    rw [mset_mset]
    walk_at "st"
    refine r_idxR mset_same atI_one ?_
    walk_at "st"
    refine ⟨mul_fit 32 32 (by omega) (by decide), ?_⟩
    walk_at "st"
    refine r_idxR mset_same atI_two ?_
    walk_at "st"
    refine ⟨mul_fit 64 32 (by omega) (by decide), ?_⟩
    walk_at "st"
    refine ⟨by decide, ?_⟩
    rw [fmod_pos p2]
    walk_at "st"
    refine ⟨div_fit 4 (by decide) (by decide), ?_⟩
    walk_at "st"
    refine ⟨by omega, ?_⟩
    rw [fmod_pos m0]
    refine Wq.now (h _ _ (Int.emod_nonneg _ (by omega)) (Int.emod_lt_of_pos _ m0) ⟨a, _, _, rfl, a0, a1, Int.emod_nonneg _ (by omega), Int.emod_lt_of_pos _ p1, by omega, by omega⟩)
/-! one of a list of things -/
def sp_law_one : DSp := fun ds M Q _ => ∃ a xs o k, ds = [.ref a, .lst xs] ∧ M a = some o ∧ Src (k + 1) o ∧ 0 < xs.length ∧ xs.length < 2 ^ 60 ∧ ∀ x o', x ∈ xs → Src k o' → Q x (mset M a o')
def t_law_one : DTS := (dRt (dOp dIdx (dVar 1) (dCall sp_law_pick [] dX0 (dCons (dVar 0) (dCons (dCB dLen (dCons (dVar 1) dNil)) dNil)))))
theorem len_law_one : ∀ ds M Q E, sp_law_one ds M Q E → ds.length = 2 := by
  intro ds M Q E h
  obtain ⟨a, m, o, k, rfl, _⟩ := h
  rfl
theorem sem_law_one (ds : List D) (M : Mu) (Q : DK) (E : DXK) (h : sp_law_one ds M Q E) : t_law_one (dEnd Q) (dstart 2 ds) M := by
  obtain ⟨p, xs, o, k, rfl, hM, hS, l0, l1, h⟩ := h
  unfold t_law_one
  walk_at "go"
  refine ⟨p, _, o, k, rfl, hM, hS, by omega, by omega, fun r o' r0 r1 s' => ?_⟩
  obtain ⟨j, rfl⟩ := Int.eq_ofNat_of_zero_le r0
  have hj : j < xs.length := by omega
  refine r_idxL (atI_nat (xs := xs) (j := j) (List.getElem?_eq_getElem hj)) ?_
  exact Wq.now (h _ _ (List.getElem_mem hj) s')
/-! the source -/
def sp_law_source : DSp := fun ds M Q _ => ∃ ns at', ds = [.src ns, .int at'] ∧ 0 ≤ at' ∧ at' < 1000000 ∧ ∀ p o, M p = none → Src (2 ^ 59) o → Q (.ref p) (mset M p o)
def t_law_source : DTS := (dSq (dAs (dIf (dTest (dOp dLt (dVar 1) (dCB dLen (dCons (dVar 0) dNil)))) (dCB dInt (dCons (dOp dIdx (dVar 0) (dVar 1)) dNil)) (dOp (dAdd false) (dOp (dMul false) (dC (.int 41)) (dCB dSum (dCons (dLc false (diSeq (dSl false (dVar 0) dNoP (dPart (dC (.int 6))))) (dgN 5) dYes (dOp dMod (dCB dInt (dCons (dVar 5) dNil)) (dC (.int 999979))) [5]) dNil))) (dC (.int 29)))) (dgN 2)) (dSq (dAs (dOp dMod (dCB dAbs (dCons (dVar 2) dNil)) (dOp (dMul false) (dOp dPow (dC (.int 10)) (dC (.int 60))) (dOp dPow (dC (.int 10)) (dC (.int 60))))) (dgN 3)) (dSq (dAs (dOp dMod (dCB dInt (dCons (dOp (dAdd false) (dOp (dAdd false) (dOp (dAdd false) (dOp (dMul false) (dC (.int 2)) (dVar 3)) (dIf (dTest (dOp dLt (dVar 2) (dC (.int 0)))) (dC (.int 1)) (dC (.int 0)))) (dOp (dMul false) (dVar 1) (dC (.int 130043)))) (dC (.int 70099))) dNil)) (dC (.int 2147483629))) (dgN 4)) (dRt (dLst true (dCons (dIf (dTest (dOp dGe (dVar 3) (dOp dPow (dC (.int 10)) (dC (.int 18))))) (dVar 3) (dC (.int 0))) (dCons (dOp dMod (dCB dInt (dCons (dOp (dMul false) (dOp (dAdd false) (dVar 4) (dC (.int 7019))) (dOp (dAdd false) (dVar 4) (dC (.int 80021)))) dNil)) (dC (.int 2147483629))) (dCons (dVar 1) dNil))))))))
theorem len_law_source : ∀ ds M Q E, sp_law_source ds M Q E → ds.length = 2 := by
  intro ds M Q E h
  obtain ⟨a, m, rfl, _⟩ := h
  rfl
theorem cutL_none_nat {α : Type} {xs : List α} {n : Nat} : cutL xs none (some (n : Int)) = xs.take n := by
  unfold cutL
  rw [HT.sIx_none, HT.sIx_nat, List.drop_zero, Nat.sub_zero]
  by_cases h : n ≤ xs.length
  · rw [Nat.min_eq_left h]
  · rw [Nat.min_eq_right (by omega), List.take_of_length_le (Nat.le_refl _), List.take_of_length_le (by omega)]
theorem sum_bd {B : Nat} : ∀ ns : List Int, (∀ n ∈ ns, 0 ≤ n ∧ n < B) → 0 ≤ ns.sum ∧ ns.sum ≤ (ns.length * B : Nat)
  | [], _ => by simp
  | n :: ns, h => by
    obtain ⟨h1, h2⟩ := sum_bd ns fun m hm => h m (List.mem_cons_of_mem _ hm)
    obtain ⟨h3, h4⟩ := h n (List.mem_cons_self ..)
    rw [List.sum_cons, List.length_cons, Nat.succ_mul]
    omega
theorem sem_law_source (ds : List D) (M : Mu) (Q : DK) (E : DXK) (h : sp_law_source ds M Q E) : t_law_source (dEnd Q) (dstart 6 ds) M := by
  obtain ⟨ns, at', rfl, a0, a1, h⟩ := h
  unfold t_law_source
  walk_at "go"
  have tail : ∀ cell : Int, (dSq (dAs (dOp dMod (dCB dAbs (dCons (dVar 2) dNil)) (dOp (dMul false) (dOp dPow (dC (.int 10)) (dC (.int 60))) (dOp dPow (dC (.int 10)) (dC (.int 60))))) (dgN 3)) (dSq (dAs (dOp dMod (dCB dInt (dCons (dOp (dAdd false) (dOp (dAdd false) (dOp (dAdd false) (dOp (dMul false) (dC (.int 2)) (dVar 3)) (dIf (dTest (dOp dLt (dVar 2) (dC (.int 0)))) (dC (.int 1)) (dC (.int 0)))) (dOp (dMul false) (dVar 1) (dC (.int 130043)))) (dC (.int 70099))) dNil)) (dC (.int 2147483629))) (dgN 4)) (dRt (dLst true (dCons (dIf (dTest (dOp dGe (dVar 3) (dOp dPow (dC (.int 10)) (dC (.int 18))))) (dVar 3) (dC (.int 0))) (dCons (dOp dMod (dCB dInt (dCons (dOp (dMul false) (dOp (dAdd false) (dVar 4) (dC (.int 7019))) (dOp (dAdd false) (dVar 4) (dC (.int 80021)))) dNil)) (dC (.int 2147483629))) (dCons (dVar 1) dNil))))))) { nx := fun x M => Wq Q D.non M, rt := Wq Q } [some (.src ns), some (.int at'), some (.int cell), none, none, none] M := by
    intro cell
    walk_at "st"
    refine ⟨⟨by decide, by decide, by decide⟩, ?_⟩
    walk_at "st"
    refine ⟨⟨by decide, by decide, by decide⟩, ?_⟩
    walk_at "st"
    refine ⟨mul_fit 200 200 (by decide +kernel) (by decide +kernel), ?_⟩
    walk_at "st"
    refine ⟨by decide +kernel, ?_⟩
    have hs0 : 0 ≤ Int.fmod (cell.natAbs : Int) (10 ^ Int.toNat 60 * 10 ^ Int.toNat 60) := by
      rw [fmod_pos (by decide +kernel)]; exact Int.emod_nonneg _ (by decide +kernel)
    have hs1 : Int.fmod (cell.natAbs : Int) (10 ^ Int.toNat 60 * 10 ^ Int.toNat 60) < 2 ^ 400 := by
      rw [fmod_pos (by decide +kernel)]; exact Int.lt_trans (Int.emod_lt_of_pos _ (by decide +kernel)) (by decide +kernel)
    generalize Int.fmod (cell.natAbs : Int) (10 ^ Int.toNat 60 * 10 ^ Int.toNat 60) = size at hs0 hs1 ⊢
    walk_at "st"
    refine ⟨mul_fit 2 400 (by decide) (by omega), ?_⟩
    walk_at "st"
    refine r_dif ?_
    walk_at "st"
    have rest : ∀ e : Int, (dSq (dAs (dOp dMod (dCB dInt (dCons (dOp (dAdd false) (dOp (dAdd false) (dC (.int (2 * size + e))) (dOp (dMul false) (dVar 1) (dC (.int 130043)))) (dC (.int 70099))) dNil)) (dC (.int 2147483629))) (dgN 4)) (dRt (dLst true (dCons (dIf (dTest (dOp dGe (dVar 3) (dOp dPow (dC (.int 10)) (dC (.int 18))))) (dVar 3) (dC (.int 0))) (dCons (dOp dMod (dCB dInt (dCons (dOp (dMul false) (dOp (dAdd false) (dVar 4) (dC (.int 7019))) (dOp (dAdd false) (dVar 4) (dC (.int 80021)))) dNil)) (dC (.int 2147483629))) (dCons (dVar 1) dNil)))))) { nx := fun x M => Wq Q D.non M, rt := Wq Q } [some (.src ns), some (.int at'), some (.int cell), some (.int size), none, none] M := by
      intro e
      walk_at "st"
      refine ⟨mul_fit 32 32 (by omega) (by decide), ?_⟩
      walk_at "st"
      refine ⟨by decide, ?_⟩
      rw [fmod_pos (j := 2147483629) (by decide)]
      have hz0 : 0 ≤ (2 * size + e + at' * 130043 + 70099) % 2147483629 := Int.emod_nonneg _ (by decide)
      have hz1 : (2 * size + e + at' * 130043 + 70099) % 2147483629 < 2147483629 := Int.emod_lt_of_pos _ (by decide)
      generalize (2 * size + e + at' * 130043 + 70099) % 2147483629 = small at hz0 hz1 ⊢
      walk_at "st"
      refine r_dif ?_
      walk_at "st"
      refine ⟨⟨by decide, by decide, by decide⟩, ?_⟩
      walk_at "st"
      have fin : ∀ a : Int, 0 ≤ a → a < 2 ^ 400 → (dCons (dOp dMod (dCB dInt (dCons (dOp (dMul false) (dOp (dAdd false) (dVar 4) (dC (.int 7019))) (dOp (dAdd false) (dVar 4) (dC (.int 80021)))) dNil)) (dC (.int 2147483629))) (dCons (dVar 1) dNil)) [some (.src ns), some (.int at'), some (.int cell), some (.int size), some (.int small), none] M fun ds M2 => (D.int a :: ds).length ≤ sizeLine ∧ dNew true (D.int a :: ds) M2 (Wq Q) := by
        intro a h0 h1
        walk_at "st"
        refine ⟨mul_fit 40 40 (by omega) (by omega), ?_⟩
        walk_at "st"
        refine ⟨by decide, ?_⟩
        walk_at "st"
        refine r_newT fun p hp => Wq.now (h p _ hp ⟨a, _, at', rfl, h0, h1, ?_, ?_, a0, by omega⟩)
        · rw [fmod_pos (by decide)]; exact Int.emod_nonneg _ (by decide)
        · rw [fmod_pos (by decide)]; exact Int.lt_trans (Int.emod_lt_of_pos _ (by decide)) (by decide)
      refine ⟨fun _ => ?_, fun _ => ?_⟩
      · walk_at "st1"
        exact fin _ hs0 hs1
      · walk_at "st1"
        exact fin _ (by decide) (by decide +kernel)
    refine ⟨fun _ => ?_, fun _ => ?_⟩
    · exact rest 1
    · exact rest 0
  refine r_dif ?_
  walk_at "st"
  refine ⟨fun hl => ?_, fun hl => ?_⟩
  · have hl := of_decide_eq_true hl
    obtain ⟨j, rfl⟩ := Int.eq_ofNat_of_zero_le a0
    have hj : j < ns.length := by omega
    walk_at "st"
    refine r_idxSrc (atI_nat (xs := ns.map D.int) (j := j) (by rw [List.getElem?_map, List.getElem?_eq_getElem hj]; rfl)) ?_
    walk_at "st1"
    walk_at "st1"
    exact tail _
  · clear hl
    walk_at "st"
    rw [show (6 : Int) = ((6 : Nat) : Int) from rfl, cutL_none_nat]
    have hl6 : ((ns.map D.int).take 6).length ≤ 6 := by rw [List.length_take]; omega
    refine lc_map (fun d => match d with
      | .int i => .int (i.fmod 999979)
      | d => d) trivial _ _ (by rw [List.length_nil, Nat.zero_add]; exact sz1000 (by omega)) (fun x hx R hR => ?_) ?_
    · obtain ⟨n, _, rfl⟩ := List.mem_map.mp (List.mem_of_mem_take hx)
      simp only [dwipe, List.set]
      walk_at "st"
      exact ⟨by decide, hR⟩
    · rw [List.nil_append, ← List.map_take, List.map_map]
      walk_at "st"
      refine r_sum (es := ((ns.take 6).map fun i => i.fmod 999979).map D.int) (by rw [List.map_map]; rfl) (intsOf_map _) ?_
      have hb := sum_bd (B := 999979) ((ns.take 6).map fun i => i.fmod 999979) (fun n hn => by
        obtain ⟨m, _, rfl⟩ := List.mem_map.mp hn
        rw [fmod_pos (by decide)]
        exact ⟨Int.emod_nonneg _ (by decide), Int.emod_lt_of_pos _ (by decide)⟩)
      have hl7 : ((ns.take 6).map fun i => i.fmod 999979).length ≤ 6 := by rw [List.length_map, List.length_take]; omega
      have hl8 := Nat.mul_le_mul_right 999979 hl7
      walk_at "st"
      refine ⟨mul_fit 32 64 (by decide) (by omega), ?_⟩
      walk_at "st1"
      walk_at "st1"
      walk_at "st1"
      exact tail _
/-! sameness -/
/-- x looks as the data d does -/
def Vw (M : Mu) (x d : D) : Prop := x = d ∨ ∃ a es, x = .ref a ∧ d = .lst es ∧ M a = some (.lst es)
/-- plain data, not deeper than n -/
def Pl : Nat → D → Prop
  | _, .non => True
  | _, .bl _ => True
  | _, .int _ => True
  | _, .str _ => True
  | n + 1, .tup ds => ds.length ≤ 1000000 ∧ ∀ d ∈ ds, Pl n d
  | n + 1, .lst ds => ds.length ≤ 1000000 ∧ ∀ d ∈ ds, Pl n d
  | _, _ => False
def spS : Nat → DSp
  | 0 => fun _ _ _ _ => False
  | n + 1 => fun ds M Q _ => ∃ x y d, ds = [x, y] ∧ Vw M x d ∧ Vw M y d ∧ Pl n d ∧ Q (.bl true) M
def t_law_same (n : Nat) : DTS := (dSq (dIfS (dOr (dTest (dOp dIsN (dVar 1) (dC .non))) (dTest (dOp dIsN (dVar 0) (dC .non)))) (dRt (dAndV (dOp dIsN (dVar 1) (dC .non)) (dOp dIsN (dVar 0) (dC .non)))) dNx) (dSq (dIfS (dOr (dTru (dCB dIsi (dCons (dVar 1) (dCons (dC (.ty "bool")) dNil)))) (dTru (dCB dIsi (dCons (dVar 0) (dCons (dC (.ty "bool")) dNil))))) (dRt (dAndV (dCB dIsi (dCons (dVar 1) (dCons (dC (.ty "bool")) dNil))) (dAndV (dCB dIsi (dCons (dVar 0) (dCons (dC (.ty "bool")) dNil))) (dOp dEq (dVar 0) (dVar 1))))) dNx) (dSq (dIfS (dTru (dCB dIsi (dCons (dVar 1) (dCons (dC (.ty "int")) dNil)))) (dRt (dAndV (dCB dIsi (dCons (dVar 0) (dCons (dC (.ty "int")) dNil))) (dOp dEq (dVar 0) (dVar 1)))) dNx) (dSq (dIfS (dTru (dCB dIsi (dCons (dVar 1) (dCons (dC (.ty "str")) dNil)))) (dRt (dAndV (dCB dIsi (dCons (dVar 0) (dCons (dC (.ty "str")) dNil))) (dOp dEq (dVar 0) (dVar 1)))) dNx) (dSq (dIfS (dAnd (dTru (dCB dIsi (dCons (dVar 1) (dCons (dC (.ty "tuple")) dNil)))) (dNot (dTru (dCB dIsi (dCons (dVar 0) (dCons (dC (.ty "tuple")) dNil)))))) (dRt (dC (.bl false))) dNx) (dSq (dIfS (dAnd (dTru (dCB dIsi (dCons (dVar 1) (dCons (dC (.ty "list")) dNil)))) (dNot (dTru (dCB dIsi (dCons (dVar 0) (dCons (dC (.ty "list")) dNil)))))) (dRt (dC (.bl false))) dNx) (dSq (dIfS (dTest (dOp dNe (dCB dLen (dCons (dVar 0) dNil)) (dCB dLen (dCons (dVar 1) dNil)))) (dRt (dC (.bl false))) dNx) (dRt (dCB dAll (dCons (dLc false (diR1 (dCons (dCB dLen (dCons (dVar 1) dNil)) dNil)) (dgN 2) dYes (dCall (spS n) [] dX0 (dCons (dOp dIdx (dVar 0) (dVar 2)) (dCons (dOp dIdx (dVar 1) (dVar 2)) dNil))) [2]) dNil))))))))))
theorem len_law_same : ∀ n ds M Q E, spS n ds M Q E → ds.length = 2
  | 0, _, _, _, _, h => h.elim
  | n + 1, ds, M, Q, E, h => by
    obtain ⟨x, y, d, rfl, _⟩ := h
    rfl
theorem r_lenG {M : Mu} {d : D} {es : List D} {Q : DK} (e : dits M d = some es) (q : Q (.int es.length) M) : dLen [d] M Q := by
  unfold dLen
  cases d with
  | str cs => cases e
  | _ => simp only [e]; exact q
theorem r_idxG {M : Mu} {d z : D} {es : List D} {n : Int} {Q : DK} (e : dits M d = some es) (hk : atI es n = some z) (q : Q z M) : dIdx d (.int n) M Q := by
  unfold dIdx
  cases d with
  | str cs => cases e
  | _ => simp only [e, Option.bind_some, hk]; exact q
theorem same_seq {n : Nat} {M : Mu} {Q : DK} {x y : D} {ds : List D} {S : String} (hx : dits M x = some ds) (hy : dits M y = some ds) (nx : DL.isNon x = false) (ny : DL.isNon y = false) (tx : tyNm M x = some S) (ty : tyNm M y = some S) (hS : S = "tuple" ∨ S = "list")
    (hl : ds.length ≤ 1000000) (hp : ∀ d ∈ ds, ∀ Q E, Q (.bl true) M → spS n [d, d] M Q E) (h : Q (.bl true) M) : t_law_same n (dEnd Q) (dstart 3 [x, y]) M := by
  have k1 : kitB S "bool" = some false := by rcases hS with rfl | rfl <;> decide +kernel
  have k2 : kitB S "int" = some false := by rcases hS with rfl | rfl <;> decide +kernel
  have k3 : kitB S "str" = some false := by rcases hS with rfl | rfl <;> decide +kernel
  obtain ⟨k4, e4⟩ : ∃ b, kitB S "tuple" = some b := by rcases hS with rfl | rfl <;> exact ⟨_, rfl⟩
  obtain ⟨k5, e5⟩ : ∃ b, kitB S "list" = some b := by rcases hS with rfl | rfl <;> exact ⟨_, rfl⟩
  unfold t_law_same
  walk_at "go"
  refine r_if (r_or ?_)
  walk_at "st"
  rw [ny]
  refine ⟨fun z => (Bool.noConfusion z), fun _ => ?_⟩
  walk_at "st"
  rw [nx]
  refine ⟨fun z => (Bool.noConfusion z), fun _ => ?_⟩
  walk_at "st"
  refine r_if (r_or ?_)
  walk_at "st"
  refine r_isi ty k1 ?_
  walk_at "st"
  refine ⟨fun z => (Bool.noConfusion z), fun _ => ?_⟩
  walk_at "st"
  refine r_isi tx k1 ?_
  walk_at "st"
  refine ⟨fun z => (Bool.noConfusion z), fun _ => ?_⟩
  walk_at "st"
  refine r_if ?_
  walk_at "st"
  refine r_isi ty k2 ?_
  walk_at "st"
  refine ⟨fun z => (Bool.noConfusion z), fun _ => ?_⟩
  walk_at "st"
  refine r_if ?_
  walk_at "st"
  refine r_isi ty k3 ?_
  walk_at "st"
  refine ⟨fun z => (Bool.noConfusion z), fun _ => ?_⟩
  walk_at "st"
  refine r_if (r_and ?_)
  walk_at "st"
  refine r_isi ty e4 ?_
  walk_at "st"
  have rest : (dSq (dIfS (dAnd (dTru (dCB dIsi (dCons (dVar 1) (dCons (dC (.ty "list")) dNil)))) (dNot (dTru (dCB dIsi (dCons (dVar 0) (dCons (dC (.ty "list")) dNil)))))) (dRt (dC (.bl false))) dNx) (dSq (dIfS (dTest (dOp dNe (dCB dLen (dCons (dVar 0) dNil)) (dCB dLen (dCons (dVar 1) dNil)))) (dRt (dC (.bl false))) dNx) (dRt (dCB dAll (dCons (dLc false (diR1 (dCons (dCB dLen (dCons (dVar 1) dNil)) dNil)) (dgN 2) dYes (dCall (spS n) [] dX0 (dCons (dOp dIdx (dVar 0) (dVar 2)) (dCons (dOp dIdx (dVar 1) (dVar 2)) dNil))) [2]) dNil))))) { nx := fun x M => Wq Q D.non M, rt := Wq Q } [some x, some y, none] M := by
    walk_at "st"
    have rest2 : (dSq (dIfS (dTest (dOp dNe (dCB dLen (dCons (dVar 0) dNil)) (dCB dLen (dCons (dVar 1) dNil)))) (dRt (dC (.bl false))) dNx) (dRt (dCB dAll (dCons (dLc false (diR1 (dCons (dCB dLen (dCons (dVar 1) dNil)) dNil)) (dgN 2) dYes (dCall (spS n) [] dX0 (dCons (dOp dIdx (dVar 0) (dVar 2)) (dCons (dOp dIdx (dVar 1) (dVar 2)) dNil))) [2]) dNil)))) { nx := fun x M => Wq Q D.non M, rt := Wq Q } [some x, some y, none] M := by
      walk_at "st"
      refine r_if ?_
      walk_at "st"
      refine r_lenG hx ?_
      walk_at "st"
      refine r_lenG hy ?_
      walk_at "st"
      refine ⟨fun z => by simp at z, fun _ => ?_⟩
      walk_at "st"
      refine r_lenG hy ?_
      walk_at "st"
      refine r_kR1 (by omega) (by omega) ?_
      rw [Int.toNat_natCast]
      refine lc_map (fun _ => .bl true) trivial _ _ (by rw [rngD_len, List.length_nil, Nat.zero_add]; exact sz1000 hl) (fun z hz R hR => ?_) ?_
      · obtain ⟨j, hj, rfl⟩ := List.mem_map.mp hz
        rw [List.mem_range] at hj
        rw [Int.zero_add]
        simp only [dwipe, List.set]
        walk_at "st"
        have hg := atI_nat (xs := ds) (j := j) (List.getElem?_eq_getElem hj)
        refine r_idxG hx hg ?_
        walk_at "st"
        refine r_idxG hy hg ?_
        walk_at "st"
        exact hp _ (List.getElem_mem hj) _ _ hR
      · walk_at "st"
        refine r_all (bs := List.replicate ds.length true) (es := List.replicate ds.length (.bl true)) ?_ ?_ ?_
        · rw [List.nil_append, List.map_const', rngD_len]; rfl
        · rw [← List.map_replicate, blsOf_map]
        · refine Wq.now ?_
          have : (List.replicate ds.length true).all id = true := by
            rw [List.all_eq_true]
            intro b hb
            exact (List.eq_of_mem_replicate hb)
          rw [this]
          exact h
    refine r_if (r_and ?_)
    walk_at "st"
    refine r_isi ty e5 ?_
    walk_at "st"
    refine ⟨fun z => ?_, fun z => ?_⟩
    · subst z
      walk_at "st"
      refine r_isi tx e5 ?_
      walk_at "st"
      refine ⟨fun z => (Bool.noConfusion z), fun _ => ?_⟩
      exact rest2
    · exact ⟨fun z => (Bool.noConfusion z), fun _ => rest2⟩
  refine ⟨fun z => ?_, fun z => ?_⟩
  · subst z
    walk_at "st"
    refine r_isi tx e4 ?_
    walk_at "st"
    refine ⟨fun z => (Bool.noConfusion z), fun _ => ?_⟩
    exact rest
  · exact ⟨fun z => (Bool.noConfusion z), fun _ => rest⟩
theorem sem_law_same (n : Nat) (ds : List D) (M : Mu) (Q : DK) (E : DXK) (h : spS (n + 1) ds M Q E) : t_law_same n (dEnd Q) (dstart 3 ds) M := by
  obtain ⟨x, y, d, rfl, hx, hy, hp, h⟩ := h
  have seq : ∀ es : List D, (d = .tup es ∨ d = .lst es) → es.length ≤ 1000000 → (∀ e ∈ es, ∀ Q E, Q (.bl true) M → spS n [e, e] M Q E) → t_law_same n (dEnd Q) (dstart 3 [x, y]) M := by
    intro es hd hl hq
    rcases hd with rfl | rfl
    · rcases hx with rfl | ⟨a, fs, _, hz, _⟩
      · rcases hy with rfl | ⟨a, fs, _, hz, _⟩
        · exact same_seq rfl rfl rfl rfl rfl rfl (.inl rfl) hl hq h
        · cases hz
      · cases hz
    · have two : ∀ z, Vw M z (.lst es) → dits M z = some es ∧ DL.isNon z = false ∧ tyNm M z = some "list" := by
        intro z hz
        rcases hz with rfl | ⟨a, fs, rfl, hz, e⟩
        · exact ⟨rfl, rfl, rfl⟩
        · cases hz
          exact ⟨dits_ref e, rfl, tyNm_ref e⟩
      obtain ⟨a1, a2, a3⟩ := two x hx
      obtain ⟨b1, b2, b3⟩ := two y hy
      exact same_seq a1 b1 a2 b2 a3 b3 (.inr rfl) hl hq h
  have atom : (∀ ds, d ≠ .lst ds) → x = d ∧ y = d := fun hd => by
    refine ⟨?_, ?_⟩
    · rcases hx with rfl | ⟨a, fs, _, hz, _⟩
      · rfl
      · exact absurd hz (hd _)
    · rcases hy with rfl | ⟨a, fs, _, hz, _⟩
      · rfl
      · exact absurd hz (hd _)
  cases d with
  | non =>
    obtain ⟨rfl, rfl⟩ := atom (fun _ z => by cases z)
    unfold t_law_same
    walk_at "go"
    refine r_if (r_or ?_)
    walk_at "st"
    refine ⟨fun _ => ?_, fun z => (Bool.noConfusion z)⟩
    refine ⟨fun _ => ?_, fun z => (Bool.noConfusion z)⟩
    walk_at "st"
    refine r_andV ?_
    walk_at "st"
    refine ⟨fun _ => ?_, fun z => (Bool.noConfusion z)⟩
    walk_at "st"
    exact Wq.now h
  | bl b =>
    obtain ⟨rfl, rfl⟩ := atom (fun _ z => by cases z)
    unfold t_law_same
    walk_at "go"
    refine r_if (r_or ?_)
    walk_at "st"
    refine ⟨fun z => (Bool.noConfusion z), fun _ => ?_⟩
    walk_at "st"
    refine ⟨fun z => (Bool.noConfusion z), fun _ => ?_⟩
    walk_at "st"
    refine r_if (r_or ?_)
    walk_at "st"
    refine r_isi (S := "bool") (b := true) rfl (by decide +kernel) ?_
    walk_at "st"
    refine ⟨fun _ => ?_, fun z => (Bool.noConfusion z)⟩
    refine ⟨fun _ => ?_, fun z => (Bool.noConfusion z)⟩
    walk_at "st"
    refine r_andV ?_
    walk_at "st"
    refine r_isi (S := "bool") (b := true) rfl (by decide +kernel) ?_
    walk_at "st"
    refine ⟨fun _ => ?_, fun z => (Bool.noConfusion z)⟩
    refine r_andV ?_
    walk_at "st"
    refine r_isi (S := "bool") (b := true) rfl (by decide +kernel) ?_
    walk_at "st"
    refine ⟨fun _ => ?_, fun z => (Bool.noConfusion z)⟩
    walk_at "st"
    rw [decide_eq_true rfl]
    exact Wq.now h
  | int i =>
    obtain ⟨rfl, rfl⟩ := atom (fun _ z => by cases z)
    unfold t_law_same
    walk_at "go"
    refine r_if (r_or ?_)
    walk_at "st"
    refine ⟨fun z => (Bool.noConfusion z), fun _ => ?_⟩
    walk_at "st"
    refine ⟨fun z => (Bool.noConfusion z), fun _ => ?_⟩
    walk_at "st"
    refine r_if (r_or ?_)
    walk_at "st"
    refine r_isi (S := "int") (b := false) rfl (by decide +kernel) ?_
    walk_at "st"
    refine ⟨fun z => (Bool.noConfusion z), fun _ => ?_⟩
    walk_at "st"
    refine r_isi (S := "int") (b := false) rfl (by decide +kernel) ?_
    walk_at "st"
    refine ⟨fun z => (Bool.noConfusion z), fun _ => ?_⟩
    walk_at "st"
    refine r_if ?_
    walk_at "st"
    refine r_isi (S := "int") (b := true) rfl (by decide +kernel) ?_
    walk_at "st"
    refine ⟨fun _ => ?_, fun z => (Bool.noConfusion z)⟩
    walk_at "st"
    refine r_andV ?_
    walk_at "st"
    refine r_isi (S := "int") (b := true) rfl (by decide +kernel) ?_
    walk_at "st"
    refine ⟨fun _ => ?_, fun z => (Bool.noConfusion z)⟩
    walk_at "st"
    rw [decide_eq_true rfl]
    exact Wq.now h
  | str i =>
    obtain ⟨rfl, rfl⟩ := atom (fun _ z => by cases z)
    unfold t_law_same
    walk_at "go"
    refine r_if (r_or ?_)
    walk_at "st"
    refine ⟨fun z => (Bool.noConfusion z), fun _ => ?_⟩
    walk_at "st"
    refine ⟨fun z => (Bool.noConfusion z), fun _ => ?_⟩
    walk_at "st"
    refine r_if (r_or ?_)
    walk_at "st"
    refine r_isi (S := "str") (b := false) rfl (by decide +kernel) ?_
    walk_at "st"
    refine ⟨fun z => (Bool.noConfusion z), fun _ => ?_⟩
    walk_at "st"
    refine r_isi (S := "str") (b := false) rfl (by decide +kernel) ?_
    walk_at "st"
    refine ⟨fun z => (Bool.noConfusion z), fun _ => ?_⟩
    walk_at "st"
    refine r_if ?_
    walk_at "st"
    refine r_isi (S := "str") (b := false) rfl (by decide +kernel) ?_
    walk_at "st"
    refine ⟨fun z => (Bool.noConfusion z), fun _ => ?_⟩
    walk_at "st"
    refine r_if ?_
    walk_at "st"
    refine r_isi (S := "str") (b := true) rfl (by decide +kernel) ?_
    walk_at "st"
    refine ⟨fun _ => ?_, fun z => (Bool.noConfusion z)⟩
    walk_at "st"
    refine r_andV ?_
    walk_at "st"
    refine r_isi (S := "str") (b := true) rfl (by decide +kernel) ?_
    walk_at "st"
    refine ⟨fun _ => ?_, fun z => (Bool.noConfusion z)⟩
    walk_at "st"
    rw [decide_eq_true rfl]
    exact Wq.now h
  | tup es =>
    cases n with
    | zero => exact hp.elim
    | succ m => exact seq es (.inl rfl) hp.1 fun e he Q E q => ⟨e, e, e, rfl, .inl rfl, .inl rfl, hp.2 e he, q⟩
  | lst es =>
    cases n with
    | zero => exact hp.elim
    | succ m => exact seq es (.inr rfl) hp.1 fun e he Q E q => ⟨e, e, e, rfl, .inl rfl, .inl rfl, hp.2 e he, q⟩
  | src _ => cases n <;> exact hp.elim
  | ref _ => cases n <;> exact hp.elim
  | ty _ => cases n <;> exact hp.elim
def sp_law_same : DSp := spS 9
/-! a def that promises nothing -/
theorem cal_no {P : Program} {w : World} {K : PySem.W.Frag} {mg : Str → Option Value} {base : Heap} {x : Str} {st : Stmt} {N ps : List Str} (d : DefAt K mg x st) (S : FnScope N ps (defScope st))
    (hbind : ∀ (kV doc pm : Value) (an : Option Addr) (cdv ct : Value) (us : List Value), us.length = ps.length → bindArgs (PySem.W.fnOf x x (defArgs st) (defBody st) (defScope st) .none kV doc pm an cdv ct) ⟨us, []⟩ = pure (ps.zip us)) :
    Cal P w K mg base 0 x ps (fun _ _ _ _ => False) := by
  obtain ⟨f, fd, F, m⟩ := d
  refine ⟨f, fd, ⟨fun vs H Q E h => ?_, fun A outer s H args us vs Q E hr he hb hv h => ?_⟩, m, F.kp, ?_⟩
  · obtain ⟨ds, M, F, Qd, Ed, r, s, h, _⟩ := h
    exact h.elim
  · obtain ⟨ds, M, F, Qd, Ed, r, s, h, _⟩ := h
    exact h.elim
  · exact F.bindsN hbind
end DL

namespace DL
open PySem PySem.Spec PyProof.Rows L2 TL

/-! ### from the head's facts to the data layer -/
def mkD (x : Str) (st : Stmt) : He.DefD := ⟨(x, none), x, x, defArgs st, defBody st, defScope st, [], []⟩
section
variable {K : PySem.W.Frag} {h : Heap} {mg : Str → Option Value} {w : World} {fa : List He.Fa} {fn : List He.DefD} {x : Str}
theorem defAt_of (X : K.In h) (G : h.Ns mainGlobals mg) (c : He.SaysD fa fn K) {st : Stmt} (i j : Nat) (h1 : fn[i]? = some (mkD x st)) (h2 : fa[j]? = some (.glo x)) : DefAt K mg x st := by
  obtain ⟨fd, F⟩ := c.def_ i h1
  exact ⟨_, fd, F, He.glo_ok X G (c.fact j h2)⟩
theorem free_of (X : K.In h) (G : h.Ns mainGlobals mg) (c : He.SaysD fa fn K) (j : Nat) (h2 : fa[j]? = some (.free x)) : mg x = none := He.free_ok X G (c.fact j h2)
theorem gcS_of (X : K.In h) (G : h.Ns mainGlobals mg) (c : He.SaysD fa fn K) (j : Nat) {z : Str} {cs : List Nat} (h2 : fa[j]? = some (.str x z)) (e : z = mkS cs) : GC K mg x (.str cs) := by
  obtain ⟨t, e2⟩ := He.str_ok X G (c.fact j h2)
  exact gc_str e2 e
theorem gcI_of (X : K.In h) (G : h.Ns mainGlobals mg) (c : He.SaysD fa fn K) (j : Nat) {i : Int} (h2 : fa[j]? = some (.int x i)) : GC K mg x (.int i) := by
  obtain ⟨t, e2⟩ := He.int_ok X G (c.fact j h2)
  exact ⟨_, .int i, e2, ⟨t, rfl⟩, fun F => by unfold Rp; rfl⟩
theorem gdI_of (X : K.In h) (G : h.Ns mainGlobals mg) {ts : List He.Tab} (c : He.SaysT fa fn ts w K) (j i : Nat) {key : Str} {n : Int} {t : He.Tab} (h2 : fa[j]? = some (.glo x)) (h3 : ts[i]? = some t) (ht : t.1 K = He.ga K x) {kvs : List (Str × He.Dv)} (hv : He.valsB K (He.ga K x) kvs = true) (hm : (key, He.Dv.int n) ∈ kvs) : GD K mg w x key (.int n) := by
  obtain ⟨es, m, hd⟩ := c.tab i h3
  rw [ht] at hd
  obtain ⟨u, e, r⟩ := He.valsB_ok hv hm
  refine ⟨_, .int n, He.glo_ok X G (c.d.fact j h2), ⟨es, m, u, hd.at_, hd.lit, e, r⟩, fun F => by unfold Rp; rfl⟩
end
/-- the law's own def: from its script to True -/
theorem law_sp {K : PySem.W.Frag} {sp : DSp} (h : ∀ ns M Q E, Q (.bl true) M → sp [.src ns] M Q E) (H : Hp) (a : Addr) (ns : List Int) (hS : SqL K H a (ns.map V.int)) : liftSp K sp [.ref a] H (fun v _ => v = .bl true) fun _ _ _ => False := by
  refine ⟨[.src ns], fun _ => none, H, fun d _ => d = .bl true, fun _ _ => False, ?_, ⟨Le.refl H, fun _ _ _ => rfl, fun _ _ e => by cases e⟩, h _ _ _ _ rfl, ?_, fun _ _ _ _ _ q _ _ _ => q.elim⟩
  · refine RpL.cons ?_ RpL.nil
    unfold Rp
    exact ⟨a, rfl, hS⟩
  · intro d M' F' v H' q g s r
    subst q
    unfold Rp at r
    exact r
/-- sameness, to a depth -/
theorem cal_same {P : Program} {w : World} {K : PySem.W.Frag} {mg : Str → Option Value} {base : Heap} {st : Stmt} {N : List Str} (d : DefAt K mg "_law_same" st) (S : FnScope N ["answer", "due"] (defScope st)) (hN : N.length = 3)
    (hb : ∀ (n k : Nat), Cal P w K mg base k "_law_same" ["answer", "due"] (spS n) → ∀ (f : Addr) (cdv : Value) (A : Around) (outer : List Env) (s : Shared) (H : Hp) (E : XK), Room k (A.deeper (envOfC "_law_same" (defScope st) s.heap.objs.size f cdv)) → DSs (cxOf CX0 P w K mg base N "_law_same" (defScope st) f cdv A outer s H E).nox (defBody st) (t_law_same n))
    (hbind : ∀ (kV doc pm : Value) (an : Option Addr) (cdv ct : Value) (us : List Value), us.length = 2 → bindArgs (PySem.W.fnOf "_law_same" "_law_same" (defArgs st) (defBody st) (defScope st) .none kV doc pm an cdv ct) ⟨us, []⟩ = pure ((["answer", "due"] : List Str).zip us)) :
    ∀ n, Cal P w K mg base n "_law_same" ["answer", "due"] (spS n)
  | 0 => cal_no d S hbind
  | n + 1 => cal_of d S (len_law_same (n + 1)) hbind (hb n n (cal_same d S hN hb hbind n)) fun ds M Q E h => by
    rw [hN]
    exact sem_law_same n ds M Q E h
end DL

namespace DL
open PySem PySem.Spec PyProof.Rows L2 TL
/-! ### a tuple of texts of the module -/
def strsB : List Value → List Str → Bool
  | [], [] => true
  | .str a _ :: vs, b :: bs => decide (a = b) && strsB vs bs
  | _, _ => false
def tupB (K : PySem.W.Frag) (a : Addr) (zs : List Str) : Bool := match K.lookup a with
  | some ⟨.type c, _, .seq its _, _⟩ => decide (c = "tuple") && (decide (its.size ≤ 1000) && strsB its.toList zs)
  | _ => false
theorem strsB_ok : ∀ {vs : List Value} {zs : List Str}, strsB vs zs = true → Vals (zs.map V.str) vs
  | [], [], _ => .nil
  | v :: vs, [], h => by cases v <;> cases h
  | [], z :: zs, h => by cases h
  | v :: vs, z :: zs, h => by
    cases v with
    | str a t =>
      obtain ⟨h1, h2⟩ := He.ba h
      have h1 : a = z := of_decide_eq_true h1
      subst h1
      exact .cons ⟨t, rfl⟩ (strsB_ok h2)
    | _ => cases h
theorem rpl_strs {K : PySem.W.Frag} {F : Hp} : ∀ {zs : List Str} {cs : List (List Nat)}, zs = cs.map mkS → RpL K F (cs.map D.str) (zs.map V.str)
  | _, [], e => by subst e; exact RpL.nil
  | _, c :: cs, e => by
    subst e
    exact RpL.cons (by unfold Rp; rfl) (rpl_strs rfl)
theorem gcT_of {K : PySem.W.Frag} {h : Heap} {mg : Str → Option Value} {fa : List He.Fa} {fn : List He.DefD} {x : Str} (X : K.In h) (G : h.Ns mainGlobals mg) (c : He.SaysD fa fn K) (j : Nat) {zs : List Str} {cs : List (List Nat)} (h2 : fa[j]? = some (.glo x)) (ht : tupB K (He.ga K x) zs = true) (e : zs = cs.map mkS) : GC K mg x (.tup (cs.map D.str)) := by
  refine ⟨_, .ref (He.ga K x), He.glo_ok X G (c.fact j h2), rfl, fun F => ?_⟩
  unfold Rp
  refine ⟨_, zs.map V.str, rfl, .inr ?_, rpl_strs e⟩
  unfold tupB at ht
  split at ht
  · next cl _ its n _ e2 =>
    obtain ⟨h3, h4⟩ := He.ba ht
    obtain ⟨h5, h6⟩ := He.ba h4
    have h3 : cl = "tuple" := of_decide_eq_true h3
    subst h3
    exact ⟨_, its, _, e2, rfl, rfl, sz1000 (Nat.le_trans (of_decide_eq_true h5) (by decide)), strsB_ok h6⟩
  · cases ht
end DL

namespace DL
open PySem PySem.Spec PyProof.Rows L2 TL
/-! ### texts: slices, joined texts, lines -/
theorem cutL_nat_none {α : Type} {xs : List α} {n : Nat} : cutL xs (some (n : Int)) none = xs.drop n := by
  unfold cutL
  rw [HT.sIx_none, HT.sIx_nat]
  by_cases h : n ≤ xs.length
  · rw [Nat.min_eq_left h, List.take_of_length_le (by rw [List.length_drop]; omega)]
  · rw [Nat.min_eq_right (by omega), List.drop_of_length_le (Nat.le_refl _), List.drop_of_length_le (by omega), List.take_nil]
theorem cutL_none_neg1 {α : Type} {xs : List α} : cutL xs none (some (-1)) = xs.dropLast := by
  unfold cutL
  rw [HT.sIx_none, List.drop_zero, Nat.sub_zero, List.dropLast_eq_take]
  congr 1
  show (if (-1 : Int) < 0 then ((-1 : Int) + (xs.length : Int)).toNat else min (-1 : Int).toNat xs.length) = _
  rw [if_pos (by decide)]
  omega
theorem join_flat (p : List Nat) : ∀ ps : List (List Nat), joinL [32] (p :: ps) = p ++ (ps.map (32 :: ·)).flatten := by
  intro ps
  induction ps generalizing p with
  | nil => simp [joinL]
  | cons q r ih =>
    show p ++ ([32] ++ joinL [32] (q :: r)) = _
    rw [ih q]
    simp
theorem join_nil : ∀ ps : List (List Nat), joinL [] ps = ps.flatten := by
  intro ps
  induction ps with
  | nil => rfl
  | cons p r ih =>
    cases r with
    | nil => simp [joinL]
    | cons q r =>
      show p ++ ([] ++ joinL [] (q :: r)) = _
      rw [ih]
      simp
theorem join_snoc {S : List Nat} : ∀ {ps : List (List Nat)} {q : List Nat}, ps ≠ [] → joinL S (ps ++ [q]) = joinL S ps ++ (S ++ q)
  | [], _, h => absurd rfl h
  | [p], q, _ => rfl
  | p :: p2 :: r, q, _ => by
    show p ++ (S ++ joinL S ((p2 :: r) ++ [q])) = p ++ (S ++ joinL S (p2 :: r)) ++ (S ++ q)
    rw [join_snoc (by simp)]
    simp
theorem join_free {c : Nat} {S : List Nat} (hS : c ∉ S) : ∀ {ps : List (List Nat)}, (∀ w ∈ ps, c ∉ w) → c ∉ joinL S ps
  | [], _ => by simp [joinL]
  | [p], h => h p (List.mem_cons_self ..)
  | p :: q :: r, h => by
    show c ∉ p ++ (S ++ joinL S (q :: r))
    have i := join_free hS (ps := q :: r) fun w hw => h w (List.mem_cons_of_mem _ hw)
    have j := h p (List.mem_cons_self ..)
    simp [List.mem_append, hS, i, j]
def textOf (ls : List (List Nat)) : List Nat := (ls.map (· ++ [10])).flatten
theorem textOf_cons (l : List Nat) (ls : List (List Nat)) : textOf (l :: ls) = l ++ (10 :: textOf ls) := by
  unfold textOf
  rw [List.map_cons, List.flatten_cons]
  simp
theorem textOf_app (a b : List (List Nat)) : textOf (a ++ b) = textOf a ++ textOf b := by
  unfold textOf
  rw [List.map_append, List.flatten_append]
theorem spl_text : ∀ (ls : List (List Nat)) (r : List Nat), (∀ l ∈ ls, 10 ∉ l) → spl [10] 0 [] (textOf ls ++ r) = ls ++ spl [10] 0 [] r
  | [], r, _ => rfl
  | l :: ls, r, h => by
    rw [textOf_cons, List.append_assoc]
    have := spl_part1 (s := 10) (S := []) (acc := []) (rest := textOf ls ++ r) (h l (List.mem_cons_self ..))
    rw [show l ++ (10 :: textOf ls ++ r) = l ++ ([10] ++ (textOf ls ++ r)) by simp]
    rw [this, List.nil_append, spl_text ls r fun z hz => h z (List.mem_cons_of_mem _ hz)]
    rfl
theorem spl_text0 (ls : List (List Nat)) (h : ∀ l ∈ ls, 10 ∉ l) : spl [10] 0 [] (textOf ls) = ls ++ [[]] := by
  have := spl_text ls [] h
  rw [List.append_nil, spl_nil] at this
  exact this
theorem text_len {B : Nat} : ∀ ls : List (List Nat), (∀ l ∈ ls, l.length ≤ B) → (textOf ls).length ≤ (B + 1) * ls.length
  | [], _ => by simp [textOf]
  | l :: ls, h => by
    rw [textOf_cons, List.length_append, List.length_cons, List.length_cons, Nat.mul_succ]
    have := text_len ls fun z hz => h z (List.mem_cons_of_mem _ hz)
    have := h l (List.mem_cons_self ..)
    omega
theorem sum_lens (L : List (List Nat)) : (L.map (·.length)).sum = L.flatten.length := List.length_flatten.symm
theorem sum_len {B : Nat} : ∀ ps : List (List Nat), (∀ p ∈ ps, p.length ≤ B) → (ps.map (·.length)).sum ≤ B * ps.length
  | [], _ => by simp
  | p :: r, h => by
    rw [List.map_cons, List.sum_cons, List.length_cons, Nat.mul_succ]
    have := sum_len r fun q hq => h q (List.mem_cons_of_mem _ hq)
    have := h p (List.mem_cons_self ..)
    omega
theorem spl_bd (S : List Nat) : ∀ (l : List Nat) (k : Nat) (acc : List Nat), (∀ p ∈ spl S k acc l, p.length ≤ acc.length + l.length) ∧ (spl S k acc l).length ≤ l.length + 1
  | [], k, acc => by rw [spl_nil]; simp
  | c :: r, k + 1, acc => by
    obtain ⟨h1, h2⟩ := spl_bd S r k acc
    show (∀ p ∈ spl S k acc r, _) ∧ (spl S k acc r).length ≤ _
    refine ⟨fun p hp => ?_, ?_⟩
    · have := h1 p hp; rw [List.length_cons]; omega
    · rw [List.length_cons]; omega
  | c :: r, 0, acc => by
    cases h : pre S (c :: r) with
    | true =>
      rw [spl_hit h]
      obtain ⟨h1, h2⟩ := spl_bd S r (S.length - 1) []
      refine ⟨fun p hp => ?_, ?_⟩
      · rcases List.mem_cons.mp hp with rfl | hp
        · omega
        · have := h1 p hp; rw [List.length_cons]; simp at this; omega
      · rw [List.length_cons, List.length_cons]; omega
    | false =>
      rw [spl_miss h]
      obtain ⟨h1, h2⟩ := spl_bd S r 0 (acc ++ [c])
      refine ⟨fun p hp => ?_, ?_⟩
      · have := h1 p hp; rw [List.length_append] at this; simp at this ⊢; omega
      · rw [List.length_cons]; omega
/-- the first of the parts stands at the head -/
theorem spl_first {s : Nat} : ∀ (l acc : List Nat), (∃ w, spl [s] 0 acc l = [acc ++ w] ∧ l = w ∧ s ∉ w) ∨ ∃ w r, l = w ++ (s :: r) ∧ s ∉ w ∧ spl [s] 0 acc l = (acc ++ w) :: spl [s] 0 [] r
  | [], acc => .inl ⟨[], by rw [spl_nil, List.append_nil], rfl, by simp⟩
  | c :: r, acc => by
    by_cases h : c = s
    · subst h
      refine .inr ⟨[], r, rfl, by simp, ?_⟩
      rw [spl_hit (by unfold pre; simp), List.append_nil, show [c].length - 1 = 0 from rfl]
    · have hm : pre [s] (c :: r) = false := pre_of_head [] r h
      rw [spl_miss hm]
      rcases spl_first r (acc ++ [c]) with ⟨w, e, e2, e3⟩ | ⟨w, q, e, e2, e3⟩
      · exact .inl ⟨c :: w, by rw [e]; simp, by rw [e2], by simp [e3]; exact fun z => h z.symm⟩
      · exact .inr ⟨c :: w, q, by rw [e]; rfl, by simp [e2]; exact fun z => h z.symm, by rw [e3]; simp⟩
theorem spl_ne (S : List Nat) (l acc : List Nat) (k : Nat) : spl S k acc l ≠ [] := by
  induction l generalizing k acc with
  | nil => rw [spl_nil]; simp
  | cons c r ih =>
    cases k with
    | zero =>
      cases h : pre S (c :: r) with
      | true => rw [spl_hit h]; simp
      | false => rw [spl_miss h]; exact ih _ _
    | succ k => exact ih _ _
theorem starts_pre {a b : List Nat} (hb : b ≠ []) : Txt.startswith (mkS a) (mkS b) = decide (a.take b.length = b) := by
  have h := at_iff (x := mkS a) (y := mkS b) hb 0
  have e : PySem.StrLaws.At (mkS a) (mkS b) (mkS a).length 0 ↔ Txt.startswith (mkS a) (mkS b) = true := by
    unfold Txt.startswith
    rw [Bool.and_eq_true, decide_eq_true_iff]
    exact Iff.rfl
  rw [Bool.eq_iff_iff, ← e, h, decide_eq_true_iff]
  unfold pre
  rw [beq_iff_eq]
  exact Iff.rfl
theorem numI_nat (n : Nat) : numI (n : Int) = numL n := tl_num n
theorem numI_free {c : Nat} (h : c ≠ 45 ∧ (c < 48 ∨ 57 < c)) (i : Int) : c ∉ numI i := int_text_free' c h i
theorem numI_len {n k : Nat} (hk : 0 < k) (h : n < 10 ^ k) : (numI (n : Int)).length ≤ k := by rw [numI_nat]; exact numL_len hk h
theorem rng_mem {n : Nat} {x : D} (h : x ∈ rngD 0 n) : ∃ j : Nat, j < n ∧ x = .int (j : Int) := by
  obtain ⟨j, hj, rfl⟩ := List.mem_map.mp h
  rw [List.mem_range] at hj
  exact ⟨j, hj, by rw [Int.zero_add]⟩
theorem rng_map (n : Nat) (f : D → D) : (rngD 0 n).map f = (List.range n).map fun j => f (.int ((j : Nat) : Int)) := by
  unfold rngD
  rw [List.map_map]
  refine List.map_congr_left fun j _ => ?_
  show f (.int (0 + (j : Int))) = _
  rw [Int.zero_add]
/-! ### plain data -/
theorem pl_up : ∀ (n : Nat) (d : D), Pl n d → Pl (n + 1) d
  | _, .non, _ => True.intro
  | _, .bl _, _ => True.intro
  | _, .int _, _ => True.intro
  | _, .str _, _ => True.intro
  | 0, .tup _, h => h.elim
  | 0, .lst _, h => h.elim
  | n + 1, .tup ds, h => ⟨h.1, fun d hd => pl_up n d (h.2 d hd)⟩
  | n + 1, .lst ds, h => ⟨h.1, fun d hd => pl_up n d (h.2 d hd)⟩
  | n, .src _, h => by cases n <;> exact h.elim
  | n, .ref _, h => by cases n <;> exact h.elim
  | n, .ty _, h => by cases n <;> exact h.elim
theorem pl_le {m n : Nat} {d : D} (h : Pl m d) (l : m ≤ n) : Pl n d := by
  induction l with
  | refl => exact h
  | step _ ih => exact pl_up _ _ ih
theorem same_of {M : Mu} {x y : D} {Q : DK} {E : DXK} (d : D) (hx : Vw M x d) (hy : Vw M y d) (hp : Pl 8 d) (h : Q (.bl true) M) : sp_law_same [x, y] M Q E := ⟨x, y, d, rfl, hx, hy, hp, h⟩
/-! ### more rules -/
section
variable {δ : DEnv} {M : Mu} {Q : DK} {D0 : DEnds} {c : DTT} {b : DTS} {mu : Bool} {x y : D} {as bs : List D} {a : Addr} {cs : List Nat}
theorem r_while (W : Nat → DEnv → Mu → Prop) (m : Nat) (h0 : W m δ M) (h : ∀ m δ M, W m δ M → c δ M fun k M1 => (k = true → b { nx := fun δ' M' => ∃ m', m' < m ∧ W m' δ' M', rt := D0.rt, ct := fun δ' M' => ∃ m', m' < m ∧ W m' δ' M', bk := D0.nx } δ M1) ∧ (k = false → D0.nx δ M1)) : dWhile c b D0 δ M := by
  refine ⟨W, ⟨m, h0⟩, fun m δ M hw => ?_⟩
  refine cast (congrArg (fun z => c δ M z) (funext fun k => funext fun M1 => ?_)) (h m δ M hw)
  cases k <;> simp
theorem r_addG (hx : dseq M x = some as) (hy : dseq M y = some bs) (hl : as.length + bs.length ≤ sizeLine) (q : dNew mu (as ++ bs) M Q) : dAdd mu x y M Q := by
  unfold dAdd
  cases x <;> first | cases hx; done | skip
  all_goals cases y <;> first | cases hy; done | skip
  all_goals simp only [hx, hy]; exact ⟨hl, q⟩
theorem dseq_sub {M' : Mu} (s : Sub M M') (h : dseq M x = some as) : dseq M' x = some as := by
  cases x with
  | ref a =>
    have h : (match M a with
      | some (.lst ds) => some ds
      | _ => none) = some as := h
    show (match M' a with
      | some (.lst ds) => some ds
      | _ => none) = some as
    cases e : M a with
    | none => rw [e] at h; cases h
    | some o =>
      rw [e] at h
      rw [s a o e]
      exact h
  | lst ds => exact h
  | _ => cases h
theorem r_inT {neg : Bool} (q : Q (.bl (if neg then !inD (.str cs) as else inD (.str cs) as)) M) (h : as.all flatD = true) : dInB neg (.str cs) (.tup as) M Q := by
  unfold dInB
  match cs with
  | [] => exact ⟨rfl, h, q⟩
  | [c] => exact ⟨rfl, h, q⟩
  | c :: d :: r => exact ⟨rfl, h, q⟩
theorem inD_strs (w : List Nat) (ks : List (List Nat)) : inD (.str w) (ks.map .str) = decide (w ∈ ks) := by
  unfold inD
  rw [List.any_map, Bool.eq_iff_iff, List.any_eq_true, decide_eq_true_iff]
  constructor
  · rintro ⟨k, hk, e⟩
    have : k = w := of_decide_eq_true e
    exact this ▸ hk
  · intro h
    exact ⟨w, h, decide_eq_true rfl⟩
theorem r_extend {d : D} (e : M a = some (.lst as)) (h : dseq M d = some bs) (hl : as.length + bs.length ≤ sizeLine) (q : Q .non (mset M a (.lst (as ++ bs)))) : dExtend (.ref a) [d] M Q := by
  unfold dExtend
  simp only [e, h]
  exact ⟨hl, q⟩
theorem r_lenQ {d : D} (e : dseq M d = some as) (q : Q (.int as.length) M) : dLen [d] M Q := r_lenG (by cases d <;> first | exact e | cases e) q
theorem r_idxQ {d z : D} {n : Int} (e : dseq M d = some as) (hk : atI as n = some z) (q : Q z M) : dIdx d (.int n) M Q := r_idxG (by cases d <;> first | exact e | cases e) hk q
theorem r_tupQ {d : D} (e : dseq M d = some as) (q : Q (.tup as) M) : dTupOf [d] M Q := by
  unfold dTupOf
  cases d with
  | tup _ => cases e
  | ref a => simp only [dlis, e]; exact q
  | lst _ => simp only [dlis, e]; exact q
  | _ => cases e
theorem r_kIQ {R : List D → (Mu → Prop) → Mu → Prop} (h : dseq M x = some as) (q : ∀ g : Mu → Prop, g M → R as g M) : kI R x M := by
  cases x with
  | lst ds =>
    cases h
    exact q _ trivial
  | ref a =>
    have h : (match M a with
      | some (.lst ds) => some ds
      | _ => none) = some as := h
    cases e : M a with
    | none => rw [e] at h; cases h
    | some o =>
      rw [e] at h
      cases o with
      | lst ds =>
        cases h
        exact r_kIr e (q _ e)
      | dic _ => cases h
  | _ => cases h
theorem atI_str {L : List (List Nat)} {j : Nat} (h : j < L.length) : atI (L.map D.str) (j : Int) = some (.str (L[j]'h)) := atI_nat (by rw [List.getElem?_map, List.getElem?_eq_getElem h]; rfl)
theorem atI_last {α : Type} {xs : List α} {x : α} (h : xs.getLast? = some x) : atI xs (-1) = some x := by
  have hl : 0 < xs.length := by
    cases xs with
    | nil => cases h
    | cons _ _ => simp
  have e : ixN xs.length (-1) = some (xs.length - 1) := by
    unfold ixN
    rw [if_neg (by decide), if_pos (by omega)]
    congr 1
    omega
  unfold atI
  rw [e, Option.bind_some, ← List.getLast?_eq_getElem?]
  exact h
end
end DL

namespace K04
open PySem PySem.Spec PyProof.Rows L2 TL DL
local macro_rules | `(tactic| walk_at "st1") => `(tactic| first
  | with_reducible refine r_sq ?_ | with_reducible refine r_nx ?_ | with_reducible refine r_rt ?_ | with_reducible refine r_rtN ?_ | with_reducible refine r_ex ?_ | with_reducible refine r_as ?_ | with_reducible refine r_bk ?_ | with_reducible refine r_ct ?_
  | ((with_reducible apply r_var); exact rfl) | with_reducible refine r_c ?_ | with_reducible refine r_op ?_ | with_reducible refine r_un ?_ | with_reducible refine r_neg ?_
  | ((with_reducible refine r_dgN rfl ?_); (try simp only [List.set]))
  | with_reducible refine r_dgSub ?_ | with_reducible refine r_dgT rfl ?_ | with_reducible refine r_dga0 ?_ | with_reducible refine r_dga1 ?_ | with_reducible refine r_auS ?_ | ((with_reducible apply r_au); exact rfl)
  | with_reducible refine r_par ?_ | ((with_reducible refine r_kPar rfl ?_); (try simp only [List.set]))
  | with_reducible refine r_addI ?_ | with_reducible refine r_addS ?_ | with_reducible refine r_addT ?_ | with_reducible refine r_addL ?_ | with_reducible refine r_subI ?_ | with_reducible refine r_mulI ?_ | with_reducible refine r_fdiv ?_ | with_reducible refine r_mod ?_ | with_reducible refine r_pow ?_ | with_reducible refine r_shl ?_
  | with_reducible refine r_eqI ?_ | with_reducible refine r_eqS ?_ | with_reducible refine r_eqB ?_ | with_reducible refine r_neI ?_ | with_reducible refine r_neS ?_ | with_reducible refine r_neB ?_ | with_reducible refine r_ltI ?_ | with_reducible refine r_gtI ?_ | with_reducible refine r_leI ?_ | with_reducible refine r_geI ?_ | with_reducible refine r_isN ?_ | with_reducible refine r_notN ?_ | with_reducible refine r_inS ?_
  | with_reducible refine r_test ?_ | with_reducible refine r_kB ?_ | with_reducible refine r_tru ?_ | with_reducible refine r_kTb ?_ | with_reducible refine r_kTi ?_ | with_reducible refine r_kTn ?_ | with_reducible refine r_kTl ?_ | with_reducible refine r_kTt ?_ | with_reducible refine r_kTs ?_ | with_reducible refine r_not ?_ | with_reducible refine r_notV ?_ | with_reducible refine r_yes ?_
  | with_reducible refine r_nil ?_ | with_reducible refine r_cons ?_ | with_reducible refine r_tup ?_ | with_reducible refine r_lst ?_ | with_reducible refine r_newF ?_ | with_reducible refine r_cb ?_
  | with_reducible refine r_lenS ?_ | with_reducible refine r_lenL ?_ | with_reducible refine r_lenT ?_ | with_reducible refine r_lenSrc ?_ | with_reducible refine r_abs ?_ | with_reducible refine r_min2 ?_ | with_reducible refine r_max2 ?_ | with_reducible refine r_intI ?_ | with_reducible refine r_str ?_ | with_reducible refine r_tupT ?_ | with_reducible refine r_tupL ?_ | with_reducible refine r_divmod ?_
  | with_reducible refine r_sl ?_ | with_reducible refine r_noP ?_ | with_reducible refine r_part ?_ | with_reducible refine r_kP ?_ | with_reducible refine r_slS ?_ | with_reducible refine r_slT ?_ | with_reducible refine r_slL ?_ | with_reducible refine r_slSrc ?_
  | with_reducible refine r_bm ?_ | with_reducible refine r_tyS ?_ | with_reducible refine r_starts ?_ | with_reducible refine r_count ?_ | with_reducible refine r_call ?_ | with_reducible refine r_for ?_ | with_reducible refine r_seq ?_ | with_reducible refine r_kIt ?_ | with_reducible refine r_kIl ?_ | with_reducible refine r_kIs ?_ | with_reducible refine r_kIsrc ?_ | with_reducible refine r_r1 ?_ | with_reducible refine r_r2 ?_ | with_reducible refine r_lc ?_
  | with_reducible refine lit0 ?_ | with_reducible refine lit1 ?_ | with_reducible refine lit2 ?_ | with_reducible refine lit3 ?_ | with_reducible refine lit4 ?_ | with_reducible refine lit5 ?_ | with_reducible refine lit6 ?_ | with_reducible refine lit7 ?_
  | fail)
local macro_rules | `(tactic| walk_at "st") => `(tactic| repeat (first | walk_at "st1" | dsimp only))
local macro_rules | `(tactic| walk_at "go") => `(tactic| (simp only [dstart, dEnd, List.map_cons, List.map_nil, List.length_cons, List.length_nil, Nat.reduceAdd, Nat.reduceSub, Nat.zero_add, List.replicate, List.cons_append, List.nil_append]; walk_at "st"))

abbrev g_KINDS : D := .tup [(.str [107, 101, 112, 116]), (.str [98, 114, 111, 107, 101, 110]), (.str [111, 114, 100, 101, 114]), (.str [115, 97, 109, 101]), (.str [117, 110, 108, 105, 107, 101])]
theorem r_inTs {neg : Bool} {w : List Nat} (ks : List (List Nat)) {M : Mu} {Q : DK} (q : Q (.bl (if neg = true then !decide (w ∈ ks) else decide (w ∈ ks))) M) : dInB neg (.str w) (.tup (ks.map .str)) M Q := by
  refine r_inT ?_ (by rw [List.all_map]; exact List.all_eq_true.mpr fun _ _ => rfl)
  rw [inD_strs]
  exact q
/-! ### facts of lines, plainly -/
abbrev OFp : List Nat := [111, 102, 32]
abbrev BYp : List Nat := [98, 121, 32]
abbrev ENDp : List Nat := [101, 110, 100, 32, 102, 97, 99, 116]
abbrev FACTp : List Nat := [102, 97, 99, 116]
abbrev PAIRp : List Nat := [112, 97, 105, 114]
abbrev KEPT : List Nat := [107, 101, 112, 116]
abbrev BROKEN : List Nat := [98, 114, 111, 107, 101, 110]
abbrev ORDER : List Nat := [111, 114, 100, 101, 114]
abbrev SAME : List Nat := [115, 97, 109, 101]
abbrev UNLIKE : List Nat := [117, 110, 108, 105, 107, 101]
abbrev ONEp : List Nat := [111, 110, 101, 32]
abbrev OTHp : List Nat := [111, 116, 104, 101, 114, 32]
def pfx (p l : List Nat) : Bool := decide (l.take p.length = p) && decide (p.length < l.length)
def run (p : List Nat) : List (List Nat) → List (List Nat)
  | [] => []
  | l :: r => if pfx p l = true then l.drop p.length :: run p r else []
def lastR (w z : List Nat) (q p : List (List Nat)) : Bool :=
  if q.length < 2 ∨ (spl [32] 0 [] z).length ≠ 3 ∨ (spl [32] 0 [] z).head? ≠ some PAIRp then false
  else if w = UNLIKE then decide (p.length = 1) else p.all fun l => decide (l.take 4 = ONEp) || decide (l.take 6 = OTHp)
def right (w : List Nat) (q p : List (List Nat)) : Bool :=
  if w ∈ [KEPT, BROKEN] then decide (0 < q.length) && decide (0 < p.length)
  else if w = ORDER then decide (q.length = 2) && decide (p.length = 1)
  else if w ∉ [SAME, UNLIKE] then false
  else match q.getLast? with
    | none => false
    | some z => lastR w z q p
def strsD (L : List (List Nat)) : List D := L.map .str
def factD (w : List Nat) (q p : List (List Nat)) : D := .tup [.str w, .tup (strsD q), .tup (strsD p)]
def one (l : List Nat) (r : List (List Nat)) : Option (List Nat × List (List Nat) × List (List Nat)) :=
  match spl [32] 0 [] l with
  | [w0, w1] => if w0 = FACTp ∧ (r.drop ((run OFp r).length + (run BYp (r.drop (run OFp r).length)).length)).head? = some ENDp ∧ right w1 (run OFp r) (run BYp (r.drop (run OFp r).length)) = true then some (w1, run OFp r, run BYp (r.drop (run OFp r).length)) else none
  | _ => none
def F : Nat → List (List Nat) → List D
  | 0, _ => []
  | _ + 1, [] => []
  | n + 1, l :: r => match one l r with
    | some (w, q, p) => factD w q p :: F n (r.drop (q.length + p.length + 1))
    | none => F n r
theorem F_fuel : ∀ (n m : Nat) (ls : List (List Nat)), ls.length ≤ n → ls.length ≤ m → F n ls = F m ls
  | 0, m, ls, h1, _ => by
    have : ls = [] := List.length_eq_zero_iff.mp (by omega)
    subst this
    cases m <;> rfl
  | n + 1, 0, ls, _, h2 => by
    have : ls = [] := List.length_eq_zero_iff.mp (by omega)
    subst this
    rfl
  | n + 1, m + 1, [], _, _ => rfl
  | n + 1, m + 1, l :: r, h1, h2 => by
    rw [List.length_cons] at h1 h2
    unfold F
    cases one l r with
    | none => exact F_fuel n m r (by omega) (by omega)
    | some t =>
      obtain ⟨w, q, p⟩ := t
      show factD w q p :: _ = factD w q p :: _
      rw [F_fuel n m _ (by rw [List.length_drop]; omega) (by rw [List.length_drop]; omega)]
def G (ls : List (List Nat)) : List D := F ls.length ls
theorem G_nil : G [] = [] := rfl
theorem G_cons (l : List Nat) (r : List (List Nat)) : G (l :: r) = match one l r with
    | some (w, q, p) => factD w q p :: G (r.drop (q.length + p.length + 1))
    | none => G r := by
  unfold G
  rw [List.length_cons]
  show (match one l r with
    | some (w, q, p) => factD w q p :: F r.length (r.drop (q.length + p.length + 1))
    | none => F r.length r) = _
  cases one l r with
  | none => rfl
  | some t =>
    obtain ⟨w, q, p⟩ := t
    show factD w q p :: _ = factD w q p :: _
    rw [F_fuel _ _ _ (by rw [List.length_drop]; omega) (Nat.le_refl _)]
theorem run_drop {p : List Nat} {L : List (List Nat)} {j : Nat} (h : j < L.length) : run p (L.drop j) = if pfx p L[j] = true then L[j].drop p.length :: run p (L.drop (j + 1)) else [] := by
  rw [List.drop_eq_getElem_cons h]
  rfl
theorem run_end {p : List Nat} {L : List (List Nat)} {j : Nat} (h : L.length ≤ j) : run p (L.drop j) = [] := by
  rw [List.drop_of_length_le h]
  rfl
structure BdL (L : List (List Nat)) : Prop where
  len : L.length ≤ 200000
  ln : ∀ l ∈ L, l.length ≤ 200000
theorem run_len (p : List Nat) : ∀ L : List (List Nat), (run p L).length ≤ L.length
  | [] => Nat.le_refl _
  | l :: r => by
    unfold run
    split
    · rw [List.length_cons, List.length_cons]; have := run_len p r; omega
    · simp
theorem run_bd {p : List Nat} : ∀ {L : List (List Nat)}, (∀ l ∈ L, l.length ≤ 200000) → ∀ l ∈ run p L, l.length ≤ 200000
  | [], _, l, h => by cases h
  | x :: r, hb, l, h => by
    unfold run at h
    split at h
    · rcases List.mem_cons.mp h with rfl | h
      · rw [List.length_drop]; have := hb x (List.mem_cons_self ..); omega
      · exact run_bd (fun z hz => hb z (List.mem_cons_of_mem _ hz)) l h
    · cases h
/-! ### specs -/
def sp_parts_right : DSp := fun ds M Q _ => ∃ (w : List Nat) (q p : List (List Nat)), ds = [.str w, .lst (strsD q), .lst (strsD p)] ∧ w ∈ [KEPT, BROKEN, ORDER, SAME, UNLIKE] ∧ (∀ l ∈ q, l.length ≤ 200000) ∧ Q (.bl (right w q p)) M
def sp_run_of : DSp := fun ds M Q _ => ∃ (L : List (List Nat)) (at' : Nat) (w : List Nat), ds = [.lst (strsD L), .int (at' : Int), .str w] ∧ BdL L ∧ w.length ≤ 10 ∧ Q (.lst (strsD (run (w ++ [32]) (L.drop at')))) M
def oneD (L : List (List Nat)) (at' : Nat) (h : at' < L.length) : D := match one L[at'] (L.drop (at' + 1)) with
  | some (w, q, p) => .tup [factD w q p, .int ((at' + 1 + q.length + p.length + 1 : Nat) : Int)]
  | none => .non
def sp_fact_at : DSp := fun ds M Q _ => ∃ (L : List (List Nat)) (at' : Nat) (h : at' < L.length), ds = [.lst (strsD L), .int (at' : Int)] ∧ BdL L ∧ Q (oneD L at' h) M
def retL (ds : List D) (M : Mu) (Q : DK) : Prop := (∀ p, M p = none → Q (.ref p) (mset M p (.lst ds))) ∨ Q (.lst ds) M
def sp_facts_from : DSp := fun ds M Q _ => ∃ (text : List Nat), ds = [.str text] ∧ text.length ≤ 190000 ∧ retL (G (spl [10] 0 [] text).dropLast) M Q
structure GoodF (w : List Nat) (q p : List (List Nat)) : Prop where
  wl : w ∈ [KEPT, BROKEN, ORDER, SAME, UNLIKE]
  ql : q.length ≤ 10
  pl : p.length ≤ 10
  qs : ∀ l ∈ q, l ≠ [] ∧ 10 ∉ l ∧ l.length ≤ 90
  ps : ∀ l ∈ p, l ≠ [] ∧ 10 ∉ l ∧ l.length ≤ 90
  rt : right w q p = true
def rowsOf (w : List Nat) (q p : List (List Nat)) : List (List Nat) := [FACTp ++ [32] ++ w] ++ q.map (OFp ++ ·) ++ p.map (BYp ++ ·) ++ [ENDp]
def sp_fact_text : DSp := fun ds M Q _ => ∃ (w : List Nat) (q p : List (List Nat)), ds = [factD w q p] ∧ GoodF w q p ∧ Q (.str (textOf (rowsOf w q p))) M
def sp_law_k04_rows : DSp := fun ds M Q _ => ∃ (w : List Nat) (q p : List (List Nat)), ds = [factD w q p] ∧ GoodF w q p ∧ Q (.lst (strsD (rowsOf w q p))) M
def GoodLn (l : List Nat) : Prop := 10 ∉ l ∧ l.length ≤ 110
def sp_law_k04_line : DSp := fun ds M Q _ => ∃ a o k, ds = [.ref a] ∧ M a = some o ∧ Src (k + 3) o ∧ ∀ l o', l ≠ [] → 10 ∉ l → l.length ≤ 30 → Src k o' → Q (.str l) (mset M a o')
def sp_law_k04_fact : DSp := fun ds M Q _ => ∃ a o k, ds = [.ref a] ∧ M a = some o ∧ Src (k + 50) o ∧ ∀ w q p o', GoodF w q p → Src k o' → Q (factD w q p) (mset M a o')
def sp_law_k04_right : DSp := fun ds M Q _ => ∃ (w : List Nat) (x y : D) (q p : List (List Nat)), ds = [.str w, x, y] ∧ dseq M x = some (strsD q) ∧ dseq M y = some (strsD p) ∧ (∀ l ∈ q, l.length ≤ 200000) ∧ (∀ l ∈ p, l.length ≤ 200000) ∧ p.length ≤ 200000 ∧ Q (.bl (right w q p)) M
def sp_law_k04_due : DSp := fun ds M Q _ => ∃ (x : D) (L : List (List Nat)), ds = [x] ∧ dseq M x = some (strsD L) ∧ BdL L ∧ Q (.lst (G L)) M
def sp_law_k04_spoilt : DSp := fun ds M Q _ => ∃ a o k, ∃ (L : List (List Nat)), ds = [.ref a, .lst (strsD L)] ∧ M a = some o ∧ Src (k + 3) o ∧ 3 ≤ L.length ∧ L.length ≤ 30 ∧ (∀ l ∈ L, GoodLn l) ∧ ∀ L' o', L'.length ≤ 40 → (∀ l ∈ L', 10 ∉ l ∧ l.length ≤ 120) → Src k o' → Q (.lst (strsD L')) (mset M a o')
def sp_law : DSp := fun ds M Q _ => ∃ ns, ds = [.src ns] ∧ Q (.bl true) M
def t_parts_right : DTS := (dSq (dIfS (dTest (dOp (dInB false) (dVar 0) (dTup (dCons (dC (.str [107, 101, 112, 116])) (dCons (dC (.str [98, 114, 111, 107, 101, 110])) dNil))))) (dRt (dAndV (dOp dGt (dCB dLen (dCons (dVar 1) dNil)) (dC (.int 0))) (dOp dGt (dCB dLen (dCons (dVar 2) dNil)) (dC (.int 0))))) dNx) (dSq (dIfS (dTest (dOp dEq (dVar 0) (dC (.str [111, 114, 100, 101, 114])))) (dRt (dAndV (dOp dEq (dCB dLen (dCons (dVar 1) dNil)) (dC (.int 2))) (dOp dEq (dCB dLen (dCons (dVar 2) dNil)) (dC (.int 1))))) dNx) (dSq (dIfS (dOr (dTest (dOp dLt (dCB dLen (dCons (dVar 1) dNil)) (dC (.int 2)))) (dOr (dTest (dOp dNe (dCB dLen (dCons (dBM "str" (dSplit false) (dOp dIdx (dVar 1) (dUn dNeg (dC (.int 1)))) (dCons (dC (.str [32])) dNil)) dNil)) (dC (.int 3)))) (dNot (dTru (dBM "str" dStarts (dOp dIdx (dVar 1) (dUn dNeg (dC (.int 1)))) (dCons (dC (.str [112, 97, 105, 114, 32])) dNil)))))) (dRt (dC (.bl false))) dNx) (dSq (dIfS (dTest (dOp dEq (dVar 0) (dC (.str [117, 110, 108, 105, 107, 101])))) (dRt (dOp dEq (dCB dLen (dCons (dVar 2) dNil)) (dC (.int 1)))) dNx) (dSq (dFor (diSeq (dVar 2)) (dgN 3) (dIfS (dAnd (dNot (dTru (dBM "str" dStarts (dVar 3) (dCons (dC (.str [111, 110, 101, 32])) dNil)))) (dNot (dTru (dBM "str" dStarts (dVar 3) (dCons (dC (.str [111, 116, 104, 101, 114, 32])) dNil))))) (dRt (dC (.bl false))) dNx)) (dRt (dC (.bl true))))))))
def t_run_of : DTS := (dSq (dAs (dLst true dNil) (dgN 3)) (dSq (dWhile (dAnd (dTest (dOp dLt (dVar 1) (dCB dLen (dCons (dVar 0) dNil)))) (dAnd (dTru (dBM "str" dStarts (dOp dIdx (dVar 0) (dVar 1)) (dCons (dOp (dAdd false) (dVar 2) (dC (.str [32]))) dNil))) (dTest (dOp dGt (dCB dLen (dCons (dOp dIdx (dVar 0) (dVar 1)) dNil)) (dOp (dAdd false) (dCB dLen (dCons (dVar 2) dNil)) (dC (.int 1))))))) (dSq (dEx (dBM "list" dAppend (dVar 3) (dCons (dSl false (dOp dIdx (dVar 0) (dVar 1)) (dPart (dOp (dAdd false) (dCB dLen (dCons (dVar 2) dNil)) (dC (.int 1)))) dNoP) dNil))) (dAu 1 dIAdd (dC (.int 1))))) (dRt (dVar 3))))
def t_fact_at : DTS := (dSq (dAs (dBM "str" (dSplit false) (dOp dIdx (dVar 0) (dVar 1)) (dCons (dC (.str [32])) dNil)) (dgN 2)) (dSq (dIfS (dOr (dTest (dOp dNe (dCB dLen (dCons (dVar 2) dNil)) (dC (.int 2)))) (dOr (dTest (dOp dNe (dOp dIdx (dVar 2) (dC (.int 0))) (dC (.str [102, 97, 99, 116])))) (dTest (dOp (dInB true) (dOp dIdx (dVar 2) (dC (.int 1))) (dC g_KINDS))))) (dRt (dC .non)) dNx) (dSq (dAs (dCall sp_run_of [] dX0 (dCons (dVar 0) (dCons (dOp (dAdd false) (dVar 1) (dC (.int 1))) (dCons (dC (.str [111, 102])) dNil)))) (dgN 3)) (dSq (dAs (dCall sp_run_of [] dX0 (dCons (dVar 0) (dCons (dOp (dAdd false) (dOp (dAdd false) (dVar 1) (dC (.int 1))) (dCB dLen (dCons (dVar 3) dNil))) (dCons (dC (.str [98, 121])) dNil)))) (dgN 4)) (dSq (dAs (dOp (dAdd false) (dOp (dAdd false) (dOp (dAdd false) (dVar 1) (dC (.int 1))) (dCB dLen (dCons (dVar 3) dNil))) (dCB dLen (dCons (dVar 4) dNil))) (dgN 5)) (dSq (dIfS (dOr (dTest (dOp dGe (dVar 5) (dCB dLen (dCons (dVar 0) dNil)))) (dOr (dTest (dOp dNe (dOp dIdx (dVar 0) (dVar 5)) (dC (.str [101, 110, 100, 32, 102, 97, 99, 116])))) (dNot (dTru (dCall sp_parts_right [] dX0 (dCons (dOp dIdx (dVar 2) (dC (.int 1))) (dCons (dVar 3) (dCons (dVar 4) dNil)))))))) (dRt (dC .non)) dNx) (dRt (dTup (dCons (dTup (dCons (dOp dIdx (dVar 2) (dC (.int 1))) (dCons (dCB dTupOf (dCons (dVar 3) dNil)) (dCons (dCB dTupOf (dCons (dVar 4) dNil)) dNil)))) (dCons (dOp (dAdd false) (dVar 5) (dC (.int 1))) dNil))))))))))
def t_facts_from : DTS := (dSq (dAs (dSl false (dBM "str" (dSplit false) (dVar 0) (dCons (dC (.str [10])) dNil)) dNoP (dPart (dUn dNeg (dC (.int 1))))) (dgN 1)) (dSq (dAs (dLst true dNil) (dgN 2)) (dSq (dAs (dC (.int 0)) (dgN 3)) (dSq (dWhile (dTest (dOp dLt (dVar 3) (dCB dLen (dCons (dVar 1) dNil)))) (dSq (dAs (dCall sp_fact_at [] dX0 (dCons (dVar 1) (dCons (dVar 3) dNil))) (dgN 4)) (dIfS (dTest (dOp dIsN (dVar 4) (dC .non))) (dAu 3 dIAdd (dC (.int 1))) (dSq (dEx (dBM "list" dAppend (dVar 2) (dCons (dOp dIdx (dVar 4) (dC (.int 0))) dNil))) (dAs (dOp dIdx (dVar 4) (dC (.int 1))) (dgN 3)))))) (dRt (dVar 2))))))
def t_fact_text : DTS := (dSq (dAs (dLst true (dCons (dOp (dAdd false) (dC (.str [102, 97, 99, 116, 32])) (dOp dIdx (dVar 0) (dC (.int 0)))) dNil)) (dgN 1)) (dSq (dEx (dBM "list" dExtend (dVar 1) (dCons (dLc false (diSeq (dOp dIdx (dVar 0) (dC (.int 1)))) (dgN 2) dYes (dOp (dAdd false) (dC (.str [111, 102, 32])) (dVar 2)) [2]) dNil))) (dSq (dEx (dBM "list" dExtend (dVar 1) (dCons (dLc false (diSeq (dOp dIdx (dVar 0) (dC (.int 2)))) (dgN 2) dYes (dOp (dAdd false) (dC (.str [98, 121, 32])) (dVar 2)) [2]) dNil))) (dRt (dOp (dAdd false) (dBM "str" dJoin (dC (.str [])) (dCons (dLc false (diSeq (dVar 1)) (dgN 3) dYes (dOp (dAdd false) (dVar 3) (dC (.str [10]))) [3]) dNil)) (dC (.str [101, 110, 100, 32, 102, 97, 99, 116, 10])))))))
def t_law_k04_line : DTS := (dSq (dAs (dLst false (dCons (dC (.str [116, 101, 120, 116, 32, 116])) (dCons (dC (.str [112, 97, 105, 114, 32, 102, 32, 103])) (dCons (dC (.str [111, 110, 101, 32, 112, 108, 97, 105, 110, 32, 45])) (dCons (dC (.str [49])) (dCons (dC (.str [32])) (dCons (dC (.str [101, 110, 100, 32, 102, 97, 99, 116])) (dCons (dC (.str [102, 97, 99, 116, 32, 107, 101, 112, 116])) (dCons (dC (.str [111, 102, 32, 120])) (dCons (dC (.str [98, 121, 32, 49])) (dCons (dC (.str [114, 111, 111, 116, 32, 50, 32, 50, 32, 45, 50, 32, 48, 32, 49])) (dCons (dC (.str [126])) (dCons (dC (.str [111, 116, 104, 101, 114, 32, 115, 117, 109, 32, 49])) (dCons (dC (.str [112, 97, 105, 114, 32, 102])) (dCons (dC (.str [98, 108, 111, 99, 107, 32, 109, 97, 105, 110])) dNil))))))))))))))) (dgN 1)) (dSq (dAs (dCall sp_law_one [] dX0 (dCons (dVar 0) (dCons (dVar 1) dNil))) (dgN 2)) (dRt (dIf (dTest (dOp dEq (dCall sp_law_pick [] dX0 (dCons (dVar 0) (dCons (dC (.int 4)) dNil))) (dC (.int 0)))) (dOp (dAdd false) (dOp (dAdd false) (dVar 2) (dC (.str [32]))) (dCB dStr (dCons (dCall sp_law_pick [] dX0 (dCons (dVar 0) (dCons (dC (.int 100)) dNil))) dNil))) (dVar 2)))))
def t_law_k04_fact : DTS := (dSq (dAs (dCall sp_law_one [] dX0 (dCons (dVar 0) (dCons (dLst false (dCons (dC (.str [107, 101, 112, 116])) (dCons (dC (.str [98, 114, 111, 107, 101, 110])) (dCons (dC (.str [111, 114, 100, 101, 114])) (dCons (dC (.str [115, 97, 109, 101])) (dCons (dC (.str [117, 110, 108, 105, 107, 101])) dNil)))))) dNil))) (dgN 1)) (dSq (dAs (dLc false (diR1 (dCons (dOp (dAdd false) (dC (.int 1)) (dCall sp_law_pick [] dX0 (dCons (dVar 0) (dCons (dC (.int 4)) dNil)))) dNil)) (dgN 4) dYes (dCall sp_law_k04_line [] dX0 (dCons (dVar 0) dNil)) [4]) (dgN 2)) (dSq (dAs (dLc false (diR1 (dCons (dOp (dAdd false) (dC (.int 1)) (dCall sp_law_pick [] dX0 (dCons (dVar 0) (dCons (dC (.int 3)) dNil)))) dNil)) (dgN 4) dYes (dCall sp_law_k04_line [] dX0 (dCons (dVar 0) dNil)) [4]) (dgN 3)) (dSq (dIfS (dTest (dOp dEq (dVar 1) (dC (.str [111, 114, 100, 101, 114])))) (dSq (dAs (dSl false (dOp (dAdd false) (dVar 2) (dLst false (dCons (dC (.str [50])) dNil))) dNoP (dPart (dC (.int 2)))) (dgN 2)) (dAs (dSl false (dVar 3) dNoP (dPart (dC (.int 1)))) (dgN 3))) dNx) (dSq (dIfS (dTest (dOp (dInB false) (dVar 1) (dTup (dCons (dC (.str [115, 97, 109, 101])) (dCons (dC (.str [117, 110, 108, 105, 107, 101])) dNil))))) (dAs (dOp (dAdd false) (dVar 2) (dLst false (dCons (dOp (dAdd false) (dOp (dAdd false) (dOp (dAdd false) (dC (.str [112, 97, 105, 114, 32])) (dCall sp_law_one [] dX0 (dCons (dVar 0) (dCons (dLst false (dCons (dC (.str [102])) (dCons (dC (.str [97, 98])) (dCons (dC (.str [102])) dNil)))) dNil)))) (dC (.str [32]))) (dCall sp_law_one [] dX0 (dCons (dVar 0) (dCons (dLst false (dCons (dC (.str [103])) (dCons (dC (.str [102])) (dCons (dC (.str [120])) dNil)))) dNil)))) dNil))) (dgN 2)) dNx) (dSq (dIfS (dTest (dOp dEq (dVar 1) (dC (.str [117, 110, 108, 105, 107, 101])))) (dAs (dSl false (dVar 3) dNoP (dPart (dC (.int 1)))) (dgN 3)) dNx) (dSq (dIfS (dTest (dOp dEq (dVar 1) (dC (.str [115, 97, 109, 101])))) (dAs (dLc false (diSeq (dSl false (dVar 3) dNoP (dPart (dCall sp_law_pick [] dX0 (dCons (dVar 0) (dCons (dC (.int 4)) dNil)))))) (dgN 5) dYes (dOp (dAdd false) (dCall sp_law_one [] dX0 (dCons (dVar 0) (dCons (dLst false (dCons (dC (.str [111, 110, 101, 32])) (dCons (dC (.str [111, 116, 104, 101, 114, 32])) dNil))) dNil))) (dVar 5)) [5]) (dgN 3)) dNx) (dRt (dTup (dCons (dVar 1) (dCons (dCB dTupOf (dCons (dVar 2) dNil)) (dCons (dCB dTupOf (dCons (dVar 3) dNil)) dNil))))))))))))
def t_law_k04_rows : DTS := (dRt (dOp (dAdd false) (dOp (dAdd false) (dOp (dAdd false) (dLst false (dCons (dOp (dAdd false) (dC (.str [102, 97, 99, 116, 32])) (dOp dIdx (dVar 0) (dC (.int 0)))) dNil)) (dLc false (diSeq (dOp dIdx (dVar 0) (dC (.int 1)))) (dgN 1) dYes (dOp (dAdd false) (dC (.str [111, 102, 32])) (dVar 1)) [1])) (dLc false (diSeq (dOp dIdx (dVar 0) (dC (.int 2)))) (dgN 1) dYes (dOp (dAdd false) (dC (.str [98, 121, 32])) (dVar 1)) [1])) (dLst false (dCons (dC (.str [101, 110, 100, 32, 102, 97, 99, 116])) dNil))))
def t_law_k04_right : DTS := (dSq (dIfS (dTest (dOp (dInB false) (dVar 0) (dTup (dCons (dC (.str [107, 101, 112, 116])) (dCons (dC (.str [98, 114, 111, 107, 101, 110])) dNil))))) (dRt (dAndV (dOp dGt (dCB dLen (dCons (dVar 1) dNil)) (dC (.int 0))) (dOp dGt (dCB dLen (dCons (dVar 2) dNil)) (dC (.int 0))))) dNx) (dSq (dIfS (dTest (dOp dEq (dVar 0) (dC (.str [111, 114, 100, 101, 114])))) (dRt (dAndV (dOp dEq (dCB dLen (dCons (dVar 1) dNil)) (dC (.int 2))) (dOp dEq (dCB dLen (dCons (dVar 2) dNil)) (dC (.int 1))))) dNx) (dSq (dIfS (dOr (dTest (dOp (dInB true) (dVar 0) (dTup (dCons (dC (.str [115, 97, 109, 101])) (dCons (dC (.str [117, 110, 108, 105, 107, 101])) dNil))))) (dTest (dOp dLt (dCB dLen (dCons (dVar 1) dNil)) (dC (.int 2))))) (dRt (dC (.bl false))) dNx) (dSq (dAs (dBM "str" (dSplit false) (dOp dIdx (dVar 1) (dUn dNeg (dC (.int 1)))) (dCons (dC (.str [32])) dNil)) (dgN 3)) (dSq (dIfS (dOr (dTest (dOp dNe (dCB dLen (dCons (dVar 3) dNil)) (dC (.int 3)))) (dTest (dOp dNe (dOp dIdx (dVar 3) (dC (.int 0))) (dC (.str [112, 97, 105, 114]))))) (dRt (dC (.bl false))) dNx) (dSq (dIfS (dTest (dOp dEq (dVar 0) (dC (.str [117, 110, 108, 105, 107, 101])))) (dRt (dOp dEq (dCB dLen (dCons (dVar 2) dNil)) (dC (.int 1)))) dNx) (dRt (dCB dAll (dCons (dLc false (diSeq (dVar 2)) (dgN 4) dYes (dOrV (dOp dEq (dSl false (dVar 4) dNoP (dPart (dC (.int 4)))) (dC (.str [111, 110, 101, 32]))) (dOp dEq (dSl false (dVar 4) dNoP (dPart (dC (.int 6)))) (dC (.str [111, 116, 104, 101, 114, 32])))) [4]) dNil)))))))))
def t_law_k04_due : DTS := (dSq (dAs (dLst true dNil) (dgN 1)) (dSq (dAs (dC (.int 0)) (dgN 2)) (dSq (dFor (diR1 (dCons (dCB dLen (dCons (dVar 0) dNil)) dNil)) (dgN 3) (dSq (dIfS (dTest (dOp dGe (dVar 2) (dCB dLen (dCons (dVar 0) dNil)))) dBk dNx) (dSq (dAs (dBM "str" (dSplit false) (dOp dIdx (dVar 0) (dVar 2)) (dCons (dC (.str [32])) dNil)) (dgN 4)) (dSq (dAs (dOp (dAdd false) (dVar 2) (dC (.int 1))) (dgN 5)) (dSq (dAs (dLst true dNil) (dgN 6)) (dSq (dAs (dLst true dNil) (dgN 7)) (dSq (dWhile (dAnd (dTest (dOp dLt (dVar 5) (dCB dLen (dCons (dVar 0) dNil)))) (dAnd (dTest (dOp dEq (dSl false (dOp dIdx (dVar 0) (dVar 5)) dNoP (dPart (dC (.int 3)))) (dC (.str [111, 102, 32])))) (dTest (dOp dNe (dOp dIdx (dVar 0) (dVar 5)) (dC (.str [111, 102, 32])))))) (dSq (dEx (dBM "list" dAppend (dVar 6) (dCons (dSl false (dOp dIdx (dVar 0) (dVar 5)) (dPart (dC (.int 3))) dNoP) dNil))) (dAu 5 dIAdd (dC (.int 1))))) (dSq (dWhile (dAnd (dTest (dOp dLt (dVar 5) (dCB dLen (dCons (dVar 0) dNil)))) (dAnd (dTest (dOp dEq (dSl false (dOp dIdx (dVar 0) (dVar 5)) dNoP (dPart (dC (.int 3)))) (dC (.str [98, 121, 32])))) (dTest (dOp dNe (dOp dIdx (dVar 0) (dVar 5)) (dC (.str [98, 121, 32])))))) (dSq (dEx (dBM "list" dAppend (dVar 7) (dCons (dSl false (dOp dIdx (dVar 0) (dVar 5)) (dPart (dC (.int 3))) dNoP) dNil))) (dAu 5 dIAdd (dC (.int 1))))) (dSq (dAs (dAndV (dOp dLt (dVar 5) (dCB dLen (dCons (dVar 0) dNil))) (dAndV (dOp dEq (dOp dIdx (dVar 0) (dVar 5)) (dC (.str [101, 110, 100, 32, 102, 97, 99, 116]))) (dAndV (dOp dEq (dCB dLen (dCons (dVar 4) dNil)) (dC (.int 2))) (dOp dEq (dOp dIdx (dVar 4) (dC (.int 0))) (dC (.str [102, 97, 99, 116])))))) (dgN 8)) (dIfS (dAnd (dTru (dVar 8)) (dTru (dCall sp_law_k04_right [] dX0 (dCons (dOp dIdx (dVar 4) (dC (.int 1))) (dCons (dVar 6) (dCons (dVar 7) dNil)))))) (dSq (dEx (dBM "list" dAppend (dVar 1) (dCons (dTup (dCons (dOp dIdx (dVar 4) (dC (.int 1))) (dCons (dCB dTupOf (dCons (dVar 6) dNil)) (dCons (dCB dTupOf (dCons (dVar 7) dNil)) dNil)))) dNil))) (dAs (dOp (dAdd false) (dVar 5) (dC (.int 1))) (dgN 2))) (dAu 2 dIAdd (dC (.int 1))))))))))))) (dRt (dVar 1)))))
def t_law_k04_spoilt : DTS := (dSq (dAs (dCall sp_law_pick [] dX0 (dCons (dVar 0) (dCons (dC (.int 9)) dNil))) (dgN 2)) (dSq (dAs (dCall sp_law_pick [] dX0 (dCons (dVar 0) (dCons (dCB dLen (dCons (dVar 1) dNil)) dNil))) (dgN 3)) (dSq (dIfS (dTest (dOp dEq (dVar 2) (dC (.int 0)))) (dRt (dSl false (dVar 1) dNoP (dPart (dVar 3)))) dNx) (dSq (dIfS (dTest (dOp dEq (dVar 2) (dC (.int 1)))) (dRt (dOp (dAdd false) (dSl false (dVar 1) dNoP (dPart (dVar 3))) (dSl false (dVar 1) (dPart (dOp (dAdd false) (dVar 3) (dC (.int 1)))) dNoP))) dNx) (dSq (dIfS (dTest (dOp dEq (dVar 2) (dC (.int 2)))) (dRt (dOp (dAdd false) (dOp (dAdd false) (dSl false (dVar 1) dNoP (dPart (dVar 3))) (dLst false (dCons (dOp (dAdd false) (dOp dIdx (dVar 1) (dVar 3)) (dC (.str [32]))) dNil))) (dSl false (dVar 1) (dPart (dOp (dAdd false) (dVar 3) (dC (.int 1)))) dNoP))) dNx) (dSq (dIfS (dTest (dOp dEq (dVar 2) (dC (.int 3)))) (dRt (dOp (dAdd false) (dOp (dAdd false) (dSl false (dVar 1) dNoP (dPart (dVar 3))) (dLst false (dCons (dC (.str [102, 97, 99, 116, 32, 107, 101, 112, 116])) dNil))) (dSl false (dVar 1) (dPart (dVar 3)) dNoP))) dNx) (dSq (dIfS (dTest (dOp dEq (dVar 2) (dC (.int 4)))) (dRt (dOp (dAdd false) (dLst false (dCons (dOp (dAdd false) (dC (.str [102, 97, 99, 116, 32])) (dCall sp_law_one [] dX0 (dCons (dVar 0) (dCons (dLst false (dCons (dC (.str [111, 114, 100, 101, 114])) (dCons (dC (.str [107, 101, 112, 116])) (dCons (dC (.str [117, 110, 108, 105, 107, 101])) (dCons (dC (.str [115, 97, 109, 101])) (dCons (dC (.str [98, 114, 111, 107, 101, 110])) (dCons (dC (.str [107, 101, 101, 112])) (dCons (dC (.str [])) dNil)))))))) dNil)))) dNil)) (dSl false (dVar 1) (dPart (dC (.int 1))) dNoP))) dNx) (dSq (dIfS (dTest (dOp dEq (dVar 2) (dC (.int 5)))) (dRt (dOp (dAdd false) (dOp (dAdd false) (dSl false (dVar 1) dNoP (dPart (dVar 3))) (dLst false (dCons (dCall sp_law_one [] dX0 (dCons (dVar 0) (dCons (dLst false (dCons (dC (.str [])) (dCons (dC (.str [111, 102, 32])) (dCons (dC (.str [98, 121, 32])) (dCons (dC (.str [111, 102])) (dCons (dC (.str [106, 117, 110, 107])) (dCons (dC (.str [111, 102, 32, 49])) (dCons (dC (.str [98, 121, 32, 111, 110, 101, 32, 120])) dNil)))))))) dNil))) dNil))) (dSl false (dVar 1) (dPart (dVar 3)) dNoP))) dNx) (dSq (dIfS (dTest (dOp dEq (dVar 2) (dC (.int 6)))) (dRt (dOp (dAdd false) (dSl false (dVar 1) dNoP (dPart (dUn dNeg (dC (.int 1))))) (dLst false (dCons (dCall sp_law_one [] dX0 (dCons (dVar 0) (dCons (dLst false (dCons (dC (.str [101, 110, 100])) (dCons (dC (.str [101, 110, 100, 32, 102, 97, 99, 116, 115])) (dCons (dC (.str [32, 101, 110, 100, 32, 102, 97, 99, 116])) (dCons (dC (.str [69, 78, 68, 32, 70, 65, 67, 84])) dNil))))) dNil))) dNil)))) dNx) (dSq (dIfS (dTest (dOp dEq (dVar 2) (dC (.int 7)))) (dRt (dOp (dAdd false) (dLst false (dCons (dOp (dAdd false) (dC (.str [32])) (dOp dIdx (dVar 1) (dC (.int 0)))) dNil)) (dSl false (dVar 1) (dPart (dC (.int 1))) dNoP))) dNx) (dRt (dOp (dAdd false) (dOp (dAdd false) (dSl false (dVar 1) dNoP (dPart (dC (.int 1)))) (dSl false (dVar 1) (dPart (dC (.int 2))) dNoP)) (dSl false (dVar 1) (dPart (dC (.int 1))) (dPart (dC (.int 2))))))))))))))))
def t_law : DTS := (dSq (dAs (dCall sp_law_source [] dX0 (dCons (dVar 0) (dCons (dC (.int 0)) dNil))) (dgN 1)) (dSq (dAs (dLst true dNil) (dgN 2)) (dSq (dFor (diR1 (dCons (dOp (dAdd false) (dC (.int 1)) (dCall sp_law_pick [] dX0 (dCons (dVar 1) (dCons (dC (.int 8)) dNil)))) dNil)) (dgN 3) (dSq (dAs (dCall sp_law_pick [] dX0 (dCons (dVar 1) (dCons (dC (.int 4)) dNil))) (dgN 4)) (dSq (dAs (dCall sp_law_k04_fact [] dX0 (dCons (dVar 1) dNil)) (dgN 5)) (dIfS (dTest (dOp dLt (dVar 4) (dC (.int 2)))) (dSq (dAs (dCall sp_fact_text [] dX0 (dCons (dVar 5) dNil)) (dgN 6)) (dSq (dIfS (dOr (dTest (dOp dNe (dVar 6) (dBM "str" dJoin (dC (.str [])) (dCons (dLc false (diSeq (dCall sp_law_k04_rows [] dX0 (dCons (dVar 5) dNil))) (dgN 8) dYes (dOp (dAdd false) (dVar 8) (dC (.str [10]))) [8]) dNil)))) (dNot (dTru (dCall sp_law_same [] dX0 (dCons (dCall sp_facts_from [] dX0 (dCons (dVar 6) dNil)) (dCons (dLst false (dCons (dVar 5) dNil)) dNil)))))) (dRt (dC (.bl false))) dNx) (dAs (dOp (dAdd true) (dVar 2) (dCall sp_law_k04_rows [] dX0 (dCons (dVar 5) dNil))) (dgN 2)))) (dIfS (dTest (dOp dEq (dVar 4) (dC (.int 2)))) (dAs (dOp (dAdd true) (dVar 2) (dCall sp_law_k04_spoilt [] dX0 (dCons (dVar 1) (dCons (dCall sp_law_k04_rows [] dX0 (dCons (dVar 5) dNil)) dNil)))) (dgN 2)) (dEx (dBM "list" dAppend (dVar 2) (dCons (dCall sp_law_one [] dX0 (dCons (dVar 1) (dCons (dLst false (dCons (dC (.str [])) (dCons (dC (.str [106, 117, 110, 107])) (dCons (dC (.str [101, 110, 100, 32, 102, 97, 99, 116])) (dCons (dC (.str [102, 97, 99, 116])) (dCons (dC (.str [111, 102, 32, 49])) (dCons (dC (.str [98, 121, 32, 49])) (dCons (dC (.str [102, 97, 99, 116, 32, 107, 101, 112, 116])) (dCons (dC (.str [102, 97, 99, 116, 32, 107, 101, 112, 116, 32, 110, 111, 119])) (dCons (dC (.str [126, 32, 126])) (dCons (dC (.str [102, 97, 99, 116, 32, 32, 107, 101, 112, 116])) (dCons (dC (.str [9])) dNil)))))))))))) dNil))) dNil)))))))) (dSq (dAs (dBM "str" dJoin (dC (.str [])) (dCons (dLc false (diSeq (dVar 2)) (dgN 9) dYes (dOp (dAdd false) (dVar 9) (dC (.str [10]))) [9]) dNil)) (dgN 7)) (dSq (dIfS (dTest (dOp dEq (dCall sp_law_pick [] dX0 (dCons (dVar 1) (dCons (dC (.int 3)) dNil))) (dC (.int 0)))) (dSq (dAs (dSl false (dVar 7) dNoP (dPart (dOp dSub (dCB dLen (dCons (dVar 7) dNil)) (dC (.int 1))))) (dgN 7)) (dAs (dSl true (dBM "str" (dSplit false) (dVar 7) (dCons (dC (.str [10])) dNil)) dNoP (dPart (dUn dNeg (dC (.int 1))))) (dgN 2))) dNx) (dSq (dAs (dCall sp_facts_from [] dX0 (dCons (dVar 7) dNil)) (dgN 6)) (dSq (dIfS (dOr (dNot (dTru (dCB dIsi (dCons (dVar 6) (dCons (dC (.ty "list")) dNil))))) (dNot (dTru (dCall sp_law_same [] dX0 (dCons (dVar 6) (dCons (dCall sp_law_k04_due [] dX0 (dCons (dVar 2) dNil)) dNil)))))) (dRt (dC (.bl false))) dNx) (dSq (dEx (dBM "list" dAppend (dVar 6) (dCons (dC .non) dNil))) (dRt (dAndV (dCall sp_law_same [] dX0 (dCons (dCall sp_facts_from [] dX0 (dCons (dVar 7) dNil)) (dCons (dCall sp_law_k04_due [] dX0 (dCons (dVar 2) dNil)) dNil))) (dOp dEq (dCall sp_facts_from [] dX0 (dCons (dC (.str [])) dNil)) (dLst false dNil))))))))))))
theorem strsD_len (L : List (List Nat)) : (strsD L).length = L.length := by unfold strsD; rw [List.length_map]
theorem strsD_app (a b : List (List Nat)) : strsD a ++ strsD b = strsD (a ++ b) := by unfold strsD; rw [List.map_append]
theorem strsD_at {L : List (List Nat)} {j : Nat} (h : j < L.length) : atI (strsD L) (j : Int) = some (.str L[j]) := atI_str h
theorem strsD_last {L : List (List Nat)} {z : List Nat} (h : L.getLast? = some z) : atI (strsD L) (-1) = some (.str z) := atI_last (by unfold strsD; rw [List.getLast?_map, h]; rfl)
theorem strsD_strs (L : List (List Nat)) : strsOf (strsD L) = some L := strsOf_map L
theorem pre_starts {p l : List Nat} (hp : p ≠ []) : Txt.startswith (mkS l) (mkS p) = decide (l.take p.length = p) := starts_pre hp
theorem sem_run_of (ds : List D) (M : Mu) (Q : DK) (E : DXK) (h : sp_run_of ds M Q E) : t_run_of (dEnd Q) (dstart 4 ds) M := by
  obtain ⟨L, at', w, rfl, hB, hw, h⟩ := h
  unfold t_run_of
  walk_at "go"
  refine r_newT fun p hp => ?_
  walk_at "st"
  refine r_while (fun m δ M' => ∃ (j : Nat) (acc : List (List Nat)), m = L.length - j ∧ acc ++ run (w ++ [32]) (L.drop j) = run (w ++ [32]) (L.drop at') ∧ acc.length ≤ j ∧ M' = mset M p (.lst (strsD acc)) ∧ δ = [some (.lst (strsD L)), some (.int (j : Int)), some (.str w), some (.ref p)]) _ ⟨at', [], rfl, rfl, by simp, rfl, rfl⟩ ?_
  rintro m δ M' ⟨j, acc, rfl, e, hac, rfl, rfl⟩
  have stop : run (w ++ [32]) (L.drop j) = [] → dRt (dVar 3) { nx := fun x M => Wq Q D.non M, rt := Wq Q } [some (.lst (strsD L)), some (.int (j : Int)), some (.str w), some (.ref p)] (mset M p (.lst (strsD acc))) := fun z => by
    rw [z, List.append_nil] at e
    subst e
    walk_at "st"
    exact Wq.frz mset_same (sub_new hp) hp h
  refine r_and ?_
  walk_at "st"
  rw [strsD_len]
  refine ⟨fun z => ?_, fun z => ⟨fun z => Bool.noConfusion z, fun _ => ?_⟩⟩
  · have z := of_decide_eq_true z
    have hj : j < L.length := by omega
    have hlj := hB.ln _ (List.getElem_mem hj)
    refine r_and ?_
    walk_at "st"
    refine r_idxL (strsD_at hj) ?_
    walk_at "st"
    refine ⟨sz1000 (by simp; omega), ?_⟩
    walk_at "st"
    rw [pre_starts (by simp)]
    have er := run_drop (p := w ++ [32]) hj
    refine ⟨fun z2 => ?_, fun z2 => ⟨fun z => Bool.noConfusion z, fun _ => ?_⟩⟩
    · have z2 := of_decide_eq_true z2
      walk_at "st"
      refine r_idxL (strsD_at hj) ?_
      walk_at "st"
      refine ⟨sz1000 (by omega), ?_⟩
      walk_at "st"
      refine ⟨sz1000 (by omega), ?_⟩
      walk_at "st"
      refine ⟨fun z3 => ?_, fun z3 => ?_⟩
      · have z3 := of_decide_eq_true z3
        have hp1 : pfx (w ++ [32]) L[j] = true := by
          unfold pfx
          rw [decide_eq_true z2, decide_eq_true (by simp; omega)]
          rfl
        rw [if_pos hp1] at er
        walk_at "st"
        refine r_tyR mset_same ?_
        walk_at "st"
        refine r_idxL (strsD_at hj) ?_
        walk_at "st"
        refine ⟨sz1000 (by omega), ?_⟩
        walk_at "st"
        refine ⟨sz1000 (by omega), ?_⟩
        rw [show (w.length : Int) + 1 = ((w.length + 1 : Nat) : Int) by omega, cutL_nat_none]
        walk_at "st"
        refine r_append mset_same (szlt (by rw [strsD_len]; have := hB.len; omega)) ?_
        rw [mset_mset]
        walk_at "st"
        refine ⟨L.length - (j + 1), by omega, j + 1, acc ++ [L[j].drop (w.length + 1)], rfl, ?_, by simp; omega, by rw [← strsD_app]; rfl, rfl⟩
        rw [← e, er]
        simp
      · have z3 := of_decide_eq_false z3
        have hp1 : pfx (w ++ [32]) L[j] = false := by
          have hn : ¬ (w ++ [32]).length < L[j].length := by simp; omega
          unfold pfx
          rw [decide_eq_false hn, Bool.and_false]
        rw [if_neg (by rw [hp1]; decide)] at er
        exact stop er
    · have z2 := of_decide_eq_false z2
      have hp1 : pfx (w ++ [32]) L[j] = false := by
        unfold pfx
        rw [decide_eq_false z2, Bool.false_and]
      rw [if_neg (by rw [hp1]; decide)] at er
      exact stop er
  · have z := of_decide_eq_false z
    exact stop (run_end (by omega))
end K04

namespace K04
open PySem PySem.Spec PyProof.Rows L2 TL DL
local macro_rules | `(tactic| walk_at "st1") => `(tactic| first
  | with_reducible refine r_sq ?_ | with_reducible refine r_nx ?_ | with_reducible refine r_rt ?_ | with_reducible refine r_rtN ?_ | with_reducible refine r_ex ?_ | with_reducible refine r_as ?_ | with_reducible refine r_bk ?_ | with_reducible refine r_ct ?_
  | ((with_reducible apply r_var); exact rfl) | with_reducible refine r_c ?_ | with_reducible refine r_op ?_ | with_reducible refine r_un ?_ | with_reducible refine r_neg ?_
  | ((with_reducible refine r_dgN rfl ?_); (try simp only [List.set]))
  | with_reducible refine r_dgSub ?_ | with_reducible refine r_dgT rfl ?_ | with_reducible refine r_dga0 ?_ | with_reducible refine r_dga1 ?_ | with_reducible refine r_auS ?_ | ((with_reducible apply r_au); exact rfl)
  | with_reducible refine r_par ?_ | ((with_reducible refine r_kPar rfl ?_); (try simp only [List.set]))
  | with_reducible refine r_addI ?_ | with_reducible refine r_addS ?_ | with_reducible refine r_addT ?_ | with_reducible refine r_addL ?_ | with_reducible refine r_subI ?_ | with_reducible refine r_mulI ?_ | with_reducible refine r_fdiv ?_ | with_reducible refine r_mod ?_ | with_reducible refine r_pow ?_ | with_reducible refine r_shl ?_
  | with_reducible refine r_eqI ?_ | with_reducible refine r_eqS ?_ | with_reducible refine r_eqB ?_ | with_reducible refine r_neI ?_ | with_reducible refine r_neS ?_ | with_reducible refine r_neB ?_ | with_reducible refine r_ltI ?_ | with_reducible refine r_gtI ?_ | with_reducible refine r_leI ?_ | with_reducible refine r_geI ?_ | with_reducible refine r_isN ?_ | with_reducible refine r_notN ?_ | with_reducible refine r_inS ?_
  | with_reducible refine r_test ?_ | with_reducible refine r_kB ?_ | with_reducible refine r_tru ?_ | with_reducible refine r_kTb ?_ | with_reducible refine r_kTi ?_ | with_reducible refine r_kTn ?_ | with_reducible refine r_kTl ?_ | with_reducible refine r_kTt ?_ | with_reducible refine r_kTs ?_ | with_reducible refine r_not ?_ | with_reducible refine r_notV ?_ | with_reducible refine r_yes ?_
  | with_reducible refine r_nil ?_ | with_reducible refine r_cons ?_ | with_reducible refine r_tup ?_ | with_reducible refine r_lst ?_ | with_reducible refine r_newF ?_ | with_reducible refine r_cb ?_
  | with_reducible refine r_lenS ?_ | with_reducible refine r_lenL ?_ | with_reducible refine r_lenT ?_ | with_reducible refine r_lenSrc ?_ | with_reducible refine r_abs ?_ | with_reducible refine r_min2 ?_ | with_reducible refine r_max2 ?_ | with_reducible refine r_intI ?_ | with_reducible refine r_str ?_ | with_reducible refine r_tupT ?_ | with_reducible refine r_tupL ?_ | with_reducible refine r_divmod ?_
  | with_reducible refine r_sl ?_ | with_reducible refine r_noP ?_ | with_reducible refine r_part ?_ | with_reducible refine r_kP ?_ | with_reducible refine r_slS ?_ | with_reducible refine r_slT ?_ | with_reducible refine r_slL ?_ | with_reducible refine r_slSrc ?_
  | with_reducible refine r_bm ?_ | with_reducible refine r_tyS ?_ | with_reducible refine r_starts ?_ | with_reducible refine r_count ?_ | with_reducible refine r_call ?_ | with_reducible refine r_for ?_ | with_reducible refine r_seq ?_ | with_reducible refine r_kIt ?_ | with_reducible refine r_kIl ?_ | with_reducible refine r_kIs ?_ | with_reducible refine r_kIsrc ?_ | with_reducible refine r_r1 ?_ | with_reducible refine r_r2 ?_ | with_reducible refine r_lc ?_
  | with_reducible refine lit0 ?_ | with_reducible refine lit1 ?_ | with_reducible refine lit2 ?_ | with_reducible refine lit3 ?_ | with_reducible refine lit4 ?_ | with_reducible refine lit5 ?_ | with_reducible refine lit6 ?_ | with_reducible refine lit7 ?_
  | fail)
local macro_rules | `(tactic| walk_at "st") => `(tactic| repeat (first | walk_at "st1" | dsimp only))
local macro_rules | `(tactic| walk_at "go") => `(tactic| (simp only [dstart, dEnd, List.map_cons, List.map_nil, List.length_cons, List.length_nil, Nat.reduceAdd, Nat.reduceSub, Nat.zero_add, List.replicate, List.cons_append, List.nil_append]; walk_at "st"))

/-- the law's and the program's look at the last line agree -/
theorem pair_head (z : List Nat) (h : (spl [32] 0 [] z).length = 3) : decide (z.take 5 = [112, 97, 105, 114, 32]) = decide ((spl [32] 0 [] z).head? = some PAIRp) := by
  rcases spl_first (s := 32) z [] with ⟨w, e, e2, e3⟩ | ⟨w, r, e, e2, e3⟩
  · rw [e] at h; simp at h
  · rw [e3, List.nil_append, List.head?_cons, Bool.eq_iff_iff, decide_eq_true_iff, decide_eq_true_iff, e]
    constructor
    · intro hz
      -- the fifth sign is the first blank
      have hw : ∀ (w' : List Nat), 32 ∉ w' → ∀ r, (w' ++ 32 :: r).take 5 = [112, 97, 105, 114, 32] → w' = PAIRp := by
        intro w' hw' r ht
        match w', hw', ht with
        | [], _, ht => simp at ht
        | [a], _, ht => simp at ht
        | [a, b], _, ht => simp at ht
        | [a, b, c], _, ht => simp at ht
        | [a, b, c, d], _, ht =>
          simp at ht
          obtain ⟨rfl, rfl, rfl, rfl⟩ := ht
          rfl
        | a :: b :: c :: d :: f :: w', hw', ht =>
          simp at ht
          obtain ⟨_, _, _, _, rfl⟩ := ht
          simp at hw'
      rw [hw w e2 r hz]
    · intro hz
      have hz := Option.some.inj hz
      subst hz
      rfl
theorem inT_f {a : Prop} [Decidable a] (h : (if true = true then !decide a else decide a) = false) : a := by
  by_cases h2 : a
  · exact h2
  · simp [h2] at h
theorem sem_parts_right (ds : List D) (M : Mu) (Q : DK) (E : DXK) (h : sp_parts_right ds M Q E) : t_parts_right (dEnd Q) (dstart 4 ds) M := by
  obtain ⟨w, q, p, rfl, hw, hq, h⟩ := h
  unfold t_parts_right
  walk_at "go"
  refine r_if ?_
  walk_at "st"
  refine r_inTs [KEPT, BROKEN] ?_
  walk_at "st"
  refine ⟨fun z => ?_, fun z => ?_⟩
  · have z : w ∈ [KEPT, BROKEN] := by simpa using z
    have e : right w q p = (decide (0 < q.length) && decide (0 < p.length)) := if_pos z
    rw [e] at h
    walk_at "st"
    refine r_andV ?_
    walk_at "st"
    rw [strsD_len]
    refine ⟨fun z2 => ?_, fun z2 => ?_⟩
    · walk_at "st"
      rw [strsD_len]
      refine Wq.now ?_
      have : decide (0 < q.length) = true := by simpa using z2
      rw [this, Bool.true_and] at h
      have e3 : decide ((0 : Int) < (p.length : Int)) = decide (0 < p.length) := by rw [Bool.eq_iff_iff]; simp
      rw [e3]
      exact h
    · refine Wq.now ?_
      have : decide (0 < q.length) = false := by simpa using z2
      rw [this, Bool.false_and] at h
      exact h
  have z1 : w ∉ [KEPT, BROKEN] := by simpa using z
  clear z
  walk_at "st"
  refine r_if ?_
  walk_at "st"
  refine ⟨fun z => ?_, fun z => ?_⟩
  · have z := of_decide_eq_true z
    have e : right w q p = (decide (q.length = 2) && decide (p.length = 1)) := (if_neg z1).trans (if_pos z)
    rw [e] at h
    walk_at "st"
    refine r_andV ?_
    walk_at "st"
    rw [strsD_len]
    refine ⟨fun z2 => ?_, fun z2 => ?_⟩
    · walk_at "st"
      rw [strsD_len]
      refine Wq.now ?_
      have : decide (q.length = 2) = true := by rw [decide_eq_true_iff]; have := of_decide_eq_true z2; omega
      rw [this, Bool.true_and] at h
      have e3 : decide ((p.length : Int) = 1) = decide (p.length = 1) := by rw [Bool.eq_iff_iff, decide_eq_true_iff, decide_eq_true_iff]; omega
      rw [e3]
      exact h
    · refine Wq.now ?_
      have : decide (q.length = 2) = false := by rw [decide_eq_false_iff_not]; have := of_decide_eq_false z2; omega
      rw [this, Bool.false_and] at h
      exact h
  have z2 := of_decide_eq_false z
  clear z
  have hw2 : w ∈ [SAME, UNLIKE] := by
    simp at hw z1 z2 ⊢
    rcases hw with h | h | h | h | h
    · exact absurd h z1.1
    · exact absurd h z1.2
    · exact absurd h z2
    · exact .inl h
    · exact .inr h
  have e : right w q p = match q.getLast? with
    | none => false
    | some z => lastR w z q p := ((if_neg z1).trans (if_neg z2)).trans (if_neg (not_not_intro hw2))
  rw [e] at h
  clear e
  walk_at "st"
  refine r_if (r_or ?_)
  walk_at "st"
  rw [strsD_len]
  have no : ∀ (P : Prop), (match q.getLast? with
    | none => false
    | some z => lastR w z q p) = false → Wq Q (.bl false) M := fun _ e => by
    rw [e] at h
    exact Wq.now h
  refine ⟨fun z => ?_, fun z => ?_⟩
  · have z := of_decide_eq_true z
    refine ⟨fun _ => ?_, fun z => Bool.noConfusion z⟩
    walk_at "st"
    refine no True ?_
    cases q.getLast? with
    | none => rfl
    | some zz => exact if_pos (.inl (by omega))
  have z3 := of_decide_eq_false z
  clear z
  obtain ⟨z, hz⟩ : ∃ z, q.getLast? = some z := by
    cases hq0 : q with
    | nil => rw [hq0] at z3; simp at z3
    | cons a b => exact ⟨_, List.getLast?_cons⟩
  rw [hz] at h no
  have hzl := hq z (List.mem_of_getLast? hz)
  refine r_or ?_
  walk_at "st"
  refine r_idxL (strsD_last hz) ?_
  walk_at "st"
  refine r_split (by decide) (by decide) (sz1000 (by omega)) ?_
  walk_at "st"
  rw [List.length_map]
  refine ⟨fun z4 => ?_, fun z4 => ?_⟩
  · refine ⟨fun _ => ?_, fun z => Bool.noConfusion z⟩
    walk_at "st"
    refine no True (if_pos (.inr (.inl ?_)))
    intro h3
    rw [h3] at z4
    simp at z4
  have z4 : (spl [32] 0 [] z).length = 3 := by
    simp at z4
    omega
  walk_at "st"
  refine r_idxL (strsD_last hz) ?_
  walk_at "st"
  rw [pre_starts (by simp)]
  have hph := pair_head z z4
  refine ⟨fun z5 => ?_, fun z5 => ?_⟩
  · walk_at "st"
    refine no True (if_pos (.inr (.inr ?_)))
    have : decide (z.take 5 = [112, 97, 105, 114, 32]) = false := by simpa using z5
    rw [hph] at this
    exact of_decide_eq_false this
  have z5 : (spl [32] 0 [] z).head? = some PAIRp := by
    have : decide (z.take 5 = [112, 97, 105, 114, 32]) = true := by simpa using z5
    rw [hph] at this
    exact of_decide_eq_true this
  have e : lastR w z q p = if w = UNLIKE then decide (p.length = 1) else p.all fun l => decide (l.take 4 = ONEp) || decide (l.take 6 = OTHp) := if_neg (by
    rintro (h | h | h)
    · omega
    · exact h z4
    · exact h z5)
  have h : Q (.bl (lastR w z q p)) M := h
  rw [e] at h
  walk_at "st"
  refine r_if ?_
  walk_at "st"
  refine ⟨fun z6 => ?_, fun z6 => ?_⟩
  · rw [if_pos (of_decide_eq_true z6)] at h
    walk_at "st"
    refine Wq.now ?_
    rw [strsD_len]
    have e3 : decide ((p.length : Int) = 1) = decide (p.length = 1) := by rw [Bool.eq_iff_iff, decide_eq_true_iff, decide_eq_true_iff]; omega
    rw [e3]
    exact h
  rw [if_neg (of_decide_eq_false z6)] at h
  walk_at "st"
  refine for_inv (fun xs δ M' => M' = M ∧ ∃ (s : Option D) (l r : List (List Nat)), p = l ++ r ∧ xs = strsD r ∧ l.all (fun l => decide (l.take 4 = ONEp) || decide (l.take 6 = OTHp)) = true ∧ δ = [some (.str w), some (.lst (strsD q)), some (.lst (strsD p)), s]) (fun _ _ _ _ => trivial) ?_ ?_ _ _ _ ⟨rfl, none, [], p, rfl, rfl, rfl, rfl⟩
  · rintro x xs δ M' N ⟨rfl, s, l, r, e1, e2, e3, rfl⟩ hN
    cases r with
    | nil => cases e2
    | cons c r =>
      have e2 : x :: xs = .str c :: strsD r := e2
      obtain ⟨rfl, rfl⟩ := List.cons.inj e2
      walk_at "st"
      refine r_if (r_and ?_)
      walk_at "st"
      rw [pre_starts (by simp)]
      have good : (decide (c.take 4 = ONEp) || decide (c.take 6 = OTHp)) = true → N [some (.str w), some (.lst (strsD q)), some (.lst (strsD p)), some (.str c)] M' := fun hc => by
        refine hN _ _ ⟨rfl, _, l ++ [c], r, by rw [e1]; simp, rfl, ?_, rfl⟩
        rw [List.all_append, e3, Bool.true_and, List.all_cons, hc]
        rfl
      refine ⟨fun z7 => ?_, fun z7 => ?_⟩
      · walk_at "st"
        rw [pre_starts (by simp)]
        refine ⟨fun z8 => ?_, fun z8 => ?_⟩
        · walk_at "st"
          have : (p.all fun l => decide (l.take 4 = ONEp) || decide (l.take 6 = OTHp)) = false := by
            rw [List.all_eq_false]
            refine ⟨c, by rw [e1]; simp, ?_⟩
            simp at z7 z8 ⊢
            exact ⟨z7, z8⟩
          rw [this] at h
          exact Wq.now h
        · walk_at "st"
          refine good ?_
          simp at z8
          simp [z8]
      · refine ⟨fun z => Bool.noConfusion z, fun _ => ?_⟩
        walk_at "st"
        refine good ?_
        simp at z7
        simp [z7]
  · rintro δ M' ⟨rfl, s, l, r, e1, e2, e3, rfl⟩
    cases r with
    | cons c r => cases e2
    | nil =>
      rw [List.append_nil] at e1
      subst e1
      walk_at "st"
      rw [e3] at h
      exact Wq.now h
theorem sem_fact_at (ds : List D) (M : Mu) (Q : DK) (E : DXK) (h : sp_fact_at ds M Q E) : t_fact_at (dEnd Q) (dstart 6 ds) M := by
  obtain ⟨L, at', hat, rfl, hB, h⟩ := h
  have hll := hB.ln _ (List.getElem_mem hat)
  have hLl := hB.len
  unfold t_fact_at
  walk_at "go"
  refine r_idxL (strsD_at hat) ?_
  walk_at "st"
  refine r_split (by decide) (by decide) (sz1000 (by omega)) ?_
  walk_at "st"
  unfold oneD one at h
  obtain ⟨ws, hws⟩ : ∃ ws, ws = spl [32] 0 [] L[at'] := ⟨_, rfl⟩
  rw [← hws] at h ⊢
  refine r_if (r_or ?_)
  walk_at "st"
  rw [List.length_map]
  refine ⟨fun z => ?_, fun z => ?_⟩
  · refine ⟨fun _ => ?_, fun z => Bool.noConfusion z⟩
    walk_at "st"
    have hne : ws.length ≠ 2 := fun h2 => by rw [h2] at z; simp at z
    match ws, hne, h with
    | [], _, h => exact Wq.now h
    | [a], _, h => exact Wq.now h
    | [a, b], hne, h => exact absurd rfl hne
    | a :: b :: c :: d, _, h => exact Wq.now h
  have h2 : ws.length = 2 := by
    simp at z
    omega
  clear z
  obtain ⟨w0, w1, rfl⟩ : ∃ w0 w1, ws = [w0, w1] := by
    match ws, h2 with
    | [a, b], _ => exact ⟨a, b, rfl⟩
  have h : Q (match (if w0 = FACTp ∧ ((L.drop (at' + 1)).drop ((run OFp (L.drop (at' + 1))).length + (run BYp ((L.drop (at' + 1)).drop (run OFp (L.drop (at' + 1))).length)).length)).head? = some ENDp ∧ right w1 (run OFp (L.drop (at' + 1))) (run BYp ((L.drop (at' + 1)).drop (run OFp (L.drop (at' + 1))).length)) = true then some (w1, run OFp (L.drop (at' + 1)), run BYp ((L.drop (at' + 1)).drop (run OFp (L.drop (at' + 1))).length)) else none) with
    | some (w, q, p) => D.tup [factD w q p, .int ((at' + 1 + q.length + p.length + 1 : Nat) : Int)]
    | none => .non) M := h
  obtain ⟨q, hq⟩ : ∃ q, q = run OFp (L.drop (at' + 1)) := ⟨_, rfl⟩
  rw [← hq] at h
  obtain ⟨p, hp⟩ : ∃ p, p = run BYp ((L.drop (at' + 1)).drop q.length) := ⟨_, rfl⟩
  rw [← hp] at h
  have hql : q.length ≤ L.length := by rw [hq]; exact Nat.le_trans (run_len _ _) (by rw [List.length_drop]; omega)
  have hpl : p.length ≤ L.length := by rw [hp]; exact Nat.le_trans (run_len _ _) (by rw [List.length_drop, List.length_drop]; omega)
  have no : ¬ (w0 = FACTp ∧ ((L.drop (at' + 1)).drop (q.length + p.length)).head? = some ENDp ∧ right w1 q p = true) → Wq Q .non M := fun hn => by
    rw [if_neg hn] at h
    exact Wq.now h
  refine r_or ?_
  walk_at "st"
  refine r_idxL atI_zero ?_
  walk_at "st"
  refine ⟨fun z => ?_, fun z => ?_⟩
  · refine ⟨fun _ => ?_, fun z => Bool.noConfusion z⟩
    walk_at "st"
    refine no fun hh => ?_
    rw [hh.1] at z
    simp at z
  have e0 : w0 = FACTp := by simpa using z
  clear z
  walk_at "st"
  refine r_idxL atI_one ?_
  walk_at "st"
  refine r_inTs [KEPT, BROKEN, ORDER, SAME, UNLIKE] ?_
  walk_at "st"
  refine ⟨fun z => ?_, fun z => ?_⟩
  · walk_at "st"
    refine no fun hh => ?_
    have hn : w1 ∉ [KEPT, BROKEN, ORDER, SAME, UNLIKE] := by simpa using z
    have : right w1 q p = false := by
      have n1 : w1 ∉ [KEPT, BROKEN] := fun hm => hn (by simp at hm ⊢; rcases hm with h | h <;> simp [h])
      have n2 : w1 ≠ ORDER := fun hm => hn (by simp [hm])
      have n3 : w1 ∉ [SAME, UNLIKE] := fun hm => hn (by simp at hm ⊢; rcases hm with h | h <;> simp [h])
      exact ((if_neg n1).trans (if_neg n2)).trans (if_pos n3)
    rw [this] at hh
    exact Bool.noConfusion hh.2.2
  have hk : w1 ∈ [KEPT, BROKEN, ORDER, SAME, UNLIKE] := inT_f z
  clear z
  walk_at "st"
  refine ⟨L, at' + 1, [111, 102], rfl, hB, by decide, ?_⟩
  rw [show ([111, 102] : List Nat) ++ [32] = OFp from rfl, ← hq]
  walk_at "st"
  rw [strsD_len]
  have hdd : (L.drop (at' + 1)).drop q.length = L.drop (at' + 1 + q.length) := by rw [List.drop_drop]
  have hddd : (L.drop (at' + 1)).drop (q.length + p.length) = L.drop (at' + 1 + q.length + p.length) := by rw [List.drop_drop]; congr 1; omega
  refine ⟨L, at' + 1 + q.length, [98, 121], by congr 2, hB, by decide, ?_⟩
  rw [show ([98, 121] : List Nat) ++ [32] = BYp from rfl, ← hdd, ← hp]
  walk_at "st"
  rw [strsD_len]
  walk_at "st"
  rw [strsD_len]
  refine r_if (r_or ?_)
  walk_at "st"
  rw [strsD_len]
  rw [hddd] at h no
  refine ⟨fun z => ?_, fun z => ?_⟩
  · refine ⟨fun _ => ?_, fun z => Bool.noConfusion z⟩
    walk_at "st"
    refine no fun hh => ?_
    have z := of_decide_eq_true z
    rw [List.drop_of_length_le (by omega)] at hh
    cases hh.2.1
  have hend : at' + 1 + q.length + p.length < L.length := by
    have := of_decide_eq_false z
    omega
  clear z
  have ei : (at' : Int) + 1 + (q.length : Int) + (p.length : Int) = ((at' + 1 + q.length + p.length : Nat) : Int) := by omega
  rw [ei]
  refine r_or ?_
  walk_at "st"
  refine r_idxL (strsD_at hend) ?_
  walk_at "st"
  have hhd : (L.drop (at' + 1 + q.length + p.length)).head? = some (L[at' + 1 + q.length + p.length]'hend) := by rw [List.drop_eq_getElem_cons hend]; rfl
  rw [hhd] at h no
  refine ⟨fun z => ?_, fun z => ?_⟩
  · refine ⟨fun _ => ?_, fun z => Bool.noConfusion z⟩
    walk_at "st"
    refine no fun hh => ?_
    rw [Option.some.inj hh.2.1] at z
    simp at z
  have e3 : L[at' + 1 + q.length + p.length]'hend = ENDp := by simpa using z
  clear z
  walk_at "st"
  refine r_idxL atI_one ?_
  walk_at "st"
  refine ⟨w1, q, p, rfl, hk, ?_, ?_⟩
  · rw [hq]
    exact run_bd fun l hl => hB.ln l (List.mem_of_mem_drop hl)
  walk_at "st"
  refine ⟨fun z => ?_, fun z => ?_⟩
  · walk_at "st"
    refine no fun hh => ?_
    rw [hh.2.2] at z
    simp at z
  have e4 : right w1 q p = true := by simpa using z
  rw [if_pos ⟨e0, by rw [e3], e4⟩] at h
  walk_at "st"
  refine r_idxL atI_one ?_
  walk_at "st"
  refine Wq.now ?_
  have h : Q (.tup [factD w1 q p, .int ((at' + 1 + q.length + p.length + 1 : Nat) : Int)]) M := h
  rw [show ((at' + 1 + q.length + p.length + 1 : Nat) : Int) = ((at' + 1 + q.length + p.length : Nat) : Int) + 1 by omega] at h
  exact h
theorem sem_facts_from (ds : List D) (M : Mu) (Q : DK) (E : DXK) (h : sp_facts_from ds M Q E) : t_facts_from (dEnd Q) (dstart 5 ds) M := by
  obtain ⟨text, rfl, hl, h⟩ := h
  unfold t_facts_from
  walk_at "go"
  refine r_split (by decide) (by decide) (sz1000 (by omega)) ?_
  walk_at "st"
  rw [cutL_none_neg1, ← List.map_dropLast]
  obtain ⟨b1, b2⟩ := spl_bd [10] text 0 []
  obtain ⟨L, hL⟩ : ∃ L, L = (spl [10] 0 [] text).dropLast := ⟨_, rfl⟩
  rw [← hL] at h
  have hB : BdL L := ⟨by rw [hL, List.length_dropLast]; omega, fun l hl2 => by
    rw [hL] at hl2
    have := b1 l (List.dropLast_subset _ hl2)
    simp at this
    omega⟩
  rw [← hL, show List.map D.str L = strsD L from rfl]
  refine r_newT fun p hp => ?_
  walk_at "st"
  refine r_while (fun m δ M' => ∃ (j : Nat) (acc : List D) (s4 : Option D), m = L.length - j ∧ acc ++ G (L.drop j) = G L ∧ acc.length ≤ j ∧ M' = mset M p (.lst acc) ∧ δ = [some (.str text), some (.lst (strsD L)), some (.ref p), some (.int (j : Int)), s4]) _ ⟨0, [], none, rfl, rfl, by simp, rfl, rfl⟩ ?_
  rintro m δ M' ⟨j, acc, s4, rfl, e, hac, rfl, rfl⟩
  walk_at "st"
  rw [strsD_len]
  refine ⟨fun z => ?_, fun z => ?_⟩
  · have hj : j < L.length := by have := of_decide_eq_true z; omega
    have hj1 : 0 ≤ (j : Int) := by omega
    rw [List.drop_eq_getElem_cons hj, G_cons] at e
    walk_at "st"
    refine ⟨L, j, hj, rfl, hB, ?_⟩
    unfold oneD
    walk_at "st"
    refine r_if ?_
    walk_at "st"
    cases ho : one L[j] (L.drop (j + 1)) with
    | none =>
      rw [ho] at e
      refine ⟨fun _ => ?_, fun z => Bool.noConfusion z⟩
      walk_at "st1"
      walk_at "st"
      exact ⟨L.length - (j + 1), by omega, j + 1, acc, _, rfl, e, by omega, rfl, rfl⟩
    | some t =>
      obtain ⟨w, q, p'⟩ := t
      rw [ho] at e
      refine ⟨fun z => Bool.noConfusion z, fun _ => ?_⟩
      walk_at "st"
      refine r_tyR mset_same ?_
      walk_at "st"
      refine r_idxT atI_zero ?_
      walk_at "st"
      refine r_append mset_same (szlt (by have := hB.len; omega)) ?_
      rw [mset_mset]
      walk_at "st"
      refine r_idxT atI_one ?_
      walk_at "st"
      refine ⟨L.length - (j + 1 + q.length + p'.length + 1), by omega, j + 1 + q.length + p'.length + 1, acc ++ [factD w q p'], _, rfl, ?_, by simp; omega, rfl, rfl⟩
      have e : acc ++ (factD w q p' :: G ((L.drop (j + 1)).drop (q.length + p'.length + 1))) = G L := e
      rw [List.drop_drop, show j + 1 + (q.length + p'.length + 1) = j + 1 + q.length + p'.length + 1 by omega] at e
      rw [← e, List.append_assoc]
      rfl
  · have hj : L.length ≤ j := by have := of_decide_eq_false z; omega
    rw [List.drop_of_length_le hj, G_nil, List.append_nil] at e
    subst e
    walk_at "st"
    rcases h with h | h
    · exact Wq.now (h p hp)
    · exact Wq.frz mset_same (sub_new hp) hp h
end K04

namespace K04
open PySem PySem.Spec PyProof.Rows L2 TL DL
local macro_rules | `(tactic| walk_at "st1") => `(tactic| first
  | with_reducible refine r_sq ?_ | with_reducible refine r_nx ?_ | with_reducible refine r_rt ?_ | with_reducible refine r_rtN ?_ | with_reducible refine r_ex ?_ | with_reducible refine r_as ?_ | with_reducible refine r_bk ?_ | with_reducible refine r_ct ?_
  | ((with_reducible apply r_var); exact rfl) | with_reducible refine r_c ?_ | with_reducible refine r_op ?_ | with_reducible refine r_un ?_ | with_reducible refine r_neg ?_
  | ((with_reducible refine r_dgN rfl ?_); (try simp only [List.set]))
  | with_reducible refine r_dgSub ?_ | with_reducible refine r_dgT rfl ?_ | with_reducible refine r_dga0 ?_ | with_reducible refine r_dga1 ?_ | with_reducible refine r_auS ?_ | ((with_reducible apply r_au); exact rfl)
  | with_reducible refine r_par ?_ | ((with_reducible refine r_kPar rfl ?_); (try simp only [List.set]))
  | with_reducible refine r_addI ?_ | with_reducible refine r_addS ?_ | with_reducible refine r_addT ?_ | with_reducible refine r_addL ?_ | with_reducible refine r_subI ?_ | with_reducible refine r_mulI ?_ | with_reducible refine r_fdiv ?_ | with_reducible refine r_mod ?_ | with_reducible refine r_pow ?_ | with_reducible refine r_shl ?_
  | with_reducible refine r_eqI ?_ | with_reducible refine r_eqS ?_ | with_reducible refine r_eqB ?_ | with_reducible refine r_neI ?_ | with_reducible refine r_neS ?_ | with_reducible refine r_neB ?_ | with_reducible refine r_ltI ?_ | with_reducible refine r_gtI ?_ | with_reducible refine r_leI ?_ | with_reducible refine r_geI ?_ | with_reducible refine r_isN ?_ | with_reducible refine r_notN ?_ | with_reducible refine r_inS ?_
  | with_reducible refine r_test ?_ | with_reducible refine r_kB ?_ | with_reducible refine r_tru ?_ | with_reducible refine r_kTb ?_ | with_reducible refine r_kTi ?_ | with_reducible refine r_kTn ?_ | with_reducible refine r_kTl ?_ | with_reducible refine r_kTt ?_ | with_reducible refine r_kTs ?_ | with_reducible refine r_not ?_ | with_reducible refine r_notV ?_ | with_reducible refine r_yes ?_
  | with_reducible refine r_nil ?_ | with_reducible refine r_cons ?_ | with_reducible refine r_tup ?_ | with_reducible refine r_lst ?_ | with_reducible refine r_newF ?_ | with_reducible refine r_cb ?_
  | with_reducible refine r_lenS ?_ | with_reducible refine r_lenL ?_ | with_reducible refine r_lenT ?_ | with_reducible refine r_lenSrc ?_ | with_reducible refine r_abs ?_ | with_reducible refine r_min2 ?_ | with_reducible refine r_max2 ?_ | with_reducible refine r_intI ?_ | with_reducible refine r_str ?_ | with_reducible refine r_tupT ?_ | with_reducible refine r_tupL ?_ | with_reducible refine r_divmod ?_
  | with_reducible refine r_sl ?_ | with_reducible refine r_noP ?_ | with_reducible refine r_part ?_ | with_reducible refine r_kP ?_ | with_reducible refine r_slS ?_ | with_reducible refine r_slT ?_ | with_reducible refine r_slL ?_ | with_reducible refine r_slSrc ?_
  | with_reducible refine r_bm ?_ | with_reducible refine r_tyS ?_ | with_reducible refine r_starts ?_ | with_reducible refine r_count ?_ | with_reducible refine r_call ?_ | with_reducible refine r_for ?_ | with_reducible refine r_seq ?_ | with_reducible refine r_kIt ?_ | with_reducible refine r_kIl ?_ | with_reducible refine r_kIs ?_ | with_reducible refine r_kIsrc ?_ | with_reducible refine r_r1 ?_ | with_reducible refine r_r2 ?_ | with_reducible refine r_lc ?_
  | with_reducible refine lit0 ?_ | with_reducible refine lit1 ?_ | with_reducible refine lit2 ?_ | with_reducible refine lit3 ?_ | with_reducible refine lit4 ?_ | with_reducible refine lit5 ?_ | with_reducible refine lit6 ?_ | with_reducible refine lit7 ?_
  | fail)
local macro_rules | `(tactic| walk_at "st") => `(tactic| repeat (first | walk_at "st1" | dsimp only))
local macro_rules | `(tactic| walk_at "go") => `(tactic| (simp only [dstart, dEnd, List.map_cons, List.map_nil, List.length_cons, List.length_nil, Nat.reduceAdd, Nat.reduceSub, Nat.zero_add, List.replicate, List.cons_append, List.nil_append]; walk_at "st"))

theorem word_len {w : List Nat} (h : w ∈ [KEPT, BROKEN, ORDER, SAME, UNLIKE]) : w.length ≤ 6 ∧ 10 ∉ w ∧ 32 ∉ w := by
  simp only [List.mem_cons, List.not_mem_nil, or_false] at h
  rcases h with rfl | rfl | rfl | rfl | rfl <;> decide
/-- a comprehension that puts a text ahead of each -/
theorem lc_pre {i : Nat} {pre' : List Nat} {δw : DEnv} {M : Mu} {Q : List D → Mu → Prop} (L : List (List Nat)) (hL : ∀ l ∈ L, l.length ≤ 1000) (hl : L.length ≤ 100000) (hp : pre'.length ≤ 1000) (hi : i < δw.length) (q : Q (strsD (L.map (pre' ++ ·))) M) :
    dLcGo (fun _ => True) (dgN i) dYes (dOp (dAdd false) (dC (.str pre')) (dVar i)) δw (strsD L) [] M Q := by
  refine lc_map (fun d => match d with
    | .str cs => .str (pre' ++ cs)
    | d => d) trivial _ _ (by rw [strsD_len, List.length_nil, Nat.zero_add]; exact sz1000 (by omega)) (fun x hx R hR => ?_) ?_
  · obtain ⟨l, hl', rfl⟩ := List.mem_map.mp hx
    refine r_dgN rfl ?_
    refine r_op (r_c ?_)
    refine r_var (d := .str l) (by rw [List.getElem?_set_self (by omega)]) ?_
    exact ⟨sz1000 (by have := hL l hl'; omega), hR⟩
  · rw [List.nil_append]
    unfold strsD at q ⊢
    rw [List.map_map] at q ⊢
    exact q
theorem lc_suf {i : Nat} {suf : List Nat} {δw : DEnv} {M : Mu} {Q : List D → Mu → Prop} {g : Mu → Prop} (hg : g M) (L : List (List Nat)) (hL : ∀ l ∈ L, l.length ≤ 100000) (hl : L.length ≤ 100000) (hp : suf.length ≤ 1000) (hi : i < δw.length) (q : Q (strsD (L.map (· ++ suf))) M) :
    dLcGo g (dgN i) dYes (dOp (dAdd false) (dVar i) (dC (.str suf))) δw (strsD L) [] M Q := by
  refine lc_map (fun d => match d with
    | .str cs => .str (cs ++ suf)
    | d => d) hg _ _ (by rw [strsD_len, List.length_nil, Nat.zero_add]; exact sz1000 (by omega)) (fun x hx R hR => ?_) ?_
  · obtain ⟨l, hl', rfl⟩ := List.mem_map.mp hx
    refine r_dgN rfl ?_
    refine r_op ?_
    refine r_var (d := .str l) (by rw [List.getElem?_set_self (by omega)]) (r_c ?_)
    exact ⟨sz1000 (by have := hL l hl'; omega), hR⟩
  · rw [List.nil_append]
    unfold strsD at q ⊢
    rw [List.map_map] at q ⊢
    exact q
theorem sem_fact_text (ds : List D) (M : Mu) (Q : DK) (E : DXK) (h : sp_fact_text ds M Q E) : t_fact_text (dEnd Q) (dstart 4 ds) M := by
  obtain ⟨w, q, p, rfl, g, h⟩ := h
  obtain ⟨hw1, _, _⟩ := word_len g.wl
  have hq := g.ql
  have hp := g.pl
  unfold t_fact_text factD
  walk_at "go"
  refine r_idxT atI_zero ?_
  walk_at "st"
  refine ⟨sz1000 (by simp; omega), ?_⟩
  walk_at "st"
  refine r_newT fun f hf => ?_
  walk_at "st"
  refine r_tyR mset_same ?_
  walk_at "st"
  refine r_idxT atI_one ?_
  walk_at "st"
  refine lc_pre q (fun l hl => by have := (g.qs l hl).2.2; omega) (by omega) (by decide) (by simp [dwipe]) ?_
  walk_at "st"
  refine r_extend mset_same rfl (sz1000 (by rw [strsD_len, List.length_map]; simp; omega)) ?_
  rw [mset_mset]
  walk_at "st"
  refine r_tyR mset_same ?_
  walk_at "st"
  refine r_idxT atI_two ?_
  walk_at "st"
  refine lc_pre p (fun l hl => by have := (g.ps l hl).2.2; omega) (by omega) (by decide) (by simp [dwipe]) ?_
  walk_at "st"
  refine r_extend mset_same rfl (sz1000 (by rw [strsD_len, List.length_map, List.length_append, strsD_len, List.length_map]; simp; omega)) ?_
  rw [mset_mset]
  walk_at "st"
  obtain ⟨A, hA⟩ : ∃ A, A = [FACTp ++ [32] ++ w] ++ q.map (OFp ++ ·) ++ p.map (BYp ++ ·) := ⟨_, rfl⟩
  have e : ([D.str ([102, 97, 99, 116, 32] ++ w)] ++ strsD (q.map (OFp ++ ·)) ++ strsD (p.map (BYp ++ ·))) = strsD A := by
    rw [hA, ← strsD_app, ← strsD_app]
    rfl
  have hAl : ∀ l ∈ A, l.length ≤ 100 := by
    intro l hl
    rw [hA] at hl
    simp only [List.mem_append, List.mem_singleton, List.mem_map] at hl
    rcases hl with (rfl | ⟨x, hx, rfl⟩) | ⟨x, hx, rfl⟩
    · simp; omega
    · have := (g.qs x hx).2.2; simp; omega
    · have := (g.ps x hx).2.2; simp; omega
  have hAn : A.length ≤ 21 := by rw [hA]; simp; omega
  rw [e]
  refine r_kIr mset_same ?_
  refine lc_suf (suf := [10]) mset_same A (fun l hl => by have := hAl l hl; omega) (by omega) (by decide) (by simp [dwipe]) ?_
  walk_at "st"
  have ht := text_len A hAl
  have hn := Nat.mul_le_mul_left 101 hAn
  refine r_join rfl (strsD_strs _) ?_ ?_
  · rw [sum_lens]
    show (textOf A).length + _ * 0 ≤ _
    omega
  rw [DL.join_nil]
  show dC _ _ _ _
  walk_at "st"
  show (textOf A).length + _ ≤ _ ∧ _
  refine ⟨sz1000 (by show _ + 9 ≤ _; omega), ?_⟩
  refine Wq.drop (sub_new hf) ?_
  have e2 : textOf (rowsOf w q p) = textOf A ++ [101, 110, 100, 32, 102, 97, 99, 116, 10] := by
    unfold rowsOf
    rw [← hA, textOf_app]
    rfl
  rw [e2] at h
  exact h
theorem sem_law_k04_rows (ds : List D) (M : Mu) (Q : DK) (E : DXK) (h : sp_law_k04_rows ds M Q E) : t_law_k04_rows (dEnd Q) (dstart 2 ds) M := by
  obtain ⟨w, q, p, rfl, g, h⟩ := h
  obtain ⟨hw1, _, _⟩ := word_len g.wl
  have hq := g.ql
  have hp := g.pl
  unfold t_law_k04_rows factD
  walk_at "go"
  refine r_idxT atI_zero ?_
  walk_at "st"
  refine ⟨sz1000 (by simp; omega), ?_⟩
  walk_at "st"
  refine r_idxT atI_one ?_
  walk_at "st"
  refine lc_pre q (fun l hl => by have := (g.qs l hl).2.2; omega) (by omega) (by decide) (by simp [dwipe]) ?_
  walk_at "st"
  refine ⟨sz1000 (by rw [strsD_len, List.length_map]; simp; omega), ?_⟩
  walk_at "st"
  refine r_idxT atI_two ?_
  walk_at "st"
  refine lc_pre p (fun l hl => by have := (g.ps l hl).2.2; omega) (by omega) (by decide) (by simp [dwipe]) ?_
  walk_at "st"
  refine ⟨sz1000 (by rw [strsD_len, List.length_map, List.length_append, strsD_len, List.length_map]; simp; omega), ?_⟩
  walk_at "st"
  refine ⟨sz1000 (by rw [List.length_append, strsD_len, List.length_map, List.length_append, strsD_len, List.length_map]; simp; omega), ?_⟩
  walk_at "st"
  refine Wq.now ?_
  have e : [D.str ([102, 97, 99, 116, 32] ++ w)] ++ strsD (q.map (OFp ++ ·)) ++ strsD (p.map (BYp ++ ·)) ++ [D.str [101, 110, 100, 32, 102, 97, 99, 116]] = strsD (rowsOf w q p) := by
    unfold rowsOf
    rw [← strsD_app, ← strsD_app, ← strsD_app]
    rfl
  have h : Q (.lst (strsD (rowsOf w q p))) M := h
  rw [← e] at h
  exact h
theorem sem_law_k04_line (ds : List D) (M : Mu) (Q : DK) (E : DXK) (h : sp_law_k04_line ds M Q E) : t_law_k04_line (dEnd Q) (dstart 3 ds) M := by
  obtain ⟨a, o, k, rfl, hM, hS, h⟩ := h
  unfold t_law_k04_line
  walk_at "go"
  refine ⟨lit_len 14 rfl (by decide), ?_⟩
  walk_at "st"
  refine ⟨a, _, o, k + 2, rfl, hM, hS, by decide, by decide, fun x o1 hx hS1 => ?_⟩
  have hx : ∃ z : List Nat, x = .str z ∧ z ≠ [] ∧ 10 ∉ z ∧ z.length ≤ 20 := by
    simp only [List.mem_cons, List.not_mem_nil, or_false] at hx
    rcases hx with rfl | rfl | rfl | rfl | rfl | rfl | rfl | rfl | rfl | rfl | rfl | rfl | rfl | rfl <;> exact ⟨_, rfl, by decide, by decide, by decide⟩
  obtain ⟨z, rfl, z1, z2, z3⟩ := hx
  walk_at "st"
  refine r_dif ?_
  walk_at "st"
  refine ⟨a, 4, o1, k + 1, rfl, mset_same, hS1, by decide, by decide, fun r o2 _ _ hS2 => ?_⟩
  rw [mset_mset]
  walk_at "st"
  refine ⟨fun _ => ?_, fun _ => ?_⟩
  · walk_at "st"
    refine ⟨sz1000 (by simp; omega), ?_⟩
    walk_at "st"
    refine ⟨a, 100, o2, k, rfl, mset_same, hS2, by decide, by decide, fun r o3 r0 r1 hS3 => ?_⟩
    rw [mset_mset]
    obtain ⟨n, rfl⟩ := Int.eq_ofNat_of_zero_le r0
    have hn := numI_len (n := n) (k := 2) (by decide) (by omega)
    walk_at "st"
    refine ⟨Nat.lt_of_lt_of_le (PySem.Flt.log2_lt_of (k := 7) (by decide) (by omega)) (by decide), ?_⟩
    walk_at "st"
    refine ⟨sz1000 (by simp; omega), ?_⟩
    refine Wq.now (h _ _ (by simp) ?_ (by simp; omega) hS3)
    have := numI_free (c := 10) (by decide) (n : Int)
    simp [z2, this]
  · walk_at "st"
    exact Wq.now (h _ _ z1 z2 (by omega) (hS2.less (by omega)))
theorem sem_law_k04_right (ds : List D) (M : Mu) (Q : DK) (E : DXK) (h : sp_law_k04_right ds M Q E) : t_law_k04_right (dEnd Q) (dstart 5 ds) M := by
  obtain ⟨w, x, y, q, p, rfl, hx, hy, hq, hpb, hpl0, h⟩ := h
  unfold t_law_k04_right
  walk_at "go"
  refine r_if ?_
  walk_at "st"
  refine r_inTs [KEPT, BROKEN] ?_
  walk_at "st"
  refine ⟨fun z => ?_, fun z => ?_⟩
  · have z : w ∈ [KEPT, BROKEN] := by simpa using z
    have e : right w q p = (decide (0 < q.length) && decide (0 < p.length)) := if_pos z
    rw [e] at h
    walk_at "st"
    refine r_andV ?_
    walk_at "st"
    refine r_lenQ hx ?_
    walk_at "st"
    rw [strsD_len]
    refine ⟨fun z2 => ?_, fun z2 => ?_⟩
    · walk_at "st"
      refine r_lenQ hy ?_
      walk_at "st"
      rw [strsD_len]
      refine Wq.now ?_
      have : decide (0 < q.length) = true := by simpa using z2
      rw [this, Bool.true_and] at h
      have e3 : decide ((0 : Int) < (p.length : Int)) = decide (0 < p.length) := by rw [Bool.eq_iff_iff]; simp
      rw [e3]
      exact h
    · refine Wq.now ?_
      have : decide (0 < q.length) = false := by simpa using z2
      rw [this, Bool.false_and] at h
      exact h
  have z1 : w ∉ [KEPT, BROKEN] := by simpa using z
  clear z
  walk_at "st"
  refine r_if ?_
  walk_at "st"
  refine ⟨fun z => ?_, fun z => ?_⟩
  · have z := of_decide_eq_true z
    have e : right w q p = (decide (q.length = 2) && decide (p.length = 1)) := (if_neg z1).trans (if_pos z)
    rw [e] at h
    walk_at "st"
    refine r_andV ?_
    walk_at "st"
    refine r_lenQ hx ?_
    walk_at "st"
    rw [strsD_len]
    refine ⟨fun z2 => ?_, fun z2 => ?_⟩
    · walk_at "st"
      refine r_lenQ hy ?_
      walk_at "st"
      rw [strsD_len]
      refine Wq.now ?_
      have : decide (q.length = 2) = true := by rw [decide_eq_true_iff]; have := of_decide_eq_true z2; omega
      rw [this, Bool.true_and] at h
      have e3 : decide ((p.length : Int) = 1) = decide (p.length = 1) := by rw [Bool.eq_iff_iff, decide_eq_true_iff, decide_eq_true_iff]; omega
      rw [e3]
      exact h
    · refine Wq.now ?_
      have : decide (q.length = 2) = false := by rw [decide_eq_false_iff_not]; have := of_decide_eq_false z2; omega
      rw [this, Bool.false_and] at h
      exact h
  have z2 := of_decide_eq_false z
  clear z
  walk_at "st"
  refine r_if (r_or ?_)
  walk_at "st"
  refine r_inTs [SAME, UNLIKE] ?_
  walk_at "st"
  refine ⟨fun z => ?_, fun z => ?_⟩
  · refine ⟨fun _ => ?_, fun z => Bool.noConfusion z⟩
    walk_at "st"
    have hw2 : w ∉ [SAME, UNLIKE] := by simpa using z
    have e : right w q p = false := ((if_neg z1).trans (if_neg z2)).trans (if_pos hw2)
    rw [e] at h
    exact Wq.now h
  have hw2 : w ∈ [SAME, UNLIKE] := inT_f z
  clear z
  have e : right w q p = match q.getLast? with
    | none => false
    | some z => lastR w z q p := ((if_neg z1).trans (if_neg z2)).trans (if_neg (not_not_intro hw2))
  rw [e] at h
  clear e
  walk_at "st"
  refine r_lenQ hx ?_
  walk_at "st"
  rw [strsD_len]
  have no : ∀ (P : Prop), (match q.getLast? with
    | none => false
    | some z => lastR w z q p) = false → Wq Q (.bl false) M := fun _ e => by
    rw [e] at h
    exact Wq.now h
  refine ⟨fun z => ?_, fun z => ?_⟩
  · have z := of_decide_eq_true z
    walk_at "st"
    refine no True ?_
    cases q.getLast? with
    | none => rfl
    | some zz => exact if_pos (.inl (by omega))
  have z3 := of_decide_eq_false z
  clear z
  obtain ⟨z, hz⟩ : ∃ z, q.getLast? = some z := by
    cases hq0 : q with
    | nil => rw [hq0] at z3; simp at z3
    | cons a b => exact ⟨_, List.getLast?_cons⟩
  rw [hz] at h no
  have hzl := hq z (List.mem_of_getLast? hz)
  walk_at "st"
  refine r_idxQ hx (strsD_last hz) ?_
  walk_at "st"
  refine r_split (by decide) (by decide) (sz1000 (by omega)) ?_
  walk_at "st"
  refine r_if (r_or ?_)
  walk_at "st"
  rw [List.length_map]
  refine ⟨fun z4 => ?_, fun z4 => ?_⟩
  · refine ⟨fun _ => ?_, fun z => Bool.noConfusion z⟩
    walk_at "st"
    refine no True (if_pos (.inr (.inl ?_)))
    intro h3
    rw [h3] at z4
    simp at z4
  have z4 : (spl [32] 0 [] z).length = 3 := by
    simp at z4
    omega
  obtain ⟨w0, wr, hws⟩ : ∃ w0 wr, spl [32] 0 [] z = w0 :: wr := by
    cases hs : spl [32] 0 [] z with
    | nil => rw [hs] at z4; simp at z4
    | cons a b => exact ⟨a, b, rfl⟩
  have hhd : (spl [32] 0 [] z).head? = some w0 := by rw [hws]; rfl
  rw [hws, List.map_cons]
  walk_at "st"
  refine r_idxL atI_zero ?_
  walk_at "st"
  refine ⟨fun z5 => ?_, fun z5 => ?_⟩
  · walk_at "st"
    refine no True (if_pos (.inr (.inr ?_)))
    rw [hhd]
    intro hh
    rw [Option.some.inj hh] at z5
    simp at z5
  have z5 : (spl [32] 0 [] z).head? = some PAIRp := by
    have : w0 = PAIRp := by simpa using z5
    rw [hhd, this]
  have e : lastR w z q p = if w = UNLIKE then decide (p.length = 1) else p.all fun l => decide (l.take 4 = ONEp) || decide (l.take 6 = OTHp) := if_neg (by
    rintro (h | h | h)
    · omega
    · exact h z4
    · exact h z5)
  have h : Q (.bl (lastR w z q p)) M := h
  rw [e] at h
  walk_at "st"
  refine r_if ?_
  walk_at "st"
  refine ⟨fun z6 => ?_, fun z6 => ?_⟩
  · rw [if_pos (of_decide_eq_true z6)] at h
    walk_at "st"
    refine r_lenQ hy ?_
    walk_at "st"
    refine Wq.now ?_
    rw [strsD_len]
    have e3 : decide ((p.length : Int) = 1) = decide (p.length = 1) := by rw [Bool.eq_iff_iff, decide_eq_true_iff, decide_eq_true_iff]; omega
    rw [e3]
    exact h
  rw [if_neg (of_decide_eq_false z6)] at h
  walk_at "st"
  refine r_kIQ hy fun g hg => ?_
  refine lc_map (fun d => match d with
    | .str l => .bl (decide (l.take 4 = ONEp) || decide (l.take 6 = OTHp))
    | d => d) hg _ _ (by rw [strsD_len, List.length_nil, Nat.zero_add]; exact sz1000 (by omega)) (fun xx hxx R hR => ?_) ?_
  · obtain ⟨l, hl', rfl⟩ := List.mem_map.mp hxx
    have hll := hpb l hl'
    simp only [dwipe, List.set]
    walk_at "st"
    refine r_orV ?_
    walk_at "st"
    refine ⟨sz1000 (by omega), ?_⟩
    walk_at "st"
    rw [show (4 : Int) = ((4 : Nat) : Int) from rfl, cutL_none_nat]
    refine ⟨fun z => ?_, fun z => ?_⟩
    · have z : decide (l.take 4 = ONEp) = true := z
      simp only [z, Bool.true_or] at hR
      exact hR
    · have z : decide (l.take 4 = ONEp) = false := z
      simp only [z, Bool.false_or] at hR
      walk_at "st"
      refine ⟨sz1000 (by omega), ?_⟩
      rw [show (6 : Int) = ((6 : Nat) : Int) from rfl, cutL_none_nat]
      walk_at "st"
      exact hR
  · walk_at "st"
    refine r_all (bs := p.map fun l => decide (l.take 4 = ONEp) || decide (l.take 6 = OTHp)) rfl ?_ ?_
    · rw [List.nil_append, ← blsOf_map, List.map_map]
      unfold strsD
      rw [List.map_map]
      rfl
    · refine Wq.now ?_
      rw [List.all_map]
      exact h
end K04

namespace K04
open PySem PySem.Spec PyProof.Rows L2 TL DL
local macro_rules | `(tactic| walk_at "st1") => `(tactic| first
  | with_reducible refine r_sq ?_ | with_reducible refine r_nx ?_ | with_reducible refine r_rt ?_ | with_reducible refine r_rtN ?_ | with_reducible refine r_ex ?_ | with_reducible refine r_as ?_ | with_reducible refine r_bk ?_ | with_reducible refine r_ct ?_
  | ((with_reducible apply r_var); exact rfl) | with_reducible refine r_c ?_ | with_reducible refine r_op ?_ | with_reducible refine r_un ?_ | with_reducible refine r_neg ?_
  | ((with_reducible refine r_dgN rfl ?_); (try simp only [List.set]))
  | with_reducible refine r_dgSub ?_ | with_reducible refine r_dgT rfl ?_ | with_reducible refine r_dga0 ?_ | with_reducible refine r_dga1 ?_ | with_reducible refine r_auS ?_ | ((with_reducible apply r_au); exact rfl)
  | with_reducible refine r_par ?_ | ((with_reducible refine r_kPar rfl ?_); (try simp only [List.set]))
  | with_reducible refine r_addI ?_ | with_reducible refine r_addS ?_ | with_reducible refine r_addT ?_ | with_reducible refine r_addL ?_ | with_reducible refine r_subI ?_ | with_reducible refine r_mulI ?_ | with_reducible refine r_fdiv ?_ | with_reducible refine r_mod ?_ | with_reducible refine r_pow ?_ | with_reducible refine r_shl ?_
  | with_reducible refine r_eqI ?_ | with_reducible refine r_eqS ?_ | with_reducible refine r_eqB ?_ | with_reducible refine r_neI ?_ | with_reducible refine r_neS ?_ | with_reducible refine r_neB ?_ | with_reducible refine r_ltI ?_ | with_reducible refine r_gtI ?_ | with_reducible refine r_leI ?_ | with_reducible refine r_geI ?_ | with_reducible refine r_isN ?_ | with_reducible refine r_notN ?_ | with_reducible refine r_inS ?_
  | with_reducible refine r_test ?_ | with_reducible refine r_kB ?_ | with_reducible refine r_tru ?_ | with_reducible refine r_kTb ?_ | with_reducible refine r_kTi ?_ | with_reducible refine r_kTn ?_ | with_reducible refine r_kTl ?_ | with_reducible refine r_kTt ?_ | with_reducible refine r_kTs ?_ | with_reducible refine r_not ?_ | with_reducible refine r_notV ?_ | with_reducible refine r_yes ?_
  | with_reducible refine r_nil ?_ | with_reducible refine r_cons ?_ | with_reducible refine r_tup ?_ | with_reducible refine r_lst ?_ | with_reducible refine r_newF ?_ | with_reducible refine r_cb ?_
  | with_reducible refine r_lenS ?_ | with_reducible refine r_lenL ?_ | with_reducible refine r_lenT ?_ | with_reducible refine r_lenSrc ?_ | with_reducible refine r_abs ?_ | with_reducible refine r_min2 ?_ | with_reducible refine r_max2 ?_ | with_reducible refine r_intI ?_ | with_reducible refine r_str ?_ | with_reducible refine r_tupT ?_ | with_reducible refine r_tupL ?_ | with_reducible refine r_divmod ?_
  | with_reducible refine r_sl ?_ | with_reducible refine r_noP ?_ | with_reducible refine r_part ?_ | with_reducible refine r_kP ?_ | with_reducible refine r_slS ?_ | with_reducible refine r_slT ?_ | with_reducible refine r_slL ?_ | with_reducible refine r_slSrc ?_
  | with_reducible refine r_bm ?_ | with_reducible refine r_tyS ?_ | with_reducible refine r_starts ?_ | with_reducible refine r_count ?_ | with_reducible refine r_call ?_ | with_reducible refine r_for ?_ | with_reducible refine r_seq ?_ | with_reducible refine r_kIt ?_ | with_reducible refine r_kIl ?_ | with_reducible refine r_kIs ?_ | with_reducible refine r_kIsrc ?_ | with_reducible refine r_r1 ?_ | with_reducible refine r_r2 ?_ | with_reducible refine r_lc ?_
  | with_reducible refine lit0 ?_ | with_reducible refine lit1 ?_ | with_reducible refine lit2 ?_ | with_reducible refine lit3 ?_ | with_reducible refine lit4 ?_ | with_reducible refine lit5 ?_ | with_reducible refine lit6 ?_ | with_reducible refine lit7 ?_
  | fail)
local macro_rules | `(tactic| walk_at "st") => `(tactic| repeat (first | walk_at "st1" | dsimp only))
local macro_rules | `(tactic| walk_at "go") => `(tactic| (simp only [dstart, dEnd, List.map_cons, List.map_nil, List.length_cons, List.length_nil, Nat.reduceAdd, Nat.reduceSub, Nat.zero_add, List.replicate, List.cons_append, List.nil_append]; walk_at "st"))

theorem upd_in {M : Mu} {a p : Addr} {o o' l : DO} (h : p ≠ a) : mset (mset (mset M a o) p l) a o' = mset (mset M a o') p l := by
  rw [mset_swap h, mset_mset]
theorem get_in {M : Mu} {a p : Addr} {o l : DO} (h : p ≠ a) : mset (mset M a o) p l a = some o := by
  rw [mset_ne (fun z => h z.symm), mset_same]
theorem none_sub {M M' : Mu} {q : Addr} (s : DL.Sub M M') (h : M' q = none) : M q = none := by
  cases e : M q with
  | none => rfl
  | some o => rw [s q o e] at h; cases h
theorem sub_upd {M M' : Mu} {q : Addr} {o : DO} (s : DL.Sub M M') (h : M q = none) : DL.Sub M (mset M' q o) := fun b u e => by
  rw [mset_ne (fun z => by rw [z, h] at e; cases e)]
  exact s b u e
theorem pfx3 {p l : List Nat} (h3 : p.length = 3) : pfx p l = (decide (l.take 3 = p) && !decide (l = p)) := by
  unfold pfx
  rw [h3, Bool.eq_iff_iff, Bool.and_eq_true, Bool.and_eq_true, decide_eq_true_iff, decide_eq_true_iff, Bool.not_eq_true', decide_eq_false_iff_not]
  constructor
  · rintro ⟨h1, h2⟩
    refine ⟨h1, fun z => ?_⟩
    rw [z] at h2
    omega
  · rintro ⟨h1, h2⟩
    refine ⟨h1, ?_⟩
    by_cases hl : 3 < l.length
    · exact hl
    · rw [List.take_of_length_le (by omega)] at h1
      exact absurd h1 h2
theorem wh6 {x : D} {s1 s2 s3 s4 s7 s8 : Option D} {a : Addr} {L : List (List Nat)} (hB : BdL L) {pr : List Nat} (h3 : pr.length = 3) {j : Nat} {M1 : Mu} {D0 : DEnds} (hx : ∀ o, dseq (mset M1 a o) x = some (strsD L)) (ha : M1 = mset M1 a (.lst []))
    (hN : D0.nx [some x, s1, s2, s3, s4, some (.int ((j + (run pr (L.drop j)).length : Nat) : Int)), some (.ref a), s7, s8] (mset M1 a (.lst (strsD (run pr (L.drop j)))))) :
    dWhile (dAnd (dTest (dOp dLt (dVar 5) (dCB dLen (dCons (dVar 0) dNil)))) (dAnd (dTest (dOp dEq (dSl false (dOp dIdx (dVar 0) (dVar 5)) dNoP (dPart (dC (.int 3)))) (dC (.str pr)))) (dTest (dOp dNe (dOp dIdx (dVar 0) (dVar 5)) (dC (.str pr)))))) (dSq (dEx (dBM "list" dAppend (dVar 6) (dCons (dSl false (dOp dIdx (dVar 0) (dVar 5)) (dPart (dC (.int 3))) dNoP) dNil))) (dAu 5 dIAdd (dC (.int 1))))
      D0 [some x, s1, s2, s3, s4, some (.int ((j : Nat) : Int)), some (.ref a), s7, s8] M1 := by
  refine r_while (fun m δ M' => ∃ (acc : List (List Nat)), m = L.length - (j + acc.length) ∧ acc ++ run pr (L.drop (j + acc.length)) = run pr (L.drop j) ∧ acc.length ≤ L.length ∧ M' = mset M1 a (.lst (strsD acc)) ∧ δ = [some x, s1, s2, s3, s4, some (.int ((j + acc.length : Nat) : Int)), some (.ref a), s7, s8]) _ ⟨[], rfl, rfl, by simp, ha, rfl⟩ ?_
  rintro m δ M' ⟨acc, rfl, e, hal, rfl, rfl⟩
  have stop : run pr (L.drop (j + acc.length)) = [] → D0.nx [some x, s1, s2, s3, s4, some (.int ((j + acc.length : Nat) : Int)), some (.ref a), s7, s8] (mset M1 a (.lst (strsD acc))) := fun z => by
    rw [z, List.append_nil] at e
    rw [← e] at hN
    exact hN
  refine r_and ?_
  walk_at "st"
  refine r_lenQ (hx _) ?_
  walk_at "st"
  rw [strsD_len]
  refine ⟨fun z => ?_, fun z => ⟨fun z => Bool.noConfusion z, fun _ => ?_⟩⟩
  · have hj : j + acc.length < L.length := by have := of_decide_eq_true z; omega
    have hlj := hB.ln _ (List.getElem_mem hj)
    have er := run_drop (p := pr) hj
    rw [pfx3 h3] at er
    refine r_and ?_
    walk_at "st"
    refine r_idxQ (hx _) (strsD_at hj) ?_
    walk_at "st"
    refine ⟨sz1000 (by omega), ?_⟩
    walk_at "st"
    rw [show (3 : Int) = ((3 : Nat) : Int) from rfl, cutL_none_nat]
    refine ⟨fun z2 => ?_, fun z2 => ⟨fun z => Bool.noConfusion z, fun _ => ?_⟩⟩
    · rw [z2, Bool.true_and] at er
      walk_at "st"
      refine r_idxQ (hx _) (strsD_at hj) ?_
      walk_at "st"
      refine ⟨fun z3 => ?_, fun z3 => ?_⟩
      · rw [if_pos z3] at er
        walk_at "st"
        refine r_tyR mset_same ?_
        walk_at "st"
        refine r_idxQ (hx _) (strsD_at hj) ?_
        walk_at "st"
        refine ⟨sz1000 (by omega), ?_⟩
        rw [cutL_nat_none]
        walk_at "st"
        refine r_append mset_same (szlt (by rw [strsD_len]; have := hB.len; omega)) ?_
        rw [mset_mset]
        walk_at "st"
        refine ⟨L.length - (j + (acc.length + 1)), by omega, acc ++ [L[j + acc.length].drop 3], by simp, ?_, by simp; omega, by rw [← strsD_app]; rfl, ?_⟩
        · rw [← e, er, List.length_append, h3]
          simp [Nat.add_assoc]
        · rw [List.length_append, List.length_singleton]
          simp [Int.add_assoc]
      · rw [if_neg (by rw [z3]; decide)] at er
        exact stop er
    · rw [z2, Bool.false_and, if_neg (by decide)] at er
      exact stop er
  · exact stop (run_end (by have := of_decide_eq_false z; omega))
theorem wh7 {x : D} {s1 s2 s3 s4 s6 s8 : Option D} {a : Addr} {L : List (List Nat)} (hB : BdL L) {pr : List Nat} (h3 : pr.length = 3) {j : Nat} {M1 : Mu} {D0 : DEnds} (hx : ∀ o, dseq (mset M1 a o) x = some (strsD L)) (ha : M1 = mset M1 a (.lst []))
    (hN : D0.nx [some x, s1, s2, s3, s4, some (.int ((j + (run pr (L.drop j)).length : Nat) : Int)), s6, some (.ref a), s8] (mset M1 a (.lst (strsD (run pr (L.drop j)))))) :
    dWhile (dAnd (dTest (dOp dLt (dVar 5) (dCB dLen (dCons (dVar 0) dNil)))) (dAnd (dTest (dOp dEq (dSl false (dOp dIdx (dVar 0) (dVar 5)) dNoP (dPart (dC (.int 3)))) (dC (.str pr)))) (dTest (dOp dNe (dOp dIdx (dVar 0) (dVar 5)) (dC (.str pr)))))) (dSq (dEx (dBM "list" dAppend (dVar 7) (dCons (dSl false (dOp dIdx (dVar 0) (dVar 5)) (dPart (dC (.int 3))) dNoP) dNil))) (dAu 5 dIAdd (dC (.int 1))))
      D0 [some x, s1, s2, s3, s4, some (.int ((j : Nat) : Int)), s6, some (.ref a), s8] M1 := by
  refine r_while (fun m δ M' => ∃ (acc : List (List Nat)), m = L.length - (j + acc.length) ∧ acc ++ run pr (L.drop (j + acc.length)) = run pr (L.drop j) ∧ acc.length ≤ L.length ∧ M' = mset M1 a (.lst (strsD acc)) ∧ δ = [some x, s1, s2, s3, s4, some (.int ((j + acc.length : Nat) : Int)), s6, some (.ref a), s8]) _ ⟨[], rfl, rfl, by simp, ha, rfl⟩ ?_
  rintro m δ M' ⟨acc, rfl, e, hal, rfl, rfl⟩
  have stop : run pr (L.drop (j + acc.length)) = [] → D0.nx [some x, s1, s2, s3, s4, some (.int ((j + acc.length : Nat) : Int)), s6, some (.ref a), s8] (mset M1 a (.lst (strsD acc))) := fun z => by
    rw [z, List.append_nil] at e
    rw [← e] at hN
    exact hN
  refine r_and ?_
  walk_at "st"
  refine r_lenQ (hx _) ?_
  walk_at "st"
  rw [strsD_len]
  refine ⟨fun z => ?_, fun z => ⟨fun z => Bool.noConfusion z, fun _ => ?_⟩⟩
  · have hj : j + acc.length < L.length := by have := of_decide_eq_true z; omega
    have hlj := hB.ln _ (List.getElem_mem hj)
    have er := run_drop (p := pr) hj
    rw [pfx3 h3] at er
    refine r_and ?_
    walk_at "st"
    refine r_idxQ (hx _) (strsD_at hj) ?_
    walk_at "st"
    refine ⟨sz1000 (by omega), ?_⟩
    walk_at "st"
    rw [show (3 : Int) = ((3 : Nat) : Int) from rfl, cutL_none_nat]
    refine ⟨fun z2 => ?_, fun z2 => ⟨fun z => Bool.noConfusion z, fun _ => ?_⟩⟩
    · rw [z2, Bool.true_and] at er
      walk_at "st"
      refine r_idxQ (hx _) (strsD_at hj) ?_
      walk_at "st"
      refine ⟨fun z3 => ?_, fun z3 => ?_⟩
      · rw [if_pos z3] at er
        walk_at "st"
        refine r_tyR mset_same ?_
        walk_at "st"
        refine r_idxQ (hx _) (strsD_at hj) ?_
        walk_at "st"
        refine ⟨sz1000 (by omega), ?_⟩
        rw [cutL_nat_none]
        walk_at "st"
        refine r_append mset_same (szlt (by rw [strsD_len]; have := hB.len; omega)) ?_
        rw [mset_mset]
        walk_at "st"
        refine ⟨L.length - (j + (acc.length + 1)), by omega, acc ++ [L[j + acc.length].drop 3], by simp, ?_, by simp; omega, by rw [← strsD_app]; rfl, ?_⟩
        · rw [← e, er, List.length_append, h3]
          simp [Nat.add_assoc]
        · rw [List.length_append, List.length_singleton]
          simp [Int.add_assoc]
      · rw [if_neg (by rw [z3]; decide)] at er
        exact stop er
    · rw [z2, Bool.false_and, if_neg (by decide)] at er
      exact stop er
  · exact stop (run_end (by have := of_decide_eq_false z; omega))
theorem one_some {l : List Nat} {r : List (List Nat)} {w0 w1 : List Nat} (h : spl [32] 0 [] l = [w0, w1]) (q p : List (List Nat)) (hq : q = run OFp r) (hp : p = run BYp (r.drop q.length)) : one l r = if w0 = FACTp ∧ (r.drop (q.length + p.length)).head? = some ENDp ∧ right w1 q p = true then some (w1, q, p) else none := by
  unfold one
  rw [h]
  subst hq hp
  rfl
theorem one_none {l : List Nat} {r : List (List Nat)} (h : (spl [32] 0 [] l).length ≠ 2) : one l r = none := by
  unfold one
  match spl [32] 0 [] l, h with
  | [], _ => rfl
  | [a], _ => rfl
  | [a, b], h => exact absurd rfl h
  | a :: b :: c :: d, _ => rfl
theorem sem_law_k04_due (ds : List D) (M : Mu) (Q : DK) (E : DXK) (h : sp_law_k04_due ds M Q E) : t_law_k04_due (dEnd Q) (dstart 9 ds) M := by
  obtain ⟨x, L, rfl, hx, hB, h⟩ := h
  have hLl := hB.len
  unfold t_law_k04_due
  walk_at "go"
  refine r_newT fun f hf => ?_
  walk_at "st"
  refine r_lenQ (dseq_sub (sub_new hf) hx) ?_
  walk_at "st"
  rw [strsD_len]
  refine r_kR1 (by omega) (by omega) ?_
  rw [Int.toNat_natCast]
  have fin : ∀ (M' : Mu) (acc : List D), DL.Sub M M' → M' f = some (.lst acc) → acc = G L → Wq Q (.ref f) M' := by
    intro M' acc hs hm ha
    subst ha
    exact Wq.frz hm hs hf h
  refine for_inv (fun xs δ M' => ∃ (j : Nat) (acc : List D) (s3 s4 s5 s6 s7 s8 : Option D), DL.Sub M M' ∧ M' f = some (.lst acc) ∧ acc ++ G (L.drop j) = G L ∧ acc.length ≤ j ∧ L.length ≤ j + xs.length ∧ δ = [some x, some (.ref f), some (.int (j : Int)), s3, s4, s5, s6, s7, s8]) (fun _ _ _ _ => trivial) ?_ ?_ _ _ _ ⟨0, [], none, none, none, none, none, none, sub_new hf, mset_same, rfl, by simp, by rw [rngD_len]; omega, rfl⟩
  · rintro y ys δ M' N ⟨j, acc, s3, s4, s5, s6, s7, s8, hs, hmf, e, hal, hlen, rfl⟩ hN
    rw [List.length_cons] at hlen
    have hx' := dseq_sub hs hx
    walk_at "st"
    refine r_if ?_
    walk_at "st"
    refine r_lenQ hx' ?_
    walk_at "st"
    rw [strsD_len]
    refine ⟨fun z => ?_, fun z => ?_⟩
    · walk_at "st"
      have hj : L.length ≤ j := by have := of_decide_eq_true z; omega
      rw [List.drop_of_length_le hj, G_nil, List.append_nil] at e
      exact fin _ acc hs hmf e
    have hj : j < L.length := by have := of_decide_eq_false z; omega
    clear z
    rw [List.drop_eq_getElem_cons hj, G_cons] at e
    have hlj := hB.ln _ (List.getElem_mem hj)
    walk_at "st"
    refine r_idxQ hx' (strsD_at hj) ?_
    walk_at "st"
    refine r_split (by decide) (by decide) (sz1000 (by omega)) ?_
    walk_at "st"
    refine r_newT fun q hq => ?_
    walk_at "st"
    refine r_newT fun p hp => ?_
    have hpq : p ≠ q := fun z => by rw [z, mset_same] at hp; cases hp
    have hp' : M' p = none := by rw [mset_ne hpq] at hp; exact hp
    have hfq : f ≠ q := fun z => by rw [← z, hmf] at hq; cases hq
    have hfp : f ≠ p := fun z => by rw [← z, hmf] at hp'; cases hp'
    have hMq := none_sub hs hq
    have hMp := none_sub hs hp'
    walk_at "st"
    have hS : ∀ o o', DL.Sub M (mset (mset M' q o) p o') := fun o o' => sub_upd (sub_upd hs hMq) hMp
    rw [show (j : Int) + 1 = ((j + 1 : Nat) : Int) by omega]
    refine wh6 hB (by rfl) (fun o => by rw [upd_in hpq]; exact dseq_sub (hS _ _) hx) (by rw [upd_in hpq]) ?_
    rw [upd_in hpq]
    obtain ⟨Q1, hQ1⟩ : ∃ Q1, Q1 = run OFp (L.drop (j + 1)) := ⟨_, rfl⟩
    rw [show ([111, 102, 32] : List Nat) = OFp from rfl, ← hQ1]
    have hQl : Q1.length ≤ L.length := by rw [hQ1]; exact Nat.le_trans (run_len _ _) (by rw [List.length_drop]; omega)
    walk_at "st"
    refine wh7 hB (by rfl) (fun o => by rw [mset_mset]; exact dseq_sub (hS _ _) hx) (by rw [mset_mset]) ?_
    rw [mset_mset]
    obtain ⟨P1, hP1⟩ : ∃ P1, P1 = run BYp ((L.drop (j + 1)).drop Q1.length) := ⟨_, rfl⟩
    rw [show ([98, 121, 32] : List Nat) = BYp from rfl, show L.drop (j + 1 + Q1.length) = (L.drop (j + 1)).drop Q1.length by rw [List.drop_drop], ← hP1]
    have hPl : P1.length ≤ L.length := by rw [hP1]; exact Nat.le_trans (run_len _ _) (by rw [List.length_drop, List.length_drop]; omega)
    obtain ⟨M3, hM3⟩ : ∃ M3, M3 = mset (mset M' q (.lst (strsD Q1))) p (.lst (strsD P1)) := ⟨_, rfl⟩
    rw [← hM3]
    have hs3 : DL.Sub M M3 := by rw [hM3]; exact hS _ _
    have hx3 := dseq_sub hs3 hx
    have hm3 : M3 f = some (.lst acc) := by rw [hM3, mset_ne hfp, mset_ne hfq]; exact hmf
    have hq3 : dseq M3 (.ref q) = some (strsD Q1) := by rw [hM3]; exact dseq_ref (by rw [mset_ne (fun z => hpq z.symm), mset_same])
    have hp3 : dseq M3 (.ref p) = some (strsD P1) := by rw [hM3]; exact dseq_ref mset_same
    have no : one L[j] (L.drop (j + 1)) = none → ∀ s3 s4 s5 s6 s7 s8, dAu 2 dIAdd (dC (.int 1)) { nx := N, rt := Wq Q, bk := dRt (dVar 1) { nx := fun x M => Wq Q D.non M, rt := Wq Q }, ct := N } [some x, some (.ref f), some (.int (j : Int)), s3, s4, s5, s6, s7, s8] M3 := by
      intro ho s3 s4 s5 s6 s7 s8
      rw [ho] at e
      walk_at "st"
      exact hN _ _ ⟨j + 1, acc, _, _, _, _, _, _, hs3, hm3, e, by omega, by omega, rfl⟩
    obtain ⟨ws, hws⟩ : ∃ ws, ws = spl [32] 0 [] L[j] := ⟨_, rfl⟩
    rw [← hws]
    have hdrop : (L.drop (j + 1)).drop (Q1.length + P1.length) = L.drop (j + 1 + Q1.length + P1.length) := by rw [List.drop_drop]; congr 1; omega
    have noW : one L[j] (L.drop (j + 1)) = none → (dIfS (dAnd (dTru (dVar 8)) (dTru (dCall sp_law_k04_right [] dX0 (dCons (dOp dIdx (dVar 4) (dC (.int 1))) (dCons (dVar 6) (dCons (dVar 7) dNil)))))) (dSq (dEx (dBM "list" dAppend (dVar 1) (dCons (dTup (dCons (dOp dIdx (dVar 4) (dC (.int 1))) (dCons (dCB dTupOf (dCons (dVar 6) dNil)) (dCons (dCB dTupOf (dCons (dVar 7) dNil)) dNil)))) dNil))) (dAs (dOp (dAdd false) (dVar 5) (dC (.int 1))) (dgN 2))) (dAu 2 dIAdd (dC (.int 1)))) { nx := N, rt := Wq Q, bk := dRt (dVar 1) { nx := fun x M => Wq Q D.non M, rt := Wq Q }, ct := N } [some x, some (.ref f), some (.int (j : Int)), some y, some (.lst (ws.map D.str)), some (.int ((j + 1 + Q1.length + P1.length : Nat) : Int)), some (.ref q), some (.ref p), some (.bl false)] M3 := by
      intro ho
      refine r_if (r_and ?_)
      walk_at "st"
      refine ⟨fun z => Bool.noConfusion z, fun _ => ⟨fun z => Bool.noConfusion z, fun _ => ?_⟩⟩
      exact no ho _ _ _ _ _ _
    walk_at "st"
    refine r_andV ?_
    walk_at "st"
    refine r_lenQ hx3 ?_
    walk_at "st"
    rw [strsD_len]
    have head2 : ∀ w0 w1, ws = [w0, w1] → one L[j] (L.drop (j + 1)) = if w0 = FACTp ∧ (L.drop (j + 1 + Q1.length + P1.length)).head? = some ENDp ∧ right w1 Q1 P1 = true then some (w1, Q1, P1) else none := fun w0 w1 h2 => by
      rw [← hdrop]
      exact one_some (by rw [← hws, h2]) Q1 P1 hQ1 hP1
    have noEnd : (L.drop (j + 1 + Q1.length + P1.length)).head? ≠ some ENDp → one L[j] (L.drop (j + 1)) = none := fun hn => by
      by_cases h2 : ws.length = 2
      · obtain ⟨w0, w1, h3⟩ : ∃ w0 w1, ws = [w0, w1] := by
          match ws, h2 with
          | [a, b], _ => exact ⟨a, b, rfl⟩
        rw [head2 w0 w1 h3, if_neg (fun hh => hn hh.2.1)]
      · exact one_none (by rw [← hws]; exact h2)
    refine ⟨fun z => ?_, fun z => ?_⟩
    rotate_left
    · walk_at "st1"
      refine noW (noEnd ?_)
      rw [List.drop_of_length_le (by have := of_decide_eq_false z; omega)]
      simp
    have hpl : j + 1 + Q1.length + P1.length < L.length := by have := of_decide_eq_true z; omega
    clear z
    have hhd : (L.drop (j + 1 + Q1.length + P1.length)).head? = some (L[j + 1 + Q1.length + P1.length]'hpl) := by rw [List.drop_eq_getElem_cons hpl]; rfl
    refine r_andV ?_
    walk_at "st"
    refine r_idxQ hx3 (strsD_at hpl) ?_
    walk_at "st"
    refine ⟨fun z => ?_, fun z => ?_⟩
    rotate_left
    · walk_at "st1"
      refine noW (noEnd ?_)
      rw [hhd]
      intro hh
      exact of_decide_eq_false z (Option.some.inj hh)
    have hend : L[j + 1 + Q1.length + P1.length]'hpl = ENDp := of_decide_eq_true z
    clear z
    rw [hhd, hend] at head2
    refine r_andV ?_
    walk_at "st"
    rw [List.length_map]
    refine ⟨fun z => ?_, fun z => ?_⟩
    rotate_left
    · walk_at "st1"
      refine noW (one_none ?_)
      rw [← hws]
      have := of_decide_eq_false z
      omega
    have h2 : ws.length = 2 := by have := of_decide_eq_true z; omega
    clear z
    obtain ⟨w0, w1, h3⟩ : ∃ w0 w1, ws = [w0, w1] := by
      match ws, h2 with
      | [a, b], _ => exact ⟨a, b, rfl⟩
    have head3 := head2 w0 w1 h3
    clear head2 noEnd
    subst h3
    walk_at "st"
    refine r_idxL atI_zero ?_
    walk_at "st"
    by_cases hw0 : w0 = FACTp
    rotate_left
    · rw [decide_eq_false hw0]
      exact noW (by rw [head3, if_neg (fun hh => hw0 hh.1)])
    rw [decide_eq_true hw0]
    refine r_if (r_and ?_)
    walk_at "st"
    refine ⟨fun _ => ?_, fun z => Bool.noConfusion z⟩
    walk_at "st"
    refine r_idxL atI_one ?_
    walk_at "st"
    refine ⟨w1, .ref q, .ref p, Q1, P1, rfl, hq3, hp3, ?_, ?_, by omega, ?_⟩
    · rw [hQ1]; exact run_bd fun l hl => hB.ln l (List.mem_of_mem_drop hl)
    · rw [hP1]; exact run_bd fun l hl => hB.ln l (List.mem_of_mem_drop (List.mem_of_mem_drop hl))
    walk_at "st"
    cases hr : right w1 Q1 P1 with
    | false =>
      refine ⟨fun z => Bool.noConfusion z, fun _ => ?_⟩
      refine no ?_ _ _ _ _ _ _
      rw [head3, if_neg (fun hh => by rw [hr] at hh; exact Bool.noConfusion hh.2.2)]
    | true =>
      refine ⟨fun _ => ?_, fun z => Bool.noConfusion z⟩
      rw [if_pos ⟨hw0, rfl, hr⟩] at head3
      rw [head3] at e
      walk_at "st"
      refine r_tyR hm3 ?_
      walk_at "st"
      refine r_idxL atI_one ?_
      walk_at "st"
      refine r_tupQ hq3 ?_
      walk_at "st"
      refine r_tupQ hp3 ?_
      walk_at "st"
      refine r_append hm3 (szlt (by omega)) ?_
      walk_at "st"
      have e : acc ++ (factD w1 Q1 P1 :: G ((L.drop (j + 1)).drop (Q1.length + P1.length + 1))) = G L := e
      refine hN _ _ ⟨j + 1 + Q1.length + P1.length + 1, acc ++ [factD w1 Q1 P1], _, _, _, _, _, _, sub_upd hs3 hf, mset_same, ?_, by simp; omega, by omega, rfl⟩
      rw [List.drop_drop, show j + 1 + (Q1.length + P1.length + 1) = j + 1 + Q1.length + P1.length + 1 by omega] at e
      rw [← e, List.append_assoc]
      rfl
  · rintro δ M' ⟨j, acc, s3, s4, s5, s6, s7, s8, hs, hmf, e, hal, hlen, rfl⟩
    rw [List.length_nil] at hlen
    rw [List.drop_of_length_le (by omega), G_nil, List.append_nil] at e
    walk_at "st"
    exact fin _ acc hs hmf e
end K04

namespace K04
open PySem PySem.Spec PyProof.Rows L2 TL DL
local macro_rules | `(tactic| walk_at "st1") => `(tactic| first
  | with_reducible refine r_sq ?_ | with_reducible refine r_nx ?_ | with_reducible refine r_rt ?_ | with_reducible refine r_rtN ?_ | with_reducible refine r_ex ?_ | with_reducible refine r_as ?_ | with_reducible refine r_bk ?_ | with_reducible refine r_ct ?_
  | ((with_reducible apply r_var); exact rfl) | with_reducible refine r_c ?_ | with_reducible refine r_op ?_ | with_reducible refine r_un ?_ | with_reducible refine r_neg ?_
  | ((with_reducible refine r_dgN rfl ?_); (try simp only [List.set]))
  | with_reducible refine r_dgSub ?_ | with_reducible refine r_dgT rfl ?_ | with_reducible refine r_dga0 ?_ | with_reducible refine r_dga1 ?_ | with_reducible refine r_auS ?_ | ((with_reducible apply r_au); exact rfl)
  | with_reducible refine r_par ?_ | ((with_reducible refine r_kPar rfl ?_); (try simp only [List.set]))
  | with_reducible refine r_addI ?_ | with_reducible refine r_addS ?_ | with_reducible refine r_addT ?_ | with_reducible refine r_addL ?_ | with_reducible refine r_subI ?_ | with_reducible refine r_mulI ?_ | with_reducible refine r_fdiv ?_ | with_reducible refine r_mod ?_ | with_reducible refine r_pow ?_ | with_reducible refine r_shl ?_
  | with_reducible refine r_eqI ?_ | with_reducible refine r_eqS ?_ | with_reducible refine r_eqB ?_ | with_reducible refine r_neI ?_ | with_reducible refine r_neS ?_ | with_reducible refine r_neB ?_ | with_reducible refine r_ltI ?_ | with_reducible refine r_gtI ?_ | with_reducible refine r_leI ?_ | with_reducible refine r_geI ?_ | with_reducible refine r_isN ?_ | with_reducible refine r_notN ?_ | with_reducible refine r_inS ?_
  | with_reducible refine r_test ?_ | with_reducible refine r_kB ?_ | with_reducible refine r_tru ?_ | with_reducible refine r_kTb ?_ | with_reducible refine r_kTi ?_ | with_reducible refine r_kTn ?_ | with_reducible refine r_kTl ?_ | with_reducible refine r_kTt ?_ | with_reducible refine r_kTs ?_ | with_reducible refine r_not ?_ | with_reducible refine r_notV ?_ | with_reducible refine r_yes ?_
  | with_reducible refine r_nil ?_ | with_reducible refine r_cons ?_ | with_reducible refine r_tup ?_ | with_reducible refine r_lst ?_ | with_reducible refine r_newF ?_ | with_reducible refine r_cb ?_
  | with_reducible refine r_lenS ?_ | with_reducible refine r_lenL ?_ | with_reducible refine r_lenT ?_ | with_reducible refine r_lenSrc ?_ | with_reducible refine r_abs ?_ | with_reducible refine r_min2 ?_ | with_reducible refine r_max2 ?_ | with_reducible refine r_intI ?_ | with_reducible refine r_str ?_ | with_reducible refine r_tupT ?_ | with_reducible refine r_tupL ?_ | with_reducible refine r_divmod ?_
  | with_reducible refine r_sl ?_ | with_reducible refine r_noP ?_ | with_reducible refine r_part ?_ | with_reducible refine r_kP ?_ | with_reducible refine r_slS ?_ | with_reducible refine r_slT ?_ | with_reducible refine r_slL ?_ | with_reducible refine r_slSrc ?_
  | with_reducible refine r_bm ?_ | with_reducible refine r_tyS ?_ | with_reducible refine r_starts ?_ | with_reducible refine r_count ?_ | with_reducible refine r_call ?_ | with_reducible refine r_for ?_ | with_reducible refine r_seq ?_ | with_reducible refine r_kIt ?_ | with_reducible refine r_kIl ?_ | with_reducible refine r_kIs ?_ | with_reducible refine r_kIsrc ?_ | with_reducible refine r_r1 ?_ | with_reducible refine r_r2 ?_ | with_reducible refine r_lc ?_
  | with_reducible refine lit0 ?_ | with_reducible refine lit1 ?_ | with_reducible refine lit2 ?_ | with_reducible refine lit3 ?_ | with_reducible refine lit4 ?_ | with_reducible refine lit5 ?_ | with_reducible refine lit6 ?_ | with_reducible refine lit7 ?_
  | fail)
local macro_rules | `(tactic| walk_at "st") => `(tactic| repeat (first | walk_at "st1" | dsimp only))
local macro_rules | `(tactic| walk_at "go") => `(tactic| (simp only [dstart, dEnd, List.map_cons, List.map_nil, List.length_cons, List.length_nil, Nat.reduceAdd, Nat.reduceSub, Nat.zero_add, List.replicate, List.cons_append, List.nil_append]; walk_at "st"))

theorem mset_id {M : Mu} {a : Addr} {o : DO} (h : M a = some o) : mset M a o = M := by
  funext b
  unfold mset
  by_cases e : b = a
  · rw [if_pos e, e, h]
  · rw [if_neg e]
theorem gen_lines {δw : DEnv} {a : Addr} {M : Mu} {o : DO} {k n : Nat} {Q : List D → Mu → Prop} (h0 : ∀ x, (δw.set 4 x)[0]? = some (some (.ref a))) (hM : M a = some o) (hS : Src (k + 3 * n) o) (hn : n ≤ 1000)
    (hQ : ∀ L o', L.length = n → (∀ l ∈ L, l ≠ [] ∧ 10 ∉ l ∧ l.length ≤ 30) → Src k o' → Q (strsD L) (mset M a o')) :
    dLcGo (fun _ => True) (dgN 4) dYes (dCall sp_law_k04_line [] dX0 (dCons (dVar 0) dNil)) δw (rngD 0 n) [] M Q := by
  refine lc_inv (fun xs acc M' => ∃ (L : List (List Nat)) (o' : DO), acc = strsD L ∧ L.length + xs.length = n ∧ (∀ l ∈ L, l ≠ [] ∧ 10 ∉ l ∧ l.length ≤ 30) ∧ M' = mset M a o' ∧ Src (k + 3 * xs.length) o') (fun _ _ _ _ => trivial) ?_ ?_ _ _ _ ⟨[], o, rfl, by rw [rngD_len]; simp, by simp, (mset_id hM).symm, by rw [rngD_len]; exact hS⟩
  · rintro x xs acc M' N ⟨L, o', rfl, hl, hL, rfl, hS'⟩ hN
    rw [List.length_cons] at hl hS'
    refine r_dgN rfl (r_yes ?_)
    refine r_call (r_cons (r_var (h0 _) (r_nil ?_)))
    refine ⟨a, o', k + 3 * xs.length, rfl, mset_same, hS'.less (by omega), fun l o2 l1 l2 l3 hS2 => ?_⟩
    rw [mset_mset]
    refine ⟨szlt (by rw [strsD_len]; omega), hN _ _ ⟨L ++ [l], o2, by rw [← strsD_app]; rfl, by simp; omega, ?_, rfl, hS2⟩⟩
    intro z hz
    rcases List.mem_append.mp hz with hz | hz
    · exact hL z hz
    · rw [List.mem_singleton.mp hz]; exact ⟨l1, l2, l3⟩
  · rintro acc M' ⟨L, o', rfl, hl, hL, rfl, hS'⟩
    exact hQ L o' (by simpa using hl) hL (hS'.less (by omega))
theorem pair_spl {a b : List Nat} (ha : 32 ∉ a) (hb : 32 ∉ b) : spl [32] 0 [] ([112, 97, 105, 114, 32] ++ a ++ [32] ++ b) = [PAIRp, a, b] := by
  have := spl_join (s := 32) (S := []) (parts := [PAIRp, a, b]) (by simp) (by
    intro p hp
    simp only [List.mem_cons, List.not_mem_nil, or_false] at hp
    rcases hp with rfl | rfl | rfl
    · decide
    · exact ha
    · exact hb)
  rw [← this]
  simp [joinL]
theorem right_last {w : List Nat} (hw : w = SAME ∨ w = UNLIKE) (q : List (List Nat)) (z : List Nat) (p : List (List Nat)) : right w (q ++ [z]) p = lastR w z (q ++ [z]) p := by
  have n1 : w ∉ [KEPT, BROKEN] := by rcases hw with rfl | rfl <;> decide
  have n2 : w ≠ ORDER := by rcases hw with rfl | rfl <;> decide
  have n3 : ¬ w ∉ [SAME, UNLIKE] := by rcases hw with rfl | rfl <;> decide
  refine ((if_neg n1).trans ((if_neg n2).trans (if_neg n3))).trans ?_
  rw [List.getLast?_append]
  rfl
theorem lastR_ok {w z : List Nat} {q p : List (List Nat)} (h2 : 2 ≤ q.length) {a b : List Nat} (hz : spl [32] 0 [] z = [PAIRp, a, b]) : lastR w z q p = if w = UNLIKE then decide (p.length = 1) else p.all fun l => decide (l.take 4 = ONEp) || decide (l.take 6 = OTHp) := by
  refine if_neg ?_
  rw [hz]
  rintro (h | h | h)
  · omega
  · exact h rfl
  · exact h rfl
theorem sem_law_k04_fact (ds : List D) (M : Mu) (Q : DK) (E : DXK) (h : sp_law_k04_fact ds M Q E) : t_law_k04_fact (dEnd Q) (dstart 6 ds) M := by
  obtain ⟨a, o, k, rfl, hM, hS, h⟩ := h
  unfold t_law_k04_fact
  walk_at "go"
  refine ⟨a, _, o, k + 49, rfl, hM, hS, by decide, by decide, fun x o1 hx hS1 => ?_⟩
  have hx : ∃ z : List Nat, x = .str z ∧ z ∈ [KEPT, BROKEN, ORDER, SAME, UNLIKE] := by
    simp only [List.mem_cons, List.not_mem_nil, or_false] at hx
    rcases hx with rfl | rfl | rfl | rfl | rfl <;> exact ⟨_, rfl, by decide⟩
  obtain ⟨w, rfl, hw⟩ := hx
  walk_at "st"
  refine ⟨a, 4, o1, k + 48, rfl, mset_same, hS1, by decide, by decide, fun r1 o2 r10 r11 hS2 => ?_⟩
  rw [mset_mset]
  walk_at "st"
  refine r_kR1 (by omega) (by omega) ?_
  obtain ⟨n, hn⟩ : ∃ n : Nat, (1 + r1).toNat = n := ⟨_, rfl⟩
  rw [hn]
  refine gen_lines (a := a) (o := o2) (k := k + 30) (fun _ => rfl) mset_same (hS2.less (by omega)) (by omega) fun q o3 hq1 hq2 hS3 => ?_
  rw [mset_mset]
  walk_at "st"
  refine ⟨a, 3, o3, k + 29, rfl, mset_same, hS3, by decide, by decide, fun r2 o4 r20 r21 hS4 => ?_⟩
  rw [mset_mset]
  walk_at "st"
  refine r_kR1 (by omega) (by omega) ?_
  obtain ⟨m, hm⟩ : ∃ m : Nat, (1 + r2).toNat = m := ⟨_, rfl⟩
  rw [hm]
  refine gen_lines (a := a) (o := o4) (k := k + 15) (fun _ => rfl) mset_same (hS4.less (by omega)) (by omega) fun p o5 hp1 hp2 hS5 => ?_
  rw [mset_mset]
  have hq3 : ∀ l ∈ q, l ≠ [] ∧ 10 ∉ l ∧ l.length ≤ 90 := fun l hl => ⟨(hq2 l hl).1, (hq2 l hl).2.1, by have := (hq2 l hl).2.2; omega⟩
  have hp3 : ∀ l ∈ p, l ≠ [] ∧ 10 ∉ l ∧ l.length ≤ 90 := fun l hl => ⟨(hp2 l hl).1, (hp2 l hl).2.1, by have := (hp2 l hl).2.2; omega⟩
  have hpt : ∀ l ∈ p.take 1, l ≠ [] ∧ 10 ∉ l ∧ l.length ≤ 90 := fun l hl => hp3 l (List.mem_of_mem_take hl)
  walk_at "st"
  refine r_if ?_
  walk_at "st"
  refine ⟨fun z => ?_, fun z => ?_⟩
  · -- order
    have z := of_decide_eq_true z
    subst z
    walk_at "st"
    refine ⟨sz1000 (by rw [strsD_len]; simp; omega), ?_⟩
    walk_at "st"
    rw [show strsD q ++ [D.str [50]] = strsD (q ++ [[50]]) by rw [← strsD_app]; rfl, show (2 : Int) = ((2 : Nat) : Int) from rfl, cutL_none_nat, show (strsD (q ++ [[50]])).take 2 = strsD ((q ++ [[50]]).take 2) by unfold strsD; rw [List.map_take]]
    walk_at "st"
    rw [show (1 : Int) = ((1 : Nat) : Int) from rfl, cutL_none_nat, show (strsD p).take 1 = strsD (p.take 1) by unfold strsD; rw [List.map_take]]
    walk_at "st"
    refine r_if ?_
    walk_at "st"
    refine r_inTs [SAME, UNLIKE] ?_
    walk_at "st"
    refine ⟨fun z => absurd z (by decide), fun _ => ?_⟩
    walk_at "st"
    refine r_if ?_
    walk_at "st"
    refine ⟨fun z => absurd z (by decide), fun _ => ?_⟩
    walk_at "st"
    refine r_if ?_
    walk_at "st"
    refine ⟨fun z => absurd z (by decide), fun _ => ?_⟩
    walk_at "st"
    refine Wq.now (h _ _ _ o5 ⟨hw, by rw [List.length_take]; omega, by rw [List.length_take]; omega, ?_, hpt, ?_⟩ (hS5.less (by omega)))
    · intro l hl
      rcases List.mem_append.mp (List.mem_of_mem_take hl) with hl | hl
      · exact hq3 l hl
      · rw [List.mem_singleton.mp hl]; decide
    · have e1 : ((q ++ [[50]]).take 2).length = 2 := by rw [List.length_take, List.length_append, List.length_singleton]; omega
      have e2 : (p.take 1).length = 1 := by rw [List.length_take]; omega
      refine ((if_neg (by decide)).trans (if_pos rfl)).trans ?_
      rw [e1, e2]
      rfl
  have z1 := of_decide_eq_false z
  clear z
  walk_at "st"
  refine r_if ?_
  walk_at "st"
  refine r_inTs [SAME, UNLIKE] ?_
  walk_at "st"
  refine ⟨fun z => ?_, fun z => ?_⟩
  rotate_left
  · -- kept, broken
    have hn : w ∉ [SAME, UNLIKE] := by simpa using z
    have hk : w ∈ [KEPT, BROKEN] := by
      simp only [List.mem_cons, List.not_mem_nil, or_false] at hw hn ⊢
      rcases hw with h | h | h | h | h
      · exact .inl h
      · exact .inr h
      · exact absurd h z1
      · exact absurd (.inl h) hn
      · exact absurd (.inr h) hn
    have hu : w ≠ UNLIKE := fun e => hn (by rw [e]; decide)
    have hs : w ≠ SAME := fun e => hn (by rw [e]; decide)
    walk_at "st"
    refine r_if ?_
    walk_at "st"
    refine ⟨fun z => absurd (of_decide_eq_true z) hu, fun _ => ?_⟩
    walk_at "st"
    refine r_if ?_
    walk_at "st"
    refine ⟨fun z => absurd (of_decide_eq_true z) hs, fun _ => ?_⟩
    walk_at "st"
    refine Wq.now (h w q p o5 ⟨hw, by omega, by omega, hq3, hp3, ?_⟩ (hS5.less (by omega)))
    refine (if_pos hk).trans ?_
    rw [decide_eq_true (by omega), decide_eq_true (by omega)]
    rfl
  have hsu : w = SAME ∨ w = UNLIKE := by
    have : w ∈ [SAME, UNLIKE] := by simpa using z
    simpa only [List.mem_cons, List.not_mem_nil, or_false] using this
  clear z
  walk_at "st"
  refine ⟨a, _, o5, k + 14, rfl, mset_same, hS5, by decide, by decide, fun x o6 hx hS6 => ?_⟩
  rw [mset_mset]
  obtain ⟨pa, rfl, pa1, pa2, pa3⟩ : ∃ z : List Nat, x = .str z ∧ 32 ∉ z ∧ 10 ∉ z ∧ z.length ≤ 2 := by
    simp only [List.mem_cons, List.not_mem_nil, or_false] at hx
    rcases hx with rfl | rfl | rfl <;> exact ⟨_, rfl, by decide, by decide, by decide⟩
  walk_at "st"
  refine ⟨sz1000 (by simp; omega), ?_⟩
  walk_at "st"
  refine ⟨sz1000 (by simp; omega), ?_⟩
  walk_at "st"
  refine ⟨a, _, o6, k + 13, rfl, mset_same, hS6, by decide, by decide, fun x o7 hx hS7 => ?_⟩
  rw [mset_mset]
  obtain ⟨pb, rfl, pb1, pb2, pb3⟩ : ∃ z : List Nat, x = .str z ∧ 32 ∉ z ∧ 10 ∉ z ∧ z.length ≤ 2 := by
    simp only [List.mem_cons, List.not_mem_nil, or_false] at hx
    rcases hx with rfl | rfl | rfl <;> exact ⟨_, rfl, by decide, by decide, by decide⟩
  walk_at "st"
  refine ⟨sz1000 (by simp; omega), ?_⟩
  walk_at "st"
  refine ⟨sz1000 (by rw [strsD_len]; simp; omega), ?_⟩
  obtain ⟨z, hz⟩ : ∃ z, z = [112, 97, 105, 114, 32] ++ pa ++ [32] ++ pb := ⟨_, rfl⟩
  rw [← hz, show strsD q ++ [D.str z] = strsD (q ++ [z]) by rw [← strsD_app]; rfl]
  have hzs : spl [32] 0 [] z = [PAIRp, pa, pb] := by rw [hz]; exact pair_spl pa1 pb1
  have hzg : z ≠ [] ∧ 10 ∉ z ∧ z.length ≤ 90 := by
    rw [hz]
    refine ⟨by simp, by simp [pa2, pb2], by simp; omega⟩
  have hqz : ∀ l ∈ q ++ [z], l ≠ [] ∧ 10 ∉ l ∧ l.length ≤ 90 := by
    intro l hl
    rcases List.mem_append.mp hl with hl | hl
    · exact hq3 l hl
    · rw [List.mem_singleton.mp hl]; exact hzg
  have hql : (q ++ [z]).length ≤ 10 := by simp; omega
  have hq2' : 2 ≤ (q ++ [z]).length := by simp; omega
  rcases hsu with rfl | rfl
  · -- same
    walk_at "st"
    refine r_if ?_
    walk_at "st"
    refine ⟨fun z => absurd z (by decide), fun _ => ?_⟩
    walk_at "st"
    refine r_if ?_
    walk_at "st"
    refine ⟨fun _ => ?_, fun z => absurd z (by decide)⟩
    walk_at "st"
    refine ⟨a, 4, o7, k + 12, rfl, mset_same, hS7, by decide, by decide, fun r3 o8 r30 r31 hS8 => ?_⟩
    rw [mset_mset]
    obtain ⟨c, rfl⟩ := Int.eq_ofNat_of_zero_le r30
    walk_at "st"
    rw [cutL_none_nat, show (strsD p).take c = strsD (p.take c) by unfold strsD; rw [List.map_take]]
    have hptc : ∀ l ∈ p.take c, l ∈ p := fun l hl => List.mem_of_mem_take hl
    have hpcl : (p.take c).length ≤ 3 := by rw [List.length_take]; omega
    generalize p.take c = pc at hptc hpcl ⊢
    refine lc_inv (fun xs acc M' => ∃ (L R : List (List Nat)) (o' : DO), acc = strsD L ∧ xs = strsD R ∧ L.length + R.length = pc.length ∧ (∀ l ∈ R, l ∈ p) ∧ (∀ l ∈ L, (l ≠ [] ∧ 10 ∉ l ∧ l.length ≤ 90) ∧ (decide (l.take 4 = ONEp) || decide (l.take 6 = OTHp)) = true) ∧ M' = mset M a o' ∧ Src (k + xs.length) o') (fun _ _ _ _ => trivial) ?_ ?_ _ _ _ ⟨[], pc, o8, rfl, rfl, by simp, hptc, by simp, rfl, hS8.less (by rw [strsD_len]; omega)⟩
    · rintro x xs acc M' N ⟨L, R, o', rfl, e, hlen, hR, hL, rfl, hS'⟩ hN
      cases R with
      | nil => cases e
      | cons l R =>
        have e : x :: xs = .str l :: strsD R := e
        obtain ⟨rfl, rfl⟩ := List.cons.inj e
        rw [List.length_cons] at hS' hlen
        have hl := hp3 l (hR l (List.mem_cons_self ..))
        simp only [dwipe, List.set]
        walk_at "st"
        refine ⟨a, _, o', k + (strsD R).length, rfl, mset_same, hS', by decide, by decide, fun x o2 hx hS2 => ?_⟩
        rw [mset_mset]
        have hx : x = .str ONEp ∨ x = .str OTHp := by
          simpa only [List.mem_cons, List.not_mem_nil, or_false] using hx
        have hl30 : l.length ≤ 30 := (hp2 l (hR l (List.mem_cons_self ..))).2.2
        rcases hx with rfl | rfl
        · walk_at "st"
          refine ⟨sz1000 (by simp; omega), szlt (by rw [strsD_len]; omega), hN _ _ ⟨L ++ [ONEp ++ l], R, o2, by rw [← strsD_app]; rfl, rfl, by simp; omega, fun l hl => hR l (List.mem_cons_of_mem _ hl), ?_, rfl, hS2⟩⟩
          intro y hy
          rcases List.mem_append.mp hy with hy | hy
          · exact hL y hy
          · rw [List.mem_singleton.mp hy]
            exact ⟨⟨by simp, by simp [hl.2.1], by simp; omega⟩, by simp⟩
        · walk_at "st"
          refine ⟨sz1000 (by simp; omega), szlt (by rw [strsD_len]; omega), hN _ _ ⟨L ++ [OTHp ++ l], R, o2, by rw [← strsD_app]; rfl, rfl, by simp; omega, fun l hl => hR l (List.mem_cons_of_mem _ hl), ?_, rfl, hS2⟩⟩
          intro y hy
          rcases List.mem_append.mp hy with hy | hy
          · exact hL y hy
          · rw [List.mem_singleton.mp hy]
            exact ⟨⟨by simp, by simp [hl.2.1], by simp; omega⟩, by simp⟩
    · rintro acc M' ⟨L, R, o', rfl, e, hlen, hR, hL, rfl, hS'⟩
      cases R with
      | cons l R => cases e
      | nil =>
        walk_at "st"
        refine Wq.now (h _ (q ++ [z]) L o' ⟨hw, hql, by simp at hlen; omega, hqz, fun l hl => (hL l hl).1, ?_⟩ (hS'.less (by omega)))
        rw [right_last (.inl rfl), lastR_ok hq2' hzs, if_neg (by decide), List.all_eq_true]
        intro l hl
        exact (hL l hl).2
  · -- unlike
    walk_at "st"
    refine r_if ?_
    walk_at "st"
    refine ⟨fun _ => ?_, fun z => absurd z (by decide)⟩
    walk_at "st"
    rw [show (1 : Int) = ((1 : Nat) : Int) from rfl, cutL_none_nat, show (strsD p).take 1 = strsD (p.take 1) by unfold strsD; rw [List.map_take]]
    walk_at "st"
    refine r_if ?_
    walk_at "st"
    refine ⟨fun z => absurd z (by decide), fun _ => ?_⟩
    walk_at "st"
    refine Wq.now (h _ (q ++ [z]) (p.take 1) o7 ⟨hw, hql, by rw [List.length_take]; omega, hqz, hpt, ?_⟩ (hS7.less (by omega)))
    have e2 : (p.take 1).length = 1 := by rw [List.length_take]; omega
    rw [right_last (.inr rfl), lastR_ok hq2' hzs, if_pos rfl, e2]
    rfl
end K04

namespace K04
open PySem PySem.Spec PyProof.Rows L2 TL DL
local macro_rules | `(tactic| walk_at "st1") => `(tactic| first
  | with_reducible refine r_sq ?_ | with_reducible refine r_nx ?_ | with_reducible refine r_rt ?_ | with_reducible refine r_rtN ?_ | with_reducible refine r_ex ?_ | with_reducible refine r_as ?_ | with_reducible refine r_bk ?_ | with_reducible refine r_ct ?_
  | ((with_reducible apply r_var); exact rfl) | with_reducible refine r_c ?_ | with_reducible refine r_op ?_ | with_reducible refine r_un ?_ | with_reducible refine r_neg ?_
  | ((with_reducible refine r_dgN rfl ?_); (try simp only [List.set]))
  | with_reducible refine r_dgSub ?_ | with_reducible refine r_dgT rfl ?_ | with_reducible refine r_dga0 ?_ | with_reducible refine r_dga1 ?_ | with_reducible refine r_auS ?_ | ((with_reducible apply r_au); exact rfl)
  | with_reducible refine r_par ?_ | ((with_reducible refine r_kPar rfl ?_); (try simp only [List.set]))
  | with_reducible refine r_addI ?_ | with_reducible refine r_addS ?_ | with_reducible refine r_addT ?_ | with_reducible refine r_addL ?_ | with_reducible refine r_subI ?_ | with_reducible refine r_mulI ?_ | with_reducible refine r_fdiv ?_ | with_reducible refine r_mod ?_ | with_reducible refine r_pow ?_ | with_reducible refine r_shl ?_
  | with_reducible refine r_eqI ?_ | with_reducible refine r_eqS ?_ | with_reducible refine r_eqB ?_ | with_reducible refine r_neI ?_ | with_reducible refine r_neS ?_ | with_reducible refine r_neB ?_ | with_reducible refine r_ltI ?_ | with_reducible refine r_gtI ?_ | with_reducible refine r_leI ?_ | with_reducible refine r_geI ?_ | with_reducible refine r_isN ?_ | with_reducible refine r_notN ?_ | with_reducible refine r_inS ?_
  | with_reducible refine r_test ?_ | with_reducible refine r_kB ?_ | with_reducible refine r_tru ?_ | with_reducible refine r_kTb ?_ | with_reducible refine r_kTi ?_ | with_reducible refine r_kTn ?_ | with_reducible refine r_kTl ?_ | with_reducible refine r_kTt ?_ | with_reducible refine r_kTs ?_ | with_reducible refine r_not ?_ | with_reducible refine r_notV ?_ | with_reducible refine r_yes ?_
  | with_reducible refine r_nil ?_ | with_reducible refine r_cons ?_ | with_reducible refine r_tup ?_ | with_reducible refine r_lst ?_ | with_reducible refine r_newF ?_ | with_reducible refine r_cb ?_
  | with_reducible refine r_lenS ?_ | with_reducible refine r_lenL ?_ | with_reducible refine r_lenT ?_ | with_reducible refine r_lenSrc ?_ | with_reducible refine r_abs ?_ | with_reducible refine r_min2 ?_ | with_reducible refine r_max2 ?_ | with_reducible refine r_intI ?_ | with_reducible refine r_str ?_ | with_reducible refine r_tupT ?_ | with_reducible refine r_tupL ?_ | with_reducible refine r_divmod ?_
  | with_reducible refine r_sl ?_ | with_reducible refine r_noP ?_ | with_reducible refine r_part ?_ | with_reducible refine r_kP ?_ | with_reducible refine r_slS ?_ | with_reducible refine r_slT ?_ | with_reducible refine r_slL ?_ | with_reducible refine r_slSrc ?_
  | with_reducible refine r_bm ?_ | with_reducible refine r_tyS ?_ | with_reducible refine r_starts ?_ | with_reducible refine r_count ?_ | with_reducible refine r_call ?_ | with_reducible refine r_for ?_ | with_reducible refine r_seq ?_ | with_reducible refine r_kIt ?_ | with_reducible refine r_kIl ?_ | with_reducible refine r_kIs ?_ | with_reducible refine r_kIsrc ?_ | with_reducible refine r_r1 ?_ | with_reducible refine r_r2 ?_ | with_reducible refine r_lc ?_
  | with_reducible refine lit0 ?_ | with_reducible refine lit1 ?_ | with_reducible refine lit2 ?_ | with_reducible refine lit3 ?_ | with_reducible refine lit4 ?_ | with_reducible refine lit5 ?_ | with_reducible refine lit6 ?_ | with_reducible refine lit7 ?_
  | fail)
local macro_rules | `(tactic| walk_at "st") => `(tactic| repeat (first | walk_at "st1" | dsimp only))
local macro_rules | `(tactic| walk_at "go") => `(tactic| (simp only [dstart, dEnd, List.map_cons, List.map_nil, List.length_cons, List.length_nil, Nat.reduceAdd, Nat.reduceSub, Nat.zero_add, List.replicate, List.cons_append, List.nil_append]; walk_at "st"))

theorem cut_mem {α : Type} {xs : List α} {lo hi : Option Int} {x : α} (h : x ∈ cutL xs lo hi) : x ∈ xs := List.mem_of_mem_drop (List.mem_of_mem_take h)
theorem cut_len {α : Type} (xs : List α) (lo hi : Option Int) : (cutL xs lo hi).length ≤ xs.length := by
  unfold cutL
  rw [List.length_take, List.length_drop]
  omega
theorem cut_strsD (L : List (List Nat)) (lo hi : Option Int) : cutL (strsD L) lo hi = strsD (cutL L lo hi) := by
  unfold cutL strsD
  rw [List.length_map, List.map_take, List.map_drop]
def Ln (l : List Nat) : Prop := 10 ∉ l ∧ l.length ≤ 120
theorem sem_law_k04_spoilt (ds : List D) (M : Mu) (Q : DK) (E : DXK) (h : sp_law_k04_spoilt ds M Q E) : t_law_k04_spoilt (dEnd Q) (dstart 4 ds) M := by
  obtain ⟨a, o, k, L, rfl, hM, hS, hl3, hl30, hL, h⟩ := h
  unfold t_law_k04_spoilt
  walk_at "go"
  refine ⟨a, 9, o, k + 2, rfl, hM, hS, by decide, by decide, fun way o1 _ _ hS1 => ?_⟩
  walk_at "st"
  rw [strsD_len]
  refine ⟨a, _, o1, k + 1, rfl, mset_same, hS1, by omega, ?_, fun r o2 r0 r1 hS2 => ?_⟩
  · have : (30 : Int) < 2 ^ 1000 := by decide +kernel
    omega
  rw [mset_mset]
  obtain ⟨j, rfl⟩ := Int.eq_ofNat_of_zero_le r0
  have hj : j < L.length := by omega
  have hgl : ∀ l ∈ L, Ln l := fun l hl => ⟨(hL l hl).1, by have := (hL l hl).2; omega⟩
  have gc : ∀ lo hi, ∀ l ∈ cutL L lo hi, Ln l := fun lo hi l hl => hgl l (cut_mem hl)
  have gl : ∀ lo hi, (cutL L lo hi).length ≤ 30 := fun lo hi => Nat.le_trans (cut_len _ _ _) hl30
  have gls : ∀ lo hi, (strsD (cutL L lo hi)).length ≤ 30 := fun lo hi => by rw [strsD_len]; exact gl lo hi
  have sgl : ∀ x : List Nat, strsD [x] = [D.str x] := fun _ => rfl
  have out : ∀ L' : List (List Nat), L'.length ≤ 40 → (∀ l ∈ L', Ln l) → ∀ o', Src k o' → Wq Q (.lst (strsD L')) (mset M a o') := fun L' h1 h2 o' h3 => Wq.now (h L' o' h1 h2 h3)
  have hSk : Src k o2 := hS2.less (by omega)
  have app3 : ∀ (A B C : List (List Nat)), (∀ l ∈ A, Ln l) → (∀ l ∈ B, Ln l) → (∀ l ∈ C, Ln l) → ∀ l ∈ A ++ B ++ C, Ln l := by
    intro A B C h1 h2 h3 l hl
    rcases List.mem_append.mp hl with hl | hl
    · rcases List.mem_append.mp hl with hl | hl
      · exact h1 l hl
      · exact h2 l hl
    · exact h3 l hl
  have app2 : ∀ (A B : List (List Nat)), (∀ l ∈ A, Ln l) → (∀ l ∈ B, Ln l) → ∀ l ∈ A ++ B, Ln l := by
    intro A B h1 h2 l hl
    rcases List.mem_append.mp hl with hl | hl
    · exact h1 l hl
    · exact h2 l hl
  have one1 : ∀ x : List Nat, Ln x → ∀ l ∈ [x], Ln l := fun x hx l hl => by rw [List.mem_singleton.mp hl]; exact hx
  walk_at "st"
  refine r_if ?_
  walk_at "st"
  refine ⟨fun _ => ?_, fun _ => ?_⟩
  · walk_at "st"
    try simp only [cut_strsD]
    exact out _ (by have := gl none (some (j : Int)); omega) (gc _ _) _ hSk
  walk_at "st"
  refine r_if ?_
  walk_at "st"
  refine ⟨fun _ => ?_, fun _ => ?_⟩
  · walk_at "st"
    try simp only [cut_strsD]
    refine ⟨sz1000 (by have := gls none (some (j : Int)); have := gls (some ((j : Int) + 1)) none; omega), ?_⟩
    walk_at "st"
    rw [strsD_app]
    refine out _ ?_ (app2 _ _ (gc _ _) (gc _ _)) _ hSk
    have h1 : (cutL L none (some (j : Int))).length = j := by rw [cutL_none_nat, List.length_take]; omega
    have h2 : (cutL L (some ((j : Int) + 1)) none).length = L.length - (j + 1) := by rw [show (j : Int) + 1 = ((j + 1 : Nat) : Int) by omega, cutL_nat_none, List.length_drop]
    rw [List.length_append]
    omega
  have h1 : (cutL L none (some (j : Int))).length = j := by rw [cutL_none_nat, List.length_take]; omega
  have h2 : (cutL L (some ((j : Int) + 1)) none).length = L.length - (j + 1) := by rw [show (j : Int) + 1 = ((j + 1 : Nat) : Int) by omega, cutL_nat_none, List.length_drop]
  have h3 : (cutL L (some (j : Int)) none).length = L.length - j := by rw [cutL_nat_none, List.length_drop]
  have g1 : (strsD (cutL L none (some (j : Int)))).length = j := by rw [strsD_len, h1]
  have g2 : (strsD (cutL L (some ((j : Int) + 1)) none)).length = L.length - (j + 1) := by rw [strsD_len, h2]
  have g3 : (strsD (cutL L (some (j : Int)) none)).length = L.length - j := by rw [strsD_len, h3]
  walk_at "st"
  refine r_if ?_
  walk_at "st"
  refine ⟨fun _ => ?_, fun _ => ?_⟩
  · have hlj := hL _ (List.getElem_mem hj)
    walk_at "st"
    refine r_idxL (strsD_at hj) ?_
    walk_at "st"
    try simp only [cut_strsD]
    refine ⟨sz1000 (by have := hlj.2; simp; omega), ?_⟩
    walk_at "st"
    try simp only [cut_strsD]
    refine ⟨sz1000 (by rw [g1]; simp; omega), ?_⟩
    walk_at "st"
    try simp only [cut_strsD]
    refine ⟨sz1000 (by rw [List.length_append, g1, g2]; simp; omega), ?_⟩
    walk_at "st"
    rw [← sgl, strsD_app, strsD_app]
    refine out _ (by rw [List.length_append, List.length_append, h1, h2]; simp; omega) (app3 _ _ _ (gc _ _) (one1 _ ⟨?_, ?_⟩) (gc _ _)) _ hSk
    · have := hlj.1; simp [this]
    · have := hlj.2; simp; omega
  walk_at "st"
  refine r_if ?_
  walk_at "st"
  refine ⟨fun _ => ?_, fun _ => ?_⟩
  · walk_at "st"
    try simp only [cut_strsD]
    refine ⟨sz1000 (by rw [g1]; simp; omega), ?_⟩
    walk_at "st"
    try simp only [cut_strsD]
    refine ⟨sz1000 (by rw [List.length_append, g1, g3]; simp; omega), ?_⟩
    walk_at "st"
    rw [← sgl, strsD_app, strsD_app]
    refine out _ (by rw [List.length_append, List.length_append, h1, h3]; simp; omega) (app3 _ _ _ (gc _ _) (one1 _ ⟨by decide, by decide⟩) (gc _ _)) _ hSk
  walk_at "st"
  refine r_if ?_
  walk_at "st"
  have t1 : ∀ lo hi, (strsD (cutL L lo hi)).length ≤ 30 := gls
  refine ⟨fun _ => ?_, fun _ => ?_⟩
  · walk_at "st"
    refine ⟨a, _, o2, k, rfl, mset_same, hS2, by decide, by decide, fun x o3 hx hS3 => ?_⟩
    rw [mset_mset]
    obtain ⟨z, rfl, z1, z2⟩ : ∃ z : List Nat, x = .str z ∧ 10 ∉ z ∧ z.length ≤ 10 := by
      simp only [List.mem_cons, List.not_mem_nil, or_false] at hx
      rcases hx with rfl | rfl | rfl | rfl | rfl | rfl | rfl <;> exact ⟨_, rfl, by decide, by decide⟩
    walk_at "st"
    try simp only [cut_strsD]
    refine ⟨sz1000 (by simp; omega), ?_⟩
    walk_at "st"
    try simp only [cut_strsD]
    refine ⟨sz1000 (by have := t1 (some 1) none; simp; omega), ?_⟩
    walk_at "st"
    rw [← sgl, strsD_app]
    refine out _ (by have := gl (some 1) none; simp; omega) (app2 _ _ (one1 _ ⟨by simp [z1], by simp; omega⟩) (gc _ _)) _ hS3
  walk_at "st"
  refine r_if ?_
  walk_at "st"
  refine ⟨fun _ => ?_, fun _ => ?_⟩
  · walk_at "st"
    refine ⟨a, _, o2, k, rfl, mset_same, hS2, by decide, by decide, fun x o3 hx hS3 => ?_⟩
    rw [mset_mset]
    obtain ⟨z, rfl, z1, z2⟩ : ∃ z : List Nat, x = .str z ∧ 10 ∉ z ∧ z.length ≤ 10 := by
      simp only [List.mem_cons, List.not_mem_nil, or_false] at hx
      rcases hx with rfl | rfl | rfl | rfl | rfl | rfl | rfl <;> exact ⟨_, rfl, by decide, by decide⟩
    walk_at "st"
    try simp only [cut_strsD]
    refine ⟨sz1000 (by rw [g1]; simp; omega), ?_⟩
    walk_at "st"
    try simp only [cut_strsD]
    refine ⟨sz1000 (by rw [List.length_append, g1, g3]; simp; omega), ?_⟩
    walk_at "st"
    rw [← sgl, strsD_app, strsD_app]
    refine out _ (by rw [List.length_append, List.length_append, h1, h3]; simp; omega) (app3 _ _ _ (gc _ _) (one1 _ ⟨z1, by omega⟩) (gc _ _)) _ hS3
  walk_at "st"
  refine r_if ?_
  walk_at "st"
  refine ⟨fun _ => ?_, fun _ => ?_⟩
  · walk_at "st"
    refine ⟨a, _, o2, k, rfl, mset_same, hS2, by decide, by decide, fun x o3 hx hS3 => ?_⟩
    rw [mset_mset]
    obtain ⟨z, rfl, z1, z2⟩ : ∃ z : List Nat, x = .str z ∧ 10 ∉ z ∧ z.length ≤ 10 := by
      simp only [List.mem_cons, List.not_mem_nil, or_false] at hx
      rcases hx with rfl | rfl | rfl | rfl <;> exact ⟨_, rfl, by decide, by decide⟩
    walk_at "st"
    try simp only [cut_strsD]
    refine ⟨sz1000 (by have := t1 none (some (-1)); simp; omega), ?_⟩
    walk_at "st"
    rw [← sgl, strsD_app]
    refine out _ (by have := gl none (some (-1)); simp; omega) (app2 _ _ (gc _ _) (one1 _ ⟨z1, by omega⟩)) _ hS3
  walk_at "st"
  refine r_if ?_
  walk_at "st"
  refine ⟨fun _ => ?_, fun _ => ?_⟩
  · have h0 : 0 < L.length := by omega
    have hl0 := hL _ (List.getElem_mem h0)
    walk_at "st"
    refine r_idxL (strsD_at (j := 0) h0) ?_
    walk_at "st"
    try simp only [cut_strsD]
    refine ⟨sz1000 (by have := hl0.2; simp; omega), ?_⟩
    walk_at "st"
    try simp only [cut_strsD]
    refine ⟨sz1000 (by have := t1 (some 1) none; simp; omega), ?_⟩
    walk_at "st"
    rw [← sgl, strsD_app]
    refine out _ (by have := gl (some 1) none; simp; omega) (app2 _ _ (one1 _ ⟨?_, ?_⟩) (gc _ _)) _ hSk
    · have := hl0.1; simp [this]
    · have := hl0.2; simp; omega
  walk_at "st"
  try simp only [cut_strsD]
  refine ⟨sz1000 (by have := t1 none (some 1); have := t1 (some 2) none; omega), ?_⟩
  walk_at "st"
  try simp only [cut_strsD]
  refine ⟨sz1000 (by have := t1 none (some 1); have := t1 (some 2) none; have := t1 (some 1) (some 2); rw [List.length_append]; omega), ?_⟩
  walk_at "st"
  rw [strsD_app, strsD_app]
  refine out _ ?_ (app3 _ _ _ (gc _ _) (gc _ _) (gc _ _)) _ hSk
  have i1 : (cutL L none (some 1)).length ≤ 1 := by
    rw [show (1 : Int) = ((1 : Nat) : Int) from rfl, cutL_none_nat, List.length_take]; omega
  have i2 : (cutL L (some 1) (some 2)).length ≤ 1 := by
    unfold cutL
    rw [List.length_take, show (1 : Int) = ((1 : Nat) : Int) from rfl, show (2 : Int) = ((2 : Nat) : Int) from rfl, HT.sIx_nat, HT.sIx_nat]
    omega
  have := gl (some 2) none
  rw [List.length_append, List.length_append]
  omega
/-! a right fact's rows are that fact -/
theorem run_map {pr : List Nat} (h3 : pr.length = 3) : ∀ (q r : List (List Nat)), (∀ l ∈ q, l ≠ []) → (∀ l r', r = l :: r' → pfx pr l = false) → run pr (q.map (pr ++ ·) ++ r) = q
  | [], r, _, hr => by
    cases r with
    | nil => rfl
    | cons l r' =>
      show run pr (l :: r') = []
      unfold run
      rw [if_neg (by rw [hr l r' rfl]; decide)]
  | l :: q, r, hq, hr => by
    show run pr ((pr ++ l) :: (q.map (pr ++ ·) ++ r)) = l :: q
    unfold run
    have hp : pfx pr (pr ++ l) = true := by
      unfold pfx
      rw [List.take_left, decide_eq_true rfl, decide_eq_true]
      · rfl
      · have := List.length_pos_iff.mpr (hq l (List.mem_cons_self ..))
        rw [List.length_append]; omega
    rw [if_pos hp, List.drop_left, run_map h3 q r (fun z hz => hq z (List.mem_cons_of_mem _ hz)) hr]
theorem rows_G {w : List Nat} {q p : List (List Nat)} (g : GoodF w q p) : G (rowsOf w q p) = [factD w q p] := by
  obtain ⟨hw1, hw2, hw3⟩ := word_len g.wl
  have e : rowsOf w q p = (FACTp ++ [32] ++ w) :: (q.map (OFp ++ ·) ++ (p.map (BYp ++ ·) ++ [ENDp])) := by
    unfold rowsOf
    simp
  have hs : spl [32] 0 [] (FACTp ++ [32] ++ w) = [FACTp, w] := by
    have := spl_join (s := 32) (S := []) (parts := [FACTp, w]) (by simp) (by
      intro z hz
      simp only [List.mem_cons, List.not_mem_nil, or_false] at hz
      rcases hz with rfl | rfl
      · decide
      · exact hw3)
    rw [← this]
    simp [joinL]
  have hrq : run OFp (q.map (OFp ++ ·) ++ (p.map (BYp ++ ·) ++ [ENDp])) = q := by
    refine run_map rfl q _ (fun l hl => (g.qs l hl).1) fun l r' hh => ?_
    unfold pfx
    rw [Bool.and_eq_false_iff]
    left
    rw [decide_eq_false_iff_not]
    intro ht
    cases p with
    | nil =>
      obtain ⟨rfl, _⟩ := List.cons.inj hh
      exact absurd ht (by decide)
    | cons a b =>
      obtain ⟨rfl, _⟩ := List.cons.inj hh
      simp at ht
  have hdq : (q.map (OFp ++ ·) ++ (p.map (BYp ++ ·) ++ [ENDp])).drop q.length = p.map (BYp ++ ·) ++ [ENDp] := by
    have : (q.map (OFp ++ ·)).length = q.length := List.length_map ..
    rw [← this, List.drop_left]
  have hrp : run BYp (p.map (BYp ++ ·) ++ [ENDp]) = p := by
    refine run_map rfl p _ (fun l hl => (g.ps l hl).1) fun l r' hh => ?_
    obtain ⟨rfl, _⟩ := List.cons.inj hh
    rfl
  have hdp : (q.map (OFp ++ ·) ++ (p.map (BYp ++ ·) ++ [ENDp])).drop (q.length + p.length) = [ENDp] := by
    rw [← List.drop_drop, hdq]
    have : (p.map (BYp ++ ·)).length = p.length := List.length_map ..
    rw [← this, List.drop_left]
  rw [e, G_cons, one_some hs q p hrq.symm (by rw [hdq, hrp]), if_pos ⟨rfl, by rw [hdp]; rfl, g.rt⟩]
  show factD w q p :: G _ = _
  rw [← List.drop_drop, hdp]
  rfl
theorem G_pl : ∀ (n : Nat) (L : List (List Nat)), L.length ≤ 200000 → (F n L).length ≤ L.length ∧ ∀ d ∈ F n L, Pl 2 d
  | 0, L, _ => ⟨by simp [F], fun d hd => by cases hd⟩
  | n + 1, [], _ => ⟨by simp [F], fun d hd => by cases hd⟩
  | n + 1, l :: r, h => by
    rw [List.length_cons] at h
    unfold F
    cases ho : one l r with
    | none =>
      obtain ⟨h1, h2⟩ := G_pl n r (by omega)
      exact ⟨by show (F n r).length ≤ _; rw [List.length_cons]; omega, h2⟩
    | some t =>
      obtain ⟨w, q, p⟩ := t
      obtain ⟨h1, h2⟩ := G_pl n (r.drop (q.length + p.length + 1)) (by rw [List.length_drop]; omega)
      rw [List.length_drop] at h1
      have hqp : q.length ≤ r.length ∧ p.length ≤ r.length := by
        unfold one at ho
        split at ho
        · split at ho
          · cases ho
            exact ⟨run_len _ _, Nat.le_trans (run_len _ _) (by rw [List.length_drop]; omega)⟩
          · cases ho
        · cases ho
      refine ⟨by show (factD w q p :: _).length ≤ _; rw [List.length_cons, List.length_cons]; omega, fun d hd => ?_⟩
      rcases List.mem_cons.mp hd with rfl | hd
      · refine ⟨by simp, fun d hd => ?_⟩
        have sp : ∀ x : List (List Nat), x.length ≤ 1000000 → Pl 1 (.tup (strsD x)) := fun x hx => ⟨by rw [strsD_len]; exact hx, fun d hd => by
          obtain ⟨z, _, rfl⟩ := List.mem_map.mp hd
          exact True.intro⟩
        simp only [List.mem_cons, List.not_mem_nil, or_false] at hd
        rcases hd with rfl | rfl | rfl
        · exact True.intro
        · exact sp q (by omega)
        · exact sp p (by omega)
      · exact h2 d hd
theorem G_pl8 {L : List (List Nat)} (h : L.length ≤ 200000) : Pl 8 (.lst (G L)) := by
  obtain ⟨h1, h2⟩ := G_pl L.length L h
  exact pl_le (m := 3) ⟨by unfold G; omega, h2⟩ (by decide)
theorem right_nil {w : List Nat} {p : List (List Nat)} : right w [] p = false := by
  unfold right
  split
  · rfl
  · split
    · rfl
    · split
      · rfl
      · rfl
theorem eq_nil {M : Mu} {Q : DK} (h : Q (.bl true) M) : dEq (.lst []) (.lst []) M Q := ⟨_, _, rfl, rfl, rfl, rfl, h⟩
theorem sem_law (ds : List D) (M : Mu) (Q : DK) (E : DXK) (h : sp_law ds M Q E) : t_law (dEnd Q) (dstart 10 ds) M := by
  obtain ⟨ns, rfl, h⟩ := h
  unfold t_law
  walk_at "go"
  refine ⟨ns, 0, rfl, by decide, by decide, fun p o hp hS => ?_⟩
  walk_at "st"
  refine r_newT fun l0 hl0 => ?_
  have hlp0 : l0 ≠ p := fun z => by rw [z, mset_same] at hl0; cases hl0
  have hMl0 : M l0 = none := by rw [mset_ne hlp0] at hl0; exact hl0
  walk_at "st"
  refine ⟨p, 8, o, 2 ^ 59 - 1, rfl, get_in hlp0, hS, by decide, by decide, fun r0 o0 r00 r01 hS0 => ?_⟩
  rw [upd_in hlp0]
  walk_at "st"
  refine r_kR1 (by omega) (by omega) ?_
  have hrn : (1 + r0).toNat ≤ 8 := by omega
  generalize (1 + r0).toNat = n at hrn ⊢
  refine for_inv (fun xs δ M' => ∃ (l : Addr) (L : List (List Nat)) (o : DO) (s3 s4 s5 s6 : Option D), δ = [some (.src ns), some (.ref p), some (.ref l), s3, s4, s5, s6, none, none, none] ∧ DL.Sub M M' ∧ M' p = some o ∧ Src (2 ^ 57 + 100 * xs.length) o ∧ M' l = some (.lst (strsD L)) ∧ M l = none ∧ l ≠ p ∧ L.length + 40 * xs.length ≤ 320 ∧ (∀ z ∈ L, Ln z)) (fun _ _ _ _ => trivial) ?_ ?_ _ _ _
    ⟨l0, [], o0, none, none, none, none, rfl, sub_upd (sub_new hp) hMl0, get_in hlp0, hS0.less (by rw [rngD_len]; omega), mset_same, hMl0, hlp0, by rw [rngD_len]; simp; omega, by simp⟩
  · rintro x xs δ M' N ⟨l, L, o, s3, s4, s5, s6, rfl, hs, hpo, hS, hlo, hMl, hlp, hLl, hL⟩ hN
    rw [List.length_cons] at hS hLl
    walk_at "st"
    refine ⟨p, 4, o, 2 ^ 57 + 100 * xs.length + 99, rfl, hpo, hS.less (by omega), by decide, by decide, fun sort o1 _ _ hS1 => ?_⟩
    walk_at "st"
    refine ⟨p, o1, 2 ^ 57 + 100 * xs.length + 49, rfl, mset_same, hS1.less (by omega), fun w q pp o2 hg hS2 => ?_⟩
    rw [mset_mset]
    obtain ⟨R, hR⟩ : ∃ R, R = rowsOf w q pp := ⟨_, rfl⟩
    have hRl : R.length = q.length + pp.length + 2 := by
      rw [hR]
      unfold rowsOf
      simp
      omega
    have hq10 := hg.ql
    have hp10 := hg.pl
    obtain ⟨hw1, hw2, hw3⟩ := word_len hg.wl
    have hRg : ∀ z ∈ R, GoodLn z := by
      intro z hz
      rw [hR] at hz
      unfold rowsOf at hz
      simp only [List.mem_append, List.mem_singleton, List.mem_map] at hz
      rcases hz with ((rfl | ⟨y, hy, rfl⟩) | ⟨y, hy, rfl⟩) | rfl
      · exact ⟨by simp [hw2], by simp; omega⟩
      · have := hg.qs y hy
        exact ⟨by simp [this.2.1], by simp; omega⟩
      · have := hg.ps y hy
        exact ⟨by simp [this.2.1], by simp; omega⟩
      · exact ⟨by decide, by decide⟩
    have hRn : ∀ z ∈ R, Ln z := fun z hz => ⟨(hRg z hz).1, by have := (hRg z hz).2; omega⟩
    have hs2 : ∀ o, DL.Sub M (mset M' p o) := fun o => sub_upd hs hp
    have hlo2 : ∀ o, mset M' p o l = some (.lst (strsD L)) := fun o => by rw [mset_ne hlp]; exact hlo
    -- what comes: more lines
    have more : ∀ (S : List (List Nat)) (o : DO) (s3 s4 s5 s6 : Option D) (y : D), S.length ≤ 40 → (∀ z ∈ S, Ln z) → Src (2 ^ 57 + 100 * xs.length) o → dseq (mset M' p o) y = some (strsD S) →
        dAdd true (.ref l) y (mset M' p o) fun d M1 => dgN 2 d [some (.src ns), some (.ref p), some (.ref l), s3, s4, s5, s6, none, none, none] M1 N := by
      intro S o s3 s4 s5 s6 y hSl hSg hSr hy
      refine r_addG (dseq_ref (hlo2 o)) hy (sz1000 (by rw [strsD_len, strsD_len]; omega)) ?_
      refine r_newT fun l2 hl2 => ?_
      have hl2p : l2 ≠ p := fun z => by rw [z, mset_same] at hl2; cases hl2
      refine r_dgN rfl ?_
      refine hN _ _ ⟨l2, L ++ S, o, s3, s4, s5, s6, rfl, sub_upd (hs2 o) (none_sub (hs2 o) hl2), ?_, hSr, ?_, none_sub (hs2 o) hl2, hl2p, by rw [List.length_append]; omega, ?_⟩
      · rw [mset_ne (fun z => hl2p z.symm), mset_same]
      · rw [mset_same, strsD_app]
      · intro z hz
        rcases List.mem_append.mp hz with hz | hz
        · exact hL z hz
        · exact hSg z hz
    walk_at "st"
    refine r_if ?_
    walk_at "st"
    refine ⟨fun _ => ?_, fun _ => ?_⟩
    · walk_at "st"
      refine ⟨w, q, pp, rfl, hg, ?_⟩
      rw [← hR]
      walk_at "st"
      refine r_if (r_or ?_)
      walk_at "st"
      refine ⟨w, q, pp, rfl, hg, ?_⟩
      rw [← hR]
      walk_at "st"
      refine lc_suf (suf := [10]) trivial R (fun z hz => by have := (hRg z hz).2; omega) (by omega) (by decide) (by simp [dwipe]) ?_
      walk_at "st"
      have htl := text_len (B := 110) R (fun z hz => (hRg z hz).2)
      have htm := Nat.mul_le_mul_left 111 (show R.length ≤ 22 by omega)
      refine r_join rfl (strsD_strs _) ?_ ?_
      · rw [sum_lens]
        show (textOf R).length + _ * 0 ≤ _
        omega
      rw [DL.join_nil]
      refine r_neS ?_
      refine r_kB ?_
      rw [decide_eq_true (show textOf R = (R.map (· ++ [10])).flatten from rfl)]
      refine ⟨fun z => Bool.noConfusion z, fun _ => ?_⟩
      walk_at "st"
      refine ⟨textOf R, rfl, by omega, .inr ?_⟩
      rw [spl_text0 R (fun z hz => (hRg z hz).1), List.dropLast_concat, hR, rows_G hg, ← hR]
      walk_at "st"
      have hp3 : Pl 8 (.lst [factD w q pp]) := by
        have := G_pl8 (L := R) (by omega)
        rw [hR, rows_G hg] at this
        exact this
      refine same_of _ (.inl rfl) (.inl rfl) hp3 ?_
      walk_at "st"
      refine ⟨fun z => Bool.noConfusion z, fun _ => ?_⟩
      walk_at "st"
      refine ⟨w, q, pp, rfl, hg, ?_⟩
      rw [← hR]
      exact more R o2 _ _ _ _ _ (by omega) hRn (hS2.less (by omega)) rfl
    · walk_at "st"
      refine r_if ?_
      walk_at "st"
      refine ⟨fun _ => ?_, fun _ => ?_⟩
      · walk_at "st"
        refine ⟨w, q, pp, rfl, hg, ?_⟩
        rw [← hR]
        walk_at "st"
        refine ⟨p, o2, 2 ^ 57 + 100 * xs.length, R, rfl, mset_same, hS2.less (by omega), ?_, by omega, hRg, fun S o3 hS1 hS2' hS3 => ?_⟩
        · have hq1 : q ≠ [] := fun z => by
            have := hg.rt
            rw [z, right_nil] at this
            exact Bool.noConfusion this
          have := List.length_pos_iff.mpr hq1
          omega
        rw [mset_mset]
        exact more S o3 _ _ _ _ _ hS1 hS2' hS3 rfl
      · walk_at "st"
        refine r_tyR (hlo2 _) ?_
        walk_at "st"
        refine ⟨lit_len 11 rfl (by decide), ?_⟩
        walk_at "st"
        refine ⟨p, _, o2, 2 ^ 57 + 100 * xs.length, rfl, mset_same, hS2.less (by omega), by decide, by decide, fun x o3 hx hS3 => ?_⟩
        rw [mset_mset]
        obtain ⟨z, rfl, z1, z2⟩ : ∃ z : List Nat, x = .str z ∧ 10 ∉ z ∧ z.length ≤ 20 := by
          simp only [List.mem_cons, List.not_mem_nil, or_false] at hx
          rcases hx with rfl | rfl | rfl | rfl | rfl | rfl | rfl | rfl | rfl | rfl | rfl <;> exact ⟨_, rfl, by decide, by decide⟩
        walk_at "st"
        refine r_append (hlo2 _) (szlt (by rw [strsD_len]; omega)) ?_
        walk_at "st"
        refine hN _ _ ⟨l, L ++ [z], o3, _, _, _, _, rfl, sub_upd (hs2 o3) hMl, ?_, hS3, ?_, hMl, hlp, by simp; omega, ?_⟩
        · rw [mset_ne (fun z => hlp z.symm), mset_same]
        · rw [mset_same, ← strsD_app]; rfl
        · intro y hy
          rcases List.mem_append.mp hy with hy | hy
          · exact hL y hy
          · rw [List.mem_singleton.mp hy]; exact ⟨z1, by omega⟩
  rintro δ M' ⟨l, L, o, s3, s4, s5, s6, rfl, hs, hpo, hS, hlo, hMl, hlp, hLl, hL⟩
  have htl := text_len (B := 120) L (fun z hz => (hL z hz).2)
  have htm := Nat.mul_le_mul_left 121 (show L.length ≤ 320 by omega)
  walk_at "st"
  refine r_kIr hlo ?_
  refine lc_suf (suf := [10]) hlo L (fun z hz => by have := (hL z hz).2; omega) (by omega) (by decide) (by simp [dwipe]) ?_
  walk_at "st"
  refine r_join rfl (strsD_strs _) ?_ ?_
  · rw [sum_lens]
    show (textOf L).length + _ * 0 ≤ _
    omega
  rw [DL.join_nil]
  show dgN 7 (D.str (textOf L)) _ _ _
  walk_at "st"
  -- the text as it is, or cut
  refine viaS (P := fun δ' M' => ∃ (T : List Nat) (l : Addr), δ' = [some (.src ns), some (.ref p), some (.ref l), s3, s4, s5, s6, some (.str T), none, none] ∧ DL.Sub M M' ∧ M' l = some (.lst (strsD (spl [10] 0 [] T).dropLast)) ∧ T.length ≤ 100000) (fun Nx hNx => ?_) ?_
  · refine r_if ?_
    walk_at "st"
    refine ⟨p, 3, o, 2 ^ 57 - 1, rfl, hpo, hS.less (by simp), by decide, by decide, fun r1 o1 _ _ hS1 => ?_⟩
    walk_at "st"
    have hlo2 : mset M' p o1 l = some (.lst (strsD L)) := by rw [mset_ne hlp]; exact hlo
    refine ⟨fun _ => ?_, fun _ => ?_⟩
    · walk_at "st"
      refine ⟨sz1000 (by omega), ?_⟩
      walk_at "st"
      refine ⟨sz1000 (by omega), ?_⟩
      walk_at "st"
      obtain ⟨T, hT⟩ : ∃ T, T = cutL (textOf L) none (some (((textOf L).length : Int) - 1)) := ⟨_, rfl⟩
      have hTl : T.length ≤ 100000 := by
        rw [hT]
        have := cut_len (textOf L) none (some (((textOf L).length : Int) - 1))
        omega
      rw [← hT]
      refine r_split (by decide) (by decide) (sz1000 (by omega)) ?_
      walk_at "st"
      rw [cutL_none_neg1, ← List.map_dropLast]
      refine r_newT fun l2 hl2 => ?_
      walk_at "st"
      exact hNx _ _ ⟨T, l2, rfl, sub_upd (sub_upd hs hp) (none_sub (sub_upd hs hp) hl2), mset_same, hTl⟩
    · walk_at "st"
      exact hNx _ _ ⟨textOf L, l, rfl, sub_upd hs hp, by rw [hlo2, spl_text0 L (fun z hz => (hL z hz).1), List.dropLast_concat], by omega⟩
  clear htl htm hLl hL hlo hS hpo hlp hMl
  rintro _ M1 ⟨T, l, rfl, hs1, hl1, hTl⟩
  obtain ⟨b1, b2⟩ := spl_bd [10] T 0 []
  obtain ⟨A, hA⟩ : ∃ A, A = (spl [10] 0 [] T).dropLast := ⟨_, rfl⟩
  rw [← hA] at hl1
  have hB : BdL A := ⟨by rw [hA, List.length_dropLast]; omega, fun l hl2 => by
    rw [hA] at hl2
    have := b1 l (List.dropLast_subset _ hl2)
    simp at this
    omega⟩
  have hP := G_pl8 (L := A) hB.len
  walk_at "st"
  refine ⟨T, rfl, by omega, .inl fun t ht => ?_⟩
  rw [← hA]
  have htl : l ≠ t := fun z => by rw [← z, hl1] at ht; cases ht
  walk_at "st"
  refine r_if (r_or ?_)
  walk_at "st"
  refine r_isi (tyNm_ref mset_same) (b := true) (by decide +kernel) ?_
  walk_at "st"
  refine ⟨fun z => Bool.noConfusion z, fun _ => ?_⟩
  walk_at "st"
  have hl2 : ∀ x, mset M1 t x l = some (.lst (strsD A)) := fun x => by rw [mset_ne htl]; exact hl1
  refine ⟨.ref l, A, rfl, dseq_ref (hl2 _), hB, ?_⟩
  walk_at "st"
  refine same_of _ (.inr ⟨t, _, rfl, rfl, mset_same⟩) (.inl rfl) hP ?_
  walk_at "st"
  refine ⟨fun z => Bool.noConfusion z, fun _ => ?_⟩
  walk_at "st"
  refine r_tyR mset_same ?_
  walk_at "st"
  have hgl : (G A).length ≤ A.length := (G_pl A.length A hB.len).1
  refine r_append mset_same (szlt (by have := hB.len; omega)) ?_
  rw [mset_mset]
  walk_at "st"
  refine r_andV ?_
  walk_at "st"
  refine ⟨T, rfl, by omega, .inr ?_⟩
  rw [← hA]
  walk_at "st"
  refine ⟨.ref l, A, rfl, dseq_ref (hl2 _), hB, ?_⟩
  walk_at "st"
  refine same_of _ (.inl rfl) (.inl rfl) hP ?_
  walk_at "st"
  refine ⟨fun _ => ?_, fun z => Bool.noConfusion z⟩
  walk_at "st"
  refine ⟨[], rfl, by decide, .inr ?_⟩
  rw [show G (spl [10] 0 [] []).dropLast = [] from rfl]
  walk_at "st"
  refine eq_nil ?_
  exact Wq.drop (sub_upd hs1 (none_sub hs1 ht)) h
end K04

set_option maxHeartbeats 0
namespace K04
open PySem PySem.Spec PyProof.Rows L2 TL DL
def top (i : Nat) : Stmt := PySem.Challenge.pw_readapart_k04_facts_of_the_form.main.body.getD i (.Pass ⟨0, 0, 0, 0⟩)
abbrev s_parts_right : Stmt := top 2
abbrev N_parts_right : List Str := ["word", "question", "paper", "line"]
theorem sc_parts_right : FnScope N_parts_right ["word", "question", "paper"] (defScope s_parts_right) := ⟨rfl, rfl, rfl, by decide +kernel, rfl, by decide +kernel, by decide +kernel⟩
abbrev s_run_of : Stmt := top 3
abbrev N_run_of : List Str := ["lines", "at", "word", "found"]
theorem sc_run_of : FnScope N_run_of ["lines", "at", "word"] (defScope s_run_of) := ⟨rfl, rfl, rfl, by decide +kernel, rfl, by decide +kernel, by decide +kernel⟩
abbrev s_fact_at : Stmt := top 4
abbrev N_fact_at : List Str := ["lines", "at", "words", "question", "paper", "end"]
theorem sc_fact_at : FnScope N_fact_at ["lines", "at"] (defScope s_fact_at) := ⟨rfl, rfl, rfl, by decide +kernel, rfl, by decide +kernel, by decide +kernel⟩
abbrev s_facts_from : Stmt := top 5
abbrev N_facts_from : List Str := ["text", "lines", "found", "at", "one"]
theorem sc_facts_from : FnScope N_facts_from ["text"] (defScope s_facts_from) := ⟨rfl, rfl, rfl, by decide +kernel, rfl, by decide +kernel, by decide +kernel⟩
abbrev s_fact_text : Stmt := top 6
abbrev N_fact_text : List Str := ["fact", "rows", "line", "row"]
theorem sc_fact_text : FnScope N_fact_text ["fact"] (defScope s_fact_text) := ⟨rfl, rfl, rfl, by decide +kernel, rfl, by decide +kernel, by decide +kernel⟩
abbrev s_law_source : Stmt := top 8
abbrev N_law_source : List Str := ["script", "at", "cell", "size", "small", "one"]
theorem sc_law_source : FnScope N_law_source ["script", "at"] (defScope s_law_source) := ⟨rfl, rfl, rfl, by decide +kernel, rfl, by decide +kernel, by decide +kernel⟩
abbrev s_law_pick : Stmt := top 9
abbrev N_law_pick : List Str := ["source", "many", "found"]
theorem sc_law_pick : FnScope N_law_pick ["source", "many"] (defScope s_law_pick) := ⟨rfl, rfl, rfl, by decide +kernel, rfl, by decide +kernel, by decide +kernel⟩
abbrev s_law_one : Stmt := top 10
abbrev N_law_one : List Str := ["source", "things"]
theorem sc_law_one : FnScope N_law_one ["source", "things"] (defScope s_law_one) := ⟨rfl, rfl, rfl, by decide +kernel, rfl, by decide +kernel, by decide +kernel⟩
abbrev s_law_same : Stmt := top 11
abbrev N_law_same : List Str := ["answer", "due", "at"]
theorem sc_law_same : FnScope N_law_same ["answer", "due"] (defScope s_law_same) := ⟨rfl, rfl, rfl, by decide +kernel, rfl, by decide +kernel, by decide +kernel⟩
abbrev s_law_k04_line : Stmt := top 12
abbrev N_law_k04_line : List Str := ["source", "menu", "word"]
theorem sc_law_k04_line : FnScope N_law_k04_line ["source"] (defScope s_law_k04_line) := ⟨rfl, rfl, rfl, by decide +kernel, rfl, by decide +kernel, by decide +kernel⟩
abbrev s_law_k04_fact : Stmt := top 13
abbrev N_law_k04_fact : List Str := ["source", "word", "question", "paper", "at", "one"]
theorem sc_law_k04_fact : FnScope N_law_k04_fact ["source"] (defScope s_law_k04_fact) := ⟨rfl, rfl, rfl, by decide +kernel, rfl, by decide +kernel, by decide +kernel⟩
abbrev s_law_k04_rows : Stmt := top 14
abbrev N_law_k04_rows : List Str := ["fact", "one"]
theorem sc_law_k04_rows : FnScope N_law_k04_rows ["fact"] (defScope s_law_k04_rows) := ⟨rfl, rfl, rfl, by decide +kernel, rfl, by decide +kernel, by decide +kernel⟩
abbrev s_law_k04_right : Stmt := top 15
abbrev N_law_k04_right : List Str := ["word", "question", "paper", "last", "one"]
theorem sc_law_k04_right : FnScope N_law_k04_right ["word", "question", "paper"] (defScope s_law_k04_right) := ⟨rfl, rfl, rfl, by decide +kernel, rfl, by decide +kernel, by decide +kernel⟩
abbrev s_law_k04_due : Stmt := top 16
abbrev N_law_k04_due : List Str := ["lines", "found", "at", "turn", "head", "place", "question", "paper", "whole"]
theorem sc_law_k04_due : FnScope N_law_k04_due ["lines"] (defScope s_law_k04_due) := ⟨rfl, rfl, rfl, by decide +kernel, rfl, by decide +kernel, by decide +kernel⟩
abbrev s_law_k04_spoilt : Stmt := top 17
abbrev N_law_k04_spoilt : List Str := ["source", "rows", "way", "at"]
theorem sc_law_k04_spoilt : FnScope N_law_k04_spoilt ["source", "rows"] (defScope s_law_k04_spoilt) := ⟨rfl, rfl, rfl, by decide +kernel, rfl, by decide +kernel, by decide +kernel⟩
abbrev s_law : Stmt := top 18
abbrev N_law : List Str := ["script", "source", "lines", "at", "sort", "fact", "told", "text", "row", "line"]
theorem sc_law : FnScope N_law ["script"] (defScope s_law) := ⟨rfl, rfl, rfl, by decide +kernel, rfl, by decide +kernel, by decide +kernel⟩
section
variable {P : Program} {w : World} {K : PySem.W.Frag} {mg : Str → Option Value} {base : Heap} {k : Nat} {f : Addr} {cdv : Value} {A : Around} {outer : List Env} {s : Shared} {H : Hp} {E : XK}
theorem body_parts_right (b_len : mg "len" = none) (hr : Room k (A.deeper (envOfC "parts_right" (defScope s_parts_right) s.heap.objs.size f cdv))) :
    DSs (cxOf CX0 P w K mg base N_parts_right "parts_right" (defScope s_parts_right) f cdv A outer s H E).nox (defBody s_parts_right) t_parts_right :=
  (dss_cons (ds_if (dt_in (de_var 0) (de_tup (da_cons (de_str [107, 101, 112, 116]) (da_cons (de_str [98, 114, 111, 107, 101, 110]) da_nil)))) (dss_one (ds_ret (de_and (de_gt (de_callB call_len rel_len (by rfl) b_len (by decide +kernel) (da_cons (de_var 1) da_nil)) de_int) (de_one (de_gt (de_callB call_len rel_len (by rfl) b_len (by decide +kernel) (da_cons (de_var 2) da_nil)) de_int))))) dss_nil) (dss_cons (ds_if (dt_eq hr.units (de_var 0) (de_str [111, 114, 100, 101, 114])) (dss_one (ds_ret (de_and (de_eq hr.units (de_callB call_len rel_len (by rfl) b_len (by decide +kernel) (da_cons (de_var 1) da_nil)) de_int) (de_one (de_eq hr.units (de_callB call_len rel_len (by rfl) b_len (by decide +kernel) (da_cons (de_var 2) da_nil)) de_int))))) dss_nil) (dss_cons (ds_if (PW.pt (dw_or (dt_lt (de_callB call_len rel_len (by rfl) b_len (by decide +kernel) (da_cons (de_var 1) da_nil)) de_int) (dw_or (dt_ne hr.units (de_callB call_len rel_len (by rfl) b_len (by decide +kernel) (da_cons (de_bm tyV_str rel_split PySem.F.plainAttrs_str PySem.F.slot_str_split PySem.F.type_str_split mt_split (de_idx (de_var 1) (de_neg de_int)) (da_cons (de_str [32]) da_nil)) da_nil)) de_int) (dw_or1 (dt_not (dt_tru (de_bm tyV_str rel_starts PySem.F.plainAttrs_str PySem.F.slot_str_startswith PySem.F.type_str_startswith mt_startswith (de_idx (de_var 1) (de_neg de_int)) (da_cons (de_str [112, 97, 105, 114, 32]) da_nil)))))))) (dss_one (ds_ret de_bl)) dss_nil) (dss_cons (ds_if (dt_eq hr.units (de_var 0) (de_str [117, 110, 108, 105, 107, 101])) (dss_one (ds_ret (de_eq hr.units (de_callB call_len rel_len (by rfl) b_len (by decide +kernel) (da_cons (de_var 2) da_nil)) de_int))) dss_nil) (dss_cons (ds_for (vs := [3]) PassesOwn.never rfl (di_seq (de_var 2)) (pg_name (i := 3) sc_parts_right.nd rfl (by first | exact Or.inl rfl | exact Or.inr rfl)) (relg_name 3) (dss_one (ds_if (PW.pt (dw_and (dt_not (dt_tru (de_bm tyV_str rel_starts PySem.F.plainAttrs_str PySem.F.slot_str_startswith PySem.F.type_str_startswith mt_startswith (de_var 3) (da_cons (de_str [111, 110, 101, 32]) da_nil)))) (dw_and1 (dt_not (dt_tru (de_bm tyV_str rel_starts PySem.F.plainAttrs_str PySem.F.slot_str_startswith PySem.F.type_str_startswith mt_startswith (de_var 3) (da_cons (de_str [111, 116, 104, 101, 114, 32]) da_nil))))))) (dss_one (ds_ret de_bl)) dss_nil))) (dss_one (ds_ret de_bl)))))))
theorem body_run_of (b_len : mg "len" = none) (hr : Room k (A.deeper (envOfC "run_of" (defScope s_run_of) s.heap.objs.size f cdv))) :
    DSs (cxOf CX0 P w K mg base N_run_of "run_of" (defScope s_run_of) f cdv A outer s H E).nox (defBody s_run_of) t_run_of :=
  (dss_cons (ds_set (i := 3) sc_run_of.nd (de_lst true da_nil)) (dss_cons (ds_while PassesOwn.never (PW.pt (dw_and (dt_lt (de_var 1) (de_callB call_len rel_len (by rfl) b_len (by decide +kernel) (da_cons (de_var 0) da_nil))) (dw_and (dt_tru (de_bm tyV_str rel_starts PySem.F.plainAttrs_str PySem.F.slot_str_startswith PySem.F.type_str_startswith mt_startswith (de_idx (de_var 0) (de_var 1)) (da_cons (de_add false (de_var 2) (de_str [32])) da_nil))) (dw_and1 (dt_gt (de_callB call_len rel_len (by rfl) b_len (by decide +kernel) (da_cons (de_idx (de_var 0) (de_var 1)) da_nil)) (de_add false (de_callB call_len rel_len (by rfl) b_len (by decide +kernel) (da_cons (de_var 2) da_nil)) de_int)))))) (dss_cons (ds_expr (de_bm tyV_list rel_append PySem.F.plainAttrs_list PySem.F.slot_list_append PySem.F.type_list_append mt_append (de_var 3) (da_cons (de_slice false (de_idx (de_var 0) (de_var 1)) (do_some (de_add false (de_callB call_len rel_len (by rfl) b_len (by decide +kernel) (da_cons (de_var 2) da_nil)) de_int)) do_none) da_nil))) (dss_one (ds_aug (i := 1) sc_run_of.nd pip_add rel_iadd de_int)))) (dss_one (ds_ret (de_var 3)))))
theorem body_fact_at (C_run_of : Cal P w K mg base k "run_of" ["lines", "at", "word"] sp_run_of) (C_parts_right : Cal P w K mg base k "parts_right" ["word", "question", "paper"] sp_parts_right) (b_len : mg "len" = none) (b_tuple : mg "tuple" = none) (c_KINDS : GC K mg "KINDS" g_KINDS) (hr : Room k (A.deeper (envOfC "fact_at" (defScope s_fact_at) s.heap.objs.size f cdv))) :
    DSs (cxOf CX0 P w K mg base N_fact_at "fact_at" (defScope s_fact_at) f cdv A outer s H E).nox (defBody s_fact_at) t_fact_at :=
  (dss_cons (ds_set (i := 2) sc_fact_at.nd (de_bm tyV_str rel_split PySem.F.plainAttrs_str PySem.F.slot_str_split PySem.F.type_str_split mt_split (de_idx (de_var 0) (de_var 1)) (da_cons (de_str [32]) da_nil))) (dss_cons (ds_if (PW.pt (dw_or (dt_ne hr.units (de_callB call_len rel_len (by rfl) b_len (by decide +kernel) (da_cons (de_var 2) da_nil)) de_int) (dw_or (dt_ne hr.units (de_idx (de_var 2) de_int) (de_str [102, 97, 99, 116])) (dw_or1 (dt_nin (de_idx (de_var 2) de_int) (de_gc c_KINDS)))))) (dss_one (ds_ret de_non)) dss_nil) (dss_cons (ds_set (i := 3) sc_fact_at.nd (de_cal C_run_of hr (da_cons (de_var 0) (da_cons (de_add false (de_var 1) de_int) (da_cons (de_str [111, 102]) da_nil))))) (dss_cons (ds_set (i := 4) sc_fact_at.nd (de_cal C_run_of hr (da_cons (de_var 0) (da_cons (de_add false (de_add false (de_var 1) de_int) (de_callB call_len rel_len (by rfl) b_len (by decide +kernel) (da_cons (de_var 3) da_nil))) (da_cons (de_str [98, 121]) da_nil))))) (dss_cons (ds_set (i := 5) sc_fact_at.nd (de_add false (de_add false (de_add false (de_var 1) de_int) (de_callB call_len rel_len (by rfl) b_len (by decide +kernel) (da_cons (de_var 3) da_nil))) (de_callB call_len rel_len (by rfl) b_len (by decide +kernel) (da_cons (de_var 4) da_nil)))) (dss_cons (ds_if (PW.pt (dw_or (dt_ge (de_var 5) (de_callB call_len rel_len (by rfl) b_len (by decide +kernel) (da_cons (de_var 0) da_nil))) (dw_or (dt_ne hr.units (de_idx (de_var 0) (de_var 5)) (de_str [101, 110, 100, 32, 102, 97, 99, 116])) (dw_or1 (dt_not (dt_tru (de_cal C_parts_right hr (da_cons (de_idx (de_var 2) de_int) (da_cons (de_var 3) (da_cons (de_var 4) da_nil)))))))))) (dss_one (ds_ret de_non)) dss_nil) (dss_one (ds_ret (de_tup (da_cons (de_tup (da_cons (de_idx (de_var 2) de_int) (da_cons (de_callTy call_tuple_of rel_tupOf (by rfl) b_tuple (by decide +kernel) (da_cons (de_var 3) da_nil)) (da_cons (de_callTy call_tuple_of rel_tupOf (by rfl) b_tuple (by decide +kernel) (da_cons (de_var 4) da_nil)) da_nil)))) (da_cons (de_add false (de_var 5) de_int) da_nil)))))))))))
theorem body_facts_from (C_fact_at : Cal P w K mg base k "fact_at" ["lines", "at"] sp_fact_at) (b_len : mg "len" = none) (hr : Room k (A.deeper (envOfC "facts_from" (defScope s_facts_from) s.heap.objs.size f cdv))) :
    DSs (cxOf CX0 P w K mg base N_facts_from "facts_from" (defScope s_facts_from) f cdv A outer s H E).nox (defBody s_facts_from) t_facts_from :=
  (dss_cons (ds_set (i := 1) sc_facts_from.nd (de_slice false (de_bm tyV_str rel_split PySem.F.plainAttrs_str PySem.F.slot_str_split PySem.F.type_str_split mt_split (de_var 0) (da_cons (de_str [10]) da_nil)) do_none (do_some (de_neg de_int)))) (dss_cons (ds_set (i := 2) sc_facts_from.nd (de_lst true da_nil)) (dss_cons (ds_set (i := 3) sc_facts_from.nd de_int) (dss_cons (ds_while PassesOwn.never (dt_lt (de_var 3) (de_callB call_len rel_len (by rfl) b_len (by decide +kernel) (da_cons (de_var 1) da_nil))) (dss_cons (ds_set (i := 4) sc_facts_from.nd (de_cal C_fact_at hr (da_cons (de_var 1) (da_cons (de_var 3) da_nil)))) (dss_one (ds_if (dt_isN (de_var 4) de_non) (dss_one (ds_aug (i := 3) sc_facts_from.nd pip_add rel_iadd de_int)) (dss_cons (ds_expr (de_bm tyV_list rel_append PySem.F.plainAttrs_list PySem.F.slot_list_append PySem.F.type_list_append mt_append (de_var 2) (da_cons (de_idx (de_var 4) de_int) da_nil))) (dss_one (ds_set (i := 3) sc_facts_from.nd (de_idx (de_var 4) de_int)))))))) (dss_one (ds_ret (de_var 2)))))))
theorem body_fact_text  (hr : Room k (A.deeper (envOfC "fact_text" (defScope s_fact_text) s.heap.objs.size f cdv))) :
    DSs (cxOf CX0 P w K mg base N_fact_text "fact_text" (defScope s_fact_text) f cdv A outer s H E).nox (defBody s_fact_text) t_fact_text :=
  (dss_cons (ds_set (i := 1) sc_fact_text.nd (de_lst true (da_cons (de_add false (de_str [102, 97, 99, 116, 32]) (de_idx (de_var 0) de_int)) da_nil))) (dss_cons (ds_expr (de_bm tyV_list rel_extend PySem.F.plainAttrs_list PySem.F.slot_list_extend PySem.F.type_list_extend mt_extend (de_var 1) (da_cons (de_lc (own := [("line", 2)]) false rfl sc_fact_text.nd (di_seq (de_idx (de_var 0) de_int)) (blkOk_by (own := [("line", 2)]) (N := N_fact_text) (sc := defScope s_fact_text) (by decide +kernel)) (relg_name 2) (fun _ _ _ _ _ => (pg_name (i := 2) sc_fact_text.nd rfl (by first | exact Or.inl rfl | exact Or.inr rfl))) (fun _ _ _ _ _ => dps_nil) (fun _ _ _ _ _ => (de_add false (de_str [111, 102, 32]) (de_var 2)))) da_nil))) (dss_cons (ds_expr (de_bm tyV_list rel_extend PySem.F.plainAttrs_list PySem.F.slot_list_extend PySem.F.type_list_extend mt_extend (de_var 1) (da_cons (de_lc (own := [("line", 2)]) false rfl sc_fact_text.nd (di_seq (de_idx (de_var 0) de_int)) (blkOk_by (own := [("line", 2)]) (N := N_fact_text) (sc := defScope s_fact_text) (by decide +kernel)) (relg_name 2) (fun _ _ _ _ _ => (pg_name (i := 2) sc_fact_text.nd rfl (by first | exact Or.inl rfl | exact Or.inr rfl))) (fun _ _ _ _ _ => dps_nil) (fun _ _ _ _ _ => (de_add false (de_str [98, 121, 32]) (de_var 2)))) da_nil))) (dss_one (ds_ret (de_add false (de_bm tyV_str rel_join PySem.F.plainAttrs_str PySem.F.slot_str_join PySem.F.type_str_join mt_join (de_str []) (da_cons (de_lc (own := [("row", 3)]) false rfl sc_fact_text.nd (di_seq (de_var 1)) (blkOk_by (own := [("row", 3)]) (N := N_fact_text) (sc := defScope s_fact_text) (by decide +kernel)) (relg_name 3) (fun _ _ _ _ _ => (pg_name (i := 3) sc_fact_text.nd rfl (by first | exact Or.inl rfl | exact Or.inr rfl))) (fun _ _ _ _ _ => dps_nil) (fun _ _ _ _ _ => (de_add false (de_var 3) (de_str [10])))) da_nil)) (de_str [101, 110, 100, 32, 102, 97, 99, 116, 10])))))))
theorem body_law_source (b_len : mg "len" = none) (b_int : mg "int" = none) (b_sum : mg "sum" = none) (b_abs : mg "abs" = none) (hr : Room k (A.deeper (envOfC "_law_source" (defScope s_law_source) s.heap.objs.size f cdv))) :
    DSs (cxOf CX0 P w K mg base N_law_source "_law_source" (defScope s_law_source) f cdv A outer s H E).nox (defBody s_law_source) t_law_source :=
  (dss_cons (ds_set (i := 2) sc_law_source.nd (de_ifx (dt_lt (de_var 1) (de_callB call_len rel_len (by rfl) b_len (by decide +kernel) (da_cons (de_var 0) da_nil))) (de_callTy call_intAll rel_int (by rfl) b_int (by decide +kernel) (da_cons (de_idx (de_var 0) (de_var 1)) da_nil)) (de_add false (de_mul false de_int (de_callB (cr_sum rfl) rel_sum (by rfl) b_sum (by decide +kernel) (da_cons (de_lc (own := [("one", 5)]) false rfl sc_law_source.nd (di_seq (de_slice false (de_var 0) do_none (do_some de_int))) (blkOk_by (own := [("one", 5)]) (N := N_law_source) (sc := defScope s_law_source) (by decide +kernel)) (relg_name 5) (fun _ _ _ _ _ => (pg_name (i := 5) sc_law_source.nd rfl (by first | exact Or.inl rfl | exact Or.inr rfl))) (fun _ _ _ _ _ => dps_nil) (fun _ _ _ _ _ => (de_mod (de_callTy call_intAll rel_int (by rfl) b_int (by decide +kernel) (da_cons (de_var 5) da_nil)) de_int))) da_nil))) de_int))) (dss_cons (ds_set (i := 3) sc_law_source.nd (de_mod (de_callB call_abs rel_abs (by rfl) b_abs (by decide +kernel) (da_cons (de_var 2) da_nil)) (de_mul false (de_pow de_int de_int) (de_pow de_int de_int)))) (dss_cons (ds_set (i := 4) sc_law_source.nd (de_mod (de_callTy call_intAll rel_int (by rfl) b_int (by decide +kernel) (da_cons (de_add false (de_add false (de_add false (de_mul false de_int (de_var 3)) (de_ifx (dt_lt (de_var 2) de_int) de_int de_int)) (de_mul false (de_var 1) de_int)) de_int) da_nil)) de_int)) (dss_one (ds_ret (de_lst true (da_cons (de_ifx (dt_ge (de_var 3) (de_pow de_int de_int)) (de_var 3) de_int) (da_cons (de_mod (de_callTy call_intAll rel_int (by rfl) b_int (by decide +kernel) (da_cons (de_mul false (de_add false (de_var 4) de_int) (de_add false (de_var 4) de_int)) da_nil)) de_int) (da_cons (de_var 1) da_nil)))))))))
theorem body_law_pick (b_int : mg "int" = none) (hr : Room k (A.deeper (envOfC "_law_pick" (defScope s_law_pick) s.heap.objs.size f cdv))) :
    DSs (cxOf CX0 P w K mg base N_law_pick "_law_pick" (defScope s_law_pick) f cdv A outer s H E).nox (defBody s_law_pick) t_law_pick :=
  (dss_cons (ds_if (dt_gt (de_idx (de_var 0) de_int) de_int) (dss_cons (ds_set (i := 2) sc_law_pick.nd (de_mod (de_callTy call_intAll rel_int (by rfl) b_int (by decide +kernel) (da_cons (de_idx (de_var 0) de_int) da_nil)) (de_var 1))) (dss_cons (ds_setIx (de_var 0) de_int (de_fdiv (de_idx (de_var 0) de_int) (de_var 1))) (dss_one (ds_ret (de_var 2))))) dss_nil) (dss_cons (ds_augIx pip_add rel_iadd (de_var 0) de_int de_int) (dss_cons (ds_setIx (de_var 0) de_int (de_mod (de_callTy call_intAll rel_int (by rfl) b_int (by decide +kernel) (da_cons (de_add false (de_mul false (de_idx (de_var 0) de_int) de_int) (de_mul false (de_idx (de_var 0) de_int) de_int)) da_nil)) de_int)) (dss_one (ds_ret (de_mod (de_fdiv (de_mod (de_callTy call_intAll rel_int (by rfl) b_int (by decide +kernel) (da_cons (de_add false (de_mul false (de_idx (de_var 0) de_int) de_int) (de_mul false (de_idx (de_var 0) de_int) de_int)) da_nil)) de_int) de_int) (de_var 1)))))))
theorem body_law_one (C_law_pick : Cal P w K mg base k "_law_pick" ["source", "many"] sp_law_pick) (b_len : mg "len" = none) (hr : Room k (A.deeper (envOfC "_law_one" (defScope s_law_one) s.heap.objs.size f cdv))) :
    DSs (cxOf CX0 P w K mg base N_law_one "_law_one" (defScope s_law_one) f cdv A outer s H E).nox (defBody s_law_one) t_law_one :=
  (dss_one (ds_ret (de_idx (de_var 1) (de_cal C_law_pick hr (da_cons (de_var 0) (da_cons (de_callB call_len rel_len (by rfl) b_len (by decide +kernel) (da_cons (de_var 1) da_nil)) da_nil))))))
theorem body_law_same (n : Nat) (C_law_same : Cal P w K mg base k "_law_same" ["answer", "due"] (spS n)) (b_bool : mg "bool" = none) (b_isinstance : mg "isinstance" = none) (b_int : mg "int" = none) (b_str : mg "str" = none) (b_tuple : mg "tuple" = none) (b_list : mg "list" = none) (b_len : mg "len" = none) (b_range : mg "range" = none) (b_all : mg "all" = none) (hr : Room k (A.deeper (envOfC "_law_same" (defScope s_law_same) s.heap.objs.size f cdv))) :
    DSs (cxOf CX0 P w K mg base N_law_same "_law_same" (defScope s_law_same) f cdv A outer s H E).nox (defBody s_law_same) (t_law_same n) :=
  (dss_cons (ds_if (PW.pt (dw_or (dt_isN (de_var 1) de_non) (dw_or1 (dt_isN (de_var 0) de_non)))) (dss_one (ds_ret (de_and (de_isN (de_var 1) de_non) (de_one (de_isN (de_var 0) de_non))))) dss_nil) (dss_cons (ds_if (PW.pt (dw_or (dt_tru (de_callB call_isi rel_isi (by rfl) b_isinstance (by decide +kernel) (da_cons (de_var 1) (da_cons (de_ty "bool" (by rfl) b_bool (by decide +kernel)) da_nil)))) (dw_or1 (dt_tru (de_callB call_isi rel_isi (by rfl) b_isinstance (by decide +kernel) (da_cons (de_var 0) (da_cons (de_ty "bool" (by rfl) b_bool (by decide +kernel)) da_nil))))))) (dss_one (ds_ret (de_and (de_callB call_isi rel_isi (by rfl) b_isinstance (by decide +kernel) (da_cons (de_var 1) (da_cons (de_ty "bool" (by rfl) b_bool (by decide +kernel)) da_nil))) (de_and (de_callB call_isi rel_isi (by rfl) b_isinstance (by decide +kernel) (da_cons (de_var 0) (da_cons (de_ty "bool" (by rfl) b_bool (by decide +kernel)) da_nil))) (de_one (de_eq hr.units (de_var 0) (de_var 1))))))) dss_nil) (dss_cons (ds_if (dt_tru (de_callB call_isi rel_isi (by rfl) b_isinstance (by decide +kernel) (da_cons (de_var 1) (da_cons (de_ty "int" (by rfl) b_int (by decide +kernel)) da_nil)))) (dss_one (ds_ret (de_and (de_callB call_isi rel_isi (by rfl) b_isinstance (by decide +kernel) (da_cons (de_var 0) (da_cons (de_ty "int" (by rfl) b_int (by decide +kernel)) da_nil))) (de_one (de_eq hr.units (de_var 0) (de_var 1)))))) dss_nil) (dss_cons (ds_if (dt_tru (de_callB call_isi rel_isi (by rfl) b_isinstance (by decide +kernel) (da_cons (de_var 1) (da_cons (de_ty "str" (by rfl) b_str (by decide +kernel)) da_nil)))) (dss_one (ds_ret (de_and (de_callB call_isi rel_isi (by rfl) b_isinstance (by decide +kernel) (da_cons (de_var 0) (da_cons (de_ty "str" (by rfl) b_str (by decide +kernel)) da_nil))) (de_one (de_eq hr.units (de_var 0) (de_var 1)))))) dss_nil) (dss_cons (ds_if (PW.pt (dw_and (dt_tru (de_callB call_isi rel_isi (by rfl) b_isinstance (by decide +kernel) (da_cons (de_var 1) (da_cons (de_ty "tuple" (by rfl) b_tuple (by decide +kernel)) da_nil)))) (dw_and1 (dt_not (dt_tru (de_callB call_isi rel_isi (by rfl) b_isinstance (by decide +kernel) (da_cons (de_var 0) (da_cons (de_ty "tuple" (by rfl) b_tuple (by decide +kernel)) da_nil)))))))) (dss_one (ds_ret de_bl)) dss_nil) (dss_cons (ds_if (PW.pt (dw_and (dt_tru (de_callB call_isi rel_isi (by rfl) b_isinstance (by decide +kernel) (da_cons (de_var 1) (da_cons (de_ty "list" (by rfl) b_list (by decide +kernel)) da_nil)))) (dw_and1 (dt_not (dt_tru (de_callB call_isi rel_isi (by rfl) b_isinstance (by decide +kernel) (da_cons (de_var 0) (da_cons (de_ty "list" (by rfl) b_list (by decide +kernel)) da_nil)))))))) (dss_one (ds_ret de_bl)) dss_nil) (dss_cons (ds_if (dt_ne hr.units (de_callB call_len rel_len (by rfl) b_len (by decide +kernel) (da_cons (de_var 0) da_nil)) (de_callB call_len rel_len (by rfl) b_len (by decide +kernel) (da_cons (de_var 1) da_nil))) (dss_one (ds_ret de_bl)) dss_nil) (dss_one (ds_ret (de_callB (cr_all rfl) rel_all (by rfl) b_all (by decide +kernel) (da_cons (de_lc (own := [("at", 2)]) false rfl sc_law_same.nd (di_r1 (by rfl) b_range (da_cons (de_callB call_len rel_len (by rfl) b_len (by decide +kernel) (da_cons (de_var 1) da_nil)) da_nil)) (blkOk_by (own := [("at", 2)]) (N := N_law_same) (sc := defScope s_law_same) (by decide +kernel)) (relg_name 2) (fun _ _ _ _ _ => (pg_name (i := 2) sc_law_same.nd rfl (by first | exact Or.inl rfl | exact Or.inr rfl))) (fun _ _ _ _ _ => dps_nil) (fun _ _ _ _ _ => (de_cal C_law_same hr (da_cons (de_idx (de_var 0) (de_var 2)) (da_cons (de_idx (de_var 1) (de_var 2)) da_nil))))) da_nil)))))))))))
theorem body_law_k04_line (C_law_one : Cal P w K mg base k "_law_one" ["source", "things"] sp_law_one) (C_law_pick : Cal P w K mg base k "_law_pick" ["source", "many"] sp_law_pick) (b_str : mg "str" = none) (hr : Room k (A.deeper (envOfC "_law_k04_line" (defScope s_law_k04_line) s.heap.objs.size f cdv))) :
    DSs (cxOf CX0 P w K mg base N_law_k04_line "_law_k04_line" (defScope s_law_k04_line) f cdv A outer s H E).nox (defBody s_law_k04_line) t_law_k04_line :=
  (dss_cons (ds_set (i := 1) sc_law_k04_line.nd (de_lst false (da_cons (de_str [116, 101, 120, 116, 32, 116]) (da_cons (de_str [112, 97, 105, 114, 32, 102, 32, 103]) (da_cons (de_str [111, 110, 101, 32, 112, 108, 97, 105, 110, 32, 45]) (da_cons (de_str [49]) (da_cons (de_str [32]) (da_cons (de_str [101, 110, 100, 32, 102, 97, 99, 116]) (da_cons (de_str [102, 97, 99, 116, 32, 107, 101, 112, 116]) (da_cons (de_str [111, 102, 32, 120]) (da_cons (de_str [98, 121, 32, 49]) (da_cons (de_str [114, 111, 111, 116, 32, 50, 32, 50, 32, 45, 50, 32, 48, 32, 49]) (da_cons (de_str [126]) (da_cons (de_str [111, 116, 104, 101, 114, 32, 115, 117, 109, 32, 49]) (da_cons (de_str [112, 97, 105, 114, 32, 102]) (da_cons (de_str [98, 108, 111, 99, 107, 32, 109, 97, 105, 110]) da_nil)))))))))))))))) (dss_cons (ds_set (i := 2) sc_law_k04_line.nd (de_cal C_law_one hr (da_cons (de_var 0) (da_cons (de_var 1) da_nil)))) (dss_one (ds_ret (de_ifx (dt_eq hr.units (de_cal C_law_pick hr (da_cons (de_var 0) (da_cons de_int da_nil))) de_int) (de_add false (de_add false (de_var 2) (de_str [32])) (de_callTy call_str_int rel_str (by rfl) b_str (by decide +kernel) (da_cons (de_cal C_law_pick hr (da_cons (de_var 0) (da_cons de_int da_nil))) da_nil))) (de_var 2))))))
theorem body_law_k04_fact (C_law_one : Cal P w K mg base k "_law_one" ["source", "things"] sp_law_one) (C_law_pick : Cal P w K mg base k "_law_pick" ["source", "many"] sp_law_pick) (C_law_k04_line : Cal P w K mg base k "_law_k04_line" ["source"] sp_law_k04_line) (b_range : mg "range" = none) (b_tuple : mg "tuple" = none) (hr : Room k (A.deeper (envOfC "_law_k04_fact" (defScope s_law_k04_fact) s.heap.objs.size f cdv))) :
    DSs (cxOf CX0 P w K mg base N_law_k04_fact "_law_k04_fact" (defScope s_law_k04_fact) f cdv A outer s H E).nox (defBody s_law_k04_fact) t_law_k04_fact :=
  (dss_cons (ds_set (i := 1) sc_law_k04_fact.nd (de_cal C_law_one hr (da_cons (de_var 0) (da_cons (de_lst false (da_cons (de_str [107, 101, 112, 116]) (da_cons (de_str [98, 114, 111, 107, 101, 110]) (da_cons (de_str [111, 114, 100, 101, 114]) (da_cons (de_str [115, 97, 109, 101]) (da_cons (de_str [117, 110, 108, 105, 107, 101]) da_nil)))))) da_nil)))) (dss_cons (ds_setLc (i := 2) (own := [("at", 4)]) false rfl sc_law_k04_fact.nd (di_r1 (by rfl) b_range (da_cons (de_add false de_int (de_cal C_law_pick hr (da_cons (de_var 0) (da_cons de_int da_nil)))) da_nil)) (blkOk_by (own := [("at", 4)]) (N := N_law_k04_fact) (sc := defScope s_law_k04_fact) (by decide +kernel)) (relg_name 4) (fun _ _ _ _ _ => (pg_name (i := 4) sc_law_k04_fact.nd rfl (by first | exact Or.inl rfl | exact Or.inr rfl))) (fun _ _ _ _ _ => dps_nil) (fun _ _ _ _ _ => (de_cal C_law_k04_line hr (da_cons (de_var 0) da_nil))) (sw_true rfl rfl rfl (by decide +kernel))) (dss_cons (ds_setLc (i := 3) (own := [("at", 4)]) false rfl sc_law_k04_fact.nd (di_r1 (by rfl) b_range (da_cons (de_add false de_int (de_cal C_law_pick hr (da_cons (de_var 0) (da_cons de_int da_nil)))) da_nil)) (blkOk_by (own := [("at", 4)]) (N := N_law_k04_fact) (sc := defScope s_law_k04_fact) (by decide +kernel)) (relg_name 4) (fun _ _ _ _ _ => (pg_name (i := 4) sc_law_k04_fact.nd rfl (by first | exact Or.inl rfl | exact Or.inr rfl))) (fun _ _ _ _ _ => dps_nil) (fun _ _ _ _ _ => (de_cal C_law_k04_line hr (da_cons (de_var 0) da_nil))) (sw_true rfl rfl rfl (by decide +kernel))) (dss_cons (ds_if (dt_eq hr.units (de_var 1) (de_str [111, 114, 100, 101, 114])) (dss_cons (ds_set (i := 2) sc_law_k04_fact.nd (de_slice false (de_add false (de_var 2) (de_lst false (da_cons (de_str [50]) da_nil))) do_none (do_some de_int))) (dss_one (ds_set (i := 3) sc_law_k04_fact.nd (de_slice false (de_var 3) do_none (do_some de_int))))) dss_nil) (dss_cons (ds_if (dt_in (de_var 1) (de_tup (da_cons (de_str [115, 97, 109, 101]) (da_cons (de_str [117, 110, 108, 105, 107, 101]) da_nil)))) (dss_one (ds_set (i := 2) sc_law_k04_fact.nd (de_add false (de_var 2) (de_lst false (da_cons (de_add false (de_add false (de_add false (de_str [112, 97, 105, 114, 32]) (de_cal C_law_one hr (da_cons (de_var 0) (da_cons (de_lst false (da_cons (de_str [102]) (da_cons (de_str [97, 98]) (da_cons (de_str [102]) da_nil)))) da_nil)))) (de_str [32])) (de_cal C_law_one hr (da_cons (de_var 0) (da_cons (de_lst false (da_cons (de_str [103]) (da_cons (de_str [102]) (da_cons (de_str [120]) da_nil)))) da_nil)))) da_nil))))) dss_nil) (dss_cons (ds_if (dt_eq hr.units (de_var 1) (de_str [117, 110, 108, 105, 107, 101])) (dss_one (ds_set (i := 3) sc_law_k04_fact.nd (de_slice false (de_var 3) do_none (do_some de_int)))) dss_nil) (dss_cons (ds_if (dt_eq hr.units (de_var 1) (de_str [115, 97, 109, 101])) (dss_one (ds_setLc (i := 3) (own := [("one", 5)]) false rfl sc_law_k04_fact.nd (di_seq (de_slice false (de_var 3) do_none (do_some (de_cal C_law_pick hr (da_cons (de_var 0) (da_cons de_int da_nil)))))) (blkOk_by (own := [("one", 5)]) (N := N_law_k04_fact) (sc := defScope s_law_k04_fact) (by decide +kernel)) (relg_name 5) (fun _ _ _ _ _ => (pg_name (i := 5) sc_law_k04_fact.nd rfl (by first | exact Or.inl rfl | exact Or.inr rfl))) (fun _ _ _ _ _ => dps_nil) (fun _ _ _ _ _ => (de_add false (de_cal C_law_one hr (da_cons (de_var 0) (da_cons (de_lst false (da_cons (de_str [111, 110, 101, 32]) (da_cons (de_str [111, 116, 104, 101, 114, 32]) da_nil))) da_nil))) (de_var 5))) (sw_true rfl rfl rfl (by decide +kernel)))) dss_nil) (dss_one (ds_ret (de_tup (da_cons (de_var 1) (da_cons (de_callTy call_tuple_of rel_tupOf (by rfl) b_tuple (by decide +kernel) (da_cons (de_var 2) da_nil)) (da_cons (de_callTy call_tuple_of rel_tupOf (by rfl) b_tuple (by decide +kernel) (da_cons (de_var 3) da_nil)) da_nil)))))))))))))
theorem body_law_k04_rows  (hr : Room k (A.deeper (envOfC "_law_k04_rows" (defScope s_law_k04_rows) s.heap.objs.size f cdv))) :
    DSs (cxOf CX0 P w K mg base N_law_k04_rows "_law_k04_rows" (defScope s_law_k04_rows) f cdv A outer s H E).nox (defBody s_law_k04_rows) t_law_k04_rows :=
  (dss_one (ds_ret (de_add false (de_add false (de_add false (de_lst false (da_cons (de_add false (de_str [102, 97, 99, 116, 32]) (de_idx (de_var 0) de_int)) da_nil)) (de_lc (own := [("one", 1)]) false rfl sc_law_k04_rows.nd (di_seq (de_idx (de_var 0) de_int)) (blkOk_by (own := [("one", 1)]) (N := N_law_k04_rows) (sc := defScope s_law_k04_rows) (by decide +kernel)) (relg_name 1) (fun _ _ _ _ _ => (pg_name (i := 1) sc_law_k04_rows.nd rfl (by first | exact Or.inl rfl | exact Or.inr rfl))) (fun _ _ _ _ _ => dps_nil) (fun _ _ _ _ _ => (de_add false (de_str [111, 102, 32]) (de_var 1))))) (de_lc (own := [("one", 1)]) false rfl sc_law_k04_rows.nd (di_seq (de_idx (de_var 0) de_int)) (blkOk_by (own := [("one", 1)]) (N := N_law_k04_rows) (sc := defScope s_law_k04_rows) (by decide +kernel)) (relg_name 1) (fun _ _ _ _ _ => (pg_name (i := 1) sc_law_k04_rows.nd rfl (by first | exact Or.inl rfl | exact Or.inr rfl))) (fun _ _ _ _ _ => dps_nil) (fun _ _ _ _ _ => (de_add false (de_str [98, 121, 32]) (de_var 1))))) (de_lst false (da_cons (de_str [101, 110, 100, 32, 102, 97, 99, 116]) da_nil)))))
theorem body_law_k04_right (b_len : mg "len" = none) (b_all : mg "all" = none) (hr : Room k (A.deeper (envOfC "_law_k04_right" (defScope s_law_k04_right) s.heap.objs.size f cdv))) :
    DSs (cxOf CX0 P w K mg base N_law_k04_right "_law_k04_right" (defScope s_law_k04_right) f cdv A outer s H E).nox (defBody s_law_k04_right) t_law_k04_right :=
  (dss_cons (ds_if (dt_in (de_var 0) (de_tup (da_cons (de_str [107, 101, 112, 116]) (da_cons (de_str [98, 114, 111, 107, 101, 110]) da_nil)))) (dss_one (ds_ret (de_and (de_gt (de_callB call_len rel_len (by rfl) b_len (by decide +kernel) (da_cons (de_var 1) da_nil)) de_int) (de_one (de_gt (de_callB call_len rel_len (by rfl) b_len (by decide +kernel) (da_cons (de_var 2) da_nil)) de_int))))) dss_nil) (dss_cons (ds_if (dt_eq hr.units (de_var 0) (de_str [111, 114, 100, 101, 114])) (dss_one (ds_ret (de_and (de_eq hr.units (de_callB call_len rel_len (by rfl) b_len (by decide +kernel) (da_cons (de_var 1) da_nil)) de_int) (de_one (de_eq hr.units (de_callB call_len rel_len (by rfl) b_len (by decide +kernel) (da_cons (de_var 2) da_nil)) de_int))))) dss_nil) (dss_cons (ds_if (PW.pt (dw_or (dt_nin (de_var 0) (de_tup (da_cons (de_str [115, 97, 109, 101]) (da_cons (de_str [117, 110, 108, 105, 107, 101]) da_nil)))) (dw_or1 (dt_lt (de_callB call_len rel_len (by rfl) b_len (by decide +kernel) (da_cons (de_var 1) da_nil)) de_int)))) (dss_one (ds_ret de_bl)) dss_nil) (dss_cons (ds_set (i := 3) sc_law_k04_right.nd (de_bm tyV_str rel_split PySem.F.plainAttrs_str PySem.F.slot_str_split PySem.F.type_str_split mt_split (de_idx (de_var 1) (de_neg de_int)) (da_cons (de_str [32]) da_nil))) (dss_cons (ds_if (PW.pt (dw_or (dt_ne hr.units (de_callB call_len rel_len (by rfl) b_len (by decide +kernel) (da_cons (de_var 3) da_nil)) de_int) (dw_or1 (dt_ne hr.units (de_idx (de_var 3) de_int) (de_str [112, 97, 105, 114]))))) (dss_one (ds_ret de_bl)) dss_nil) (dss_cons (ds_if (dt_eq hr.units (de_var 0) (de_str [117, 110, 108, 105, 107, 101])) (dss_one (ds_ret (de_eq hr.units (de_callB call_len rel_len (by rfl) b_len (by decide +kernel) (da_cons (de_var 2) da_nil)) de_int))) dss_nil) (dss_one (ds_ret (de_callB (cr_all rfl) rel_all (by rfl) b_all (by decide +kernel) (da_cons (de_lc (own := [("one", 4)]) false rfl sc_law_k04_right.nd (di_seq (de_var 2)) (blkOk_by (own := [("one", 4)]) (N := N_law_k04_right) (sc := defScope s_law_k04_right) (by decide +kernel)) (relg_name 4) (fun _ _ _ _ _ => (pg_name (i := 4) sc_law_k04_right.nd rfl (by first | exact Or.inl rfl | exact Or.inr rfl))) (fun _ _ _ _ _ => dps_nil) (fun _ _ _ _ _ => (de_or (de_eq hr.units (de_slice false (de_var 4) do_none (do_some de_int)) (de_str [111, 110, 101, 32])) (de_one (de_eq hr.units (de_slice false (de_var 4) do_none (do_some de_int)) (de_str [111, 116, 104, 101, 114, 32])))))) da_nil))))))))))
theorem body_law_k04_due (C_law_k04_right : Cal P w K mg base k "_law_k04_right" ["word", "question", "paper"] sp_law_k04_right) (b_range : mg "range" = none) (b_len : mg "len" = none) (b_tuple : mg "tuple" = none) (hr : Room k (A.deeper (envOfC "_law_k04_due" (defScope s_law_k04_due) s.heap.objs.size f cdv))) :
    DSs (cxOf CX0 P w K mg base N_law_k04_due "_law_k04_due" (defScope s_law_k04_due) f cdv A outer s H E).nox (defBody s_law_k04_due) t_law_k04_due :=
  (dss_cons (ds_set (i := 1) sc_law_k04_due.nd (de_lst true da_nil)) (dss_cons (ds_set (i := 2) sc_law_k04_due.nd de_int) (dss_cons (ds_for (vs := [3]) PassesOwn.never rfl (di_r1 (by rfl) b_range (da_cons (de_callB call_len rel_len (by rfl) b_len (by decide +kernel) (da_cons (de_var 0) da_nil)) da_nil)) (pg_name (i := 3) sc_law_k04_due.nd rfl (by first | exact Or.inl rfl | exact Or.inr rfl)) (relg_name 3) (dss_cons (ds_if (dt_ge (de_var 2) (de_callB call_len rel_len (by rfl) b_len (by decide +kernel) (da_cons (de_var 0) da_nil))) (dss_one ds_break) dss_nil) (dss_cons (ds_set (i := 4) sc_law_k04_due.nd (de_bm tyV_str rel_split PySem.F.plainAttrs_str PySem.F.slot_str_split PySem.F.type_str_split mt_split (de_idx (de_var 0) (de_var 2)) (da_cons (de_str [32]) da_nil))) (dss_cons (ds_set (i := 5) sc_law_k04_due.nd (de_add false (de_var 2) de_int)) (dss_cons (ds_set (i := 6) sc_law_k04_due.nd (de_lst true da_nil)) (dss_cons (ds_set (i := 7) sc_law_k04_due.nd (de_lst true da_nil)) (dss_cons (ds_while PassesOwn.never (PW.pt (dw_and (dt_lt (de_var 5) (de_callB call_len rel_len (by rfl) b_len (by decide +kernel) (da_cons (de_var 0) da_nil))) (dw_and (dt_eq hr.units (de_slice false (de_idx (de_var 0) (de_var 5)) do_none (do_some de_int)) (de_str [111, 102, 32])) (dw_and1 (dt_ne hr.units (de_idx (de_var 0) (de_var 5)) (de_str [111, 102, 32])))))) (dss_cons (ds_expr (de_bm tyV_list rel_append PySem.F.plainAttrs_list PySem.F.slot_list_append PySem.F.type_list_append mt_append (de_var 6) (da_cons (de_slice false (de_idx (de_var 0) (de_var 5)) (do_some de_int) do_none) da_nil))) (dss_one (ds_aug (i := 5) sc_law_k04_due.nd pip_add rel_iadd de_int)))) (dss_cons (ds_while PassesOwn.never (PW.pt (dw_and (dt_lt (de_var 5) (de_callB call_len rel_len (by rfl) b_len (by decide +kernel) (da_cons (de_var 0) da_nil))) (dw_and (dt_eq hr.units (de_slice false (de_idx (de_var 0) (de_var 5)) do_none (do_some de_int)) (de_str [98, 121, 32])) (dw_and1 (dt_ne hr.units (de_idx (de_var 0) (de_var 5)) (de_str [98, 121, 32])))))) (dss_cons (ds_expr (de_bm tyV_list rel_append PySem.F.plainAttrs_list PySem.F.slot_list_append PySem.F.type_list_append mt_append (de_var 7) (da_cons (de_slice false (de_idx (de_var 0) (de_var 5)) (do_some de_int) do_none) da_nil))) (dss_one (ds_aug (i := 5) sc_law_k04_due.nd pip_add rel_iadd de_int)))) (dss_cons (ds_set (i := 8) sc_law_k04_due.nd (de_and (de_lt (de_var 5) (de_callB call_len rel_len (by rfl) b_len (by decide +kernel) (da_cons (de_var 0) da_nil))) (de_and (de_eq hr.units (de_idx (de_var 0) (de_var 5)) (de_str [101, 110, 100, 32, 102, 97, 99, 116])) (de_and (de_eq hr.units (de_callB call_len rel_len (by rfl) b_len (by decide +kernel) (da_cons (de_var 4) da_nil)) de_int) (de_one (de_eq hr.units (de_idx (de_var 4) de_int) (de_str [102, 97, 99, 116]))))))) (dss_one (ds_if (PW.pt (dw_and (dt_tru (de_var 8)) (dw_and1 (dt_tru (de_cal C_law_k04_right hr (da_cons (de_idx (de_var 4) de_int) (da_cons (de_var 6) (da_cons (de_var 7) da_nil)))))))) (dss_cons (ds_expr (de_bm tyV_list rel_append PySem.F.plainAttrs_list PySem.F.slot_list_append PySem.F.type_list_append mt_append (de_var 1) (da_cons (de_tup (da_cons (de_idx (de_var 4) de_int) (da_cons (de_callTy call_tuple_of rel_tupOf (by rfl) b_tuple (by decide +kernel) (da_cons (de_var 6) da_nil)) (da_cons (de_callTy call_tuple_of rel_tupOf (by rfl) b_tuple (by decide +kernel) (da_cons (de_var 7) da_nil)) da_nil)))) da_nil))) (dss_one (ds_set (i := 2) sc_law_k04_due.nd (de_add false (de_var 5) de_int)))) (dss_one (ds_aug (i := 2) sc_law_k04_due.nd pip_add rel_iadd de_int))))))))))))) (dss_one (ds_ret (de_var 1))))))
theorem body_law_k04_spoilt (C_law_pick : Cal P w K mg base k "_law_pick" ["source", "many"] sp_law_pick) (C_law_one : Cal P w K mg base k "_law_one" ["source", "things"] sp_law_one) (b_len : mg "len" = none) (hr : Room k (A.deeper (envOfC "_law_k04_spoilt" (defScope s_law_k04_spoilt) s.heap.objs.size f cdv))) :
    DSs (cxOf CX0 P w K mg base N_law_k04_spoilt "_law_k04_spoilt" (defScope s_law_k04_spoilt) f cdv A outer s H E).nox (defBody s_law_k04_spoilt) t_law_k04_spoilt :=
  (dss_cons (ds_set (i := 2) sc_law_k04_spoilt.nd (de_cal C_law_pick hr (da_cons (de_var 0) (da_cons de_int da_nil)))) (dss_cons (ds_set (i := 3) sc_law_k04_spoilt.nd (de_cal C_law_pick hr (da_cons (de_var 0) (da_cons (de_callB call_len rel_len (by rfl) b_len (by decide +kernel) (da_cons (de_var 1) da_nil)) da_nil)))) (dss_cons (ds_if (dt_eq hr.units (de_var 2) de_int) (dss_one (ds_ret (de_slice false (de_var 1) do_none (do_some (de_var 3))))) dss_nil) (dss_cons (ds_if (dt_eq hr.units (de_var 2) de_int) (dss_one (ds_ret (de_add false (de_slice false (de_var 1) do_none (do_some (de_var 3))) (de_slice false (de_var 1) (do_some (de_add false (de_var 3) de_int)) do_none)))) dss_nil) (dss_cons (ds_if (dt_eq hr.units (de_var 2) de_int) (dss_one (ds_ret (de_add false (de_add false (de_slice false (de_var 1) do_none (do_some (de_var 3))) (de_lst false (da_cons (de_add false (de_idx (de_var 1) (de_var 3)) (de_str [32])) da_nil))) (de_slice false (de_var 1) (do_some (de_add false (de_var 3) de_int)) do_none)))) dss_nil) (dss_cons (ds_if (dt_eq hr.units (de_var 2) de_int) (dss_one (ds_ret (de_add false (de_add false (de_slice false (de_var 1) do_none (do_some (de_var 3))) (de_lst false (da_cons (de_str [102, 97, 99, 116, 32, 107, 101, 112, 116]) da_nil))) (de_slice false (de_var 1) (do_some (de_var 3)) do_none)))) dss_nil) (dss_cons (ds_if (dt_eq hr.units (de_var 2) de_int) (dss_one (ds_ret (de_add false (de_lst false (da_cons (de_add false (de_str [102, 97, 99, 116, 32]) (de_cal C_law_one hr (da_cons (de_var 0) (da_cons (de_lst false (da_cons (de_str [111, 114, 100, 101, 114]) (da_cons (de_str [107, 101, 112, 116]) (da_cons (de_str [117, 110, 108, 105, 107, 101]) (da_cons (de_str [115, 97, 109, 101]) (da_cons (de_str [98, 114, 111, 107, 101, 110]) (da_cons (de_str [107, 101, 101, 112]) (da_cons (de_str []) da_nil)))))))) da_nil)))) da_nil)) (de_slice false (de_var 1) (do_some de_int) do_none)))) dss_nil) (dss_cons (ds_if (dt_eq hr.units (de_var 2) de_int) (dss_one (ds_ret (de_add false (de_add false (de_slice false (de_var 1) do_none (do_some (de_var 3))) (de_lst false (da_cons (de_cal C_law_one hr (da_cons (de_var 0) (da_cons (de_lst false (da_cons (de_str []) (da_cons (de_str [111, 102, 32]) (da_cons (de_str [98, 121, 32]) (da_cons (de_str [111, 102]) (da_cons (de_str [106, 117, 110, 107]) (da_cons (de_str [111, 102, 32, 49]) (da_cons (de_str [98, 121, 32, 111, 110, 101, 32, 120]) da_nil)))))))) da_nil))) da_nil))) (de_slice false (de_var 1) (do_some (de_var 3)) do_none)))) dss_nil) (dss_cons (ds_if (dt_eq hr.units (de_var 2) de_int) (dss_one (ds_ret (de_add false (de_slice false (de_var 1) do_none (do_some (de_neg de_int))) (de_lst false (da_cons (de_cal C_law_one hr (da_cons (de_var 0) (da_cons (de_lst false (da_cons (de_str [101, 110, 100]) (da_cons (de_str [101, 110, 100, 32, 102, 97, 99, 116, 115]) (da_cons (de_str [32, 101, 110, 100, 32, 102, 97, 99, 116]) (da_cons (de_str [69, 78, 68, 32, 70, 65, 67, 84]) da_nil))))) da_nil))) da_nil))))) dss_nil) (dss_cons (ds_if (dt_eq hr.units (de_var 2) de_int) (dss_one (ds_ret (de_add false (de_lst false (da_cons (de_add false (de_str [32]) (de_idx (de_var 1) de_int)) da_nil)) (de_slice false (de_var 1) (do_some de_int) do_none)))) dss_nil) (dss_one (ds_ret (de_add false (de_add false (de_slice false (de_var 1) do_none (do_some de_int)) (de_slice false (de_var 1) (do_some de_int) do_none)) (de_slice false (de_var 1) (do_some de_int) (do_some de_int)))))))))))))))
theorem body_law (C_law_source : Cal P w K mg base k "_law_source" ["script", "at"] sp_law_source) (C_law_pick : Cal P w K mg base k "_law_pick" ["source", "many"] sp_law_pick) (C_law_k04_fact : Cal P w K mg base k "_law_k04_fact" ["source"] sp_law_k04_fact) (C_fact_text : Cal P w K mg base k "fact_text" ["fact"] sp_fact_text) (C_law_k04_rows : Cal P w K mg base k "_law_k04_rows" ["fact"] sp_law_k04_rows) (C_facts_from : Cal P w K mg base k "facts_from" ["text"] sp_facts_from) (C_law_same : Cal P w K mg base k "_law_same" ["answer", "due"] sp_law_same) (C_law_k04_spoilt : Cal P w K mg base k "_law_k04_spoilt" ["source", "rows"] sp_law_k04_spoilt) (C_law_one : Cal P w K mg base k "_law_one" ["source", "things"] sp_law_one) (C_law_k04_due : Cal P w K mg base k "_law_k04_due" ["lines"] sp_law_k04_due) (b_range : mg "range" = none) (b_len : mg "len" = none) (b_list : mg "list" = none) (b_isinstance : mg "isinstance" = none) (hr : Room k (A.deeper (envOfC "law" (defScope s_law) s.heap.objs.size f cdv))) :
    DSs (cxOf CX0 P w K mg base N_law "law" (defScope s_law) f cdv A outer s H E).nox (defBody s_law) t_law :=
  (dss_cons (ds_set (i := 1) sc_law.nd (de_cal C_law_source hr (da_cons (de_var 0) (da_cons de_int da_nil)))) (dss_cons (ds_set (i := 2) sc_law.nd (de_lst true da_nil)) (dss_cons (ds_for (vs := [3]) PassesOwn.never rfl (di_r1 (by rfl) b_range (da_cons (de_add false de_int (de_cal C_law_pick hr (da_cons (de_var 1) (da_cons de_int da_nil)))) da_nil)) (pg_name (i := 3) sc_law.nd rfl (by first | exact Or.inl rfl | exact Or.inr rfl)) (relg_name 3) (dss_cons (ds_set (i := 4) sc_law.nd (de_cal C_law_pick hr (da_cons (de_var 1) (da_cons de_int da_nil)))) (dss_cons (ds_set (i := 5) sc_law.nd (de_cal C_law_k04_fact hr (da_cons (de_var 1) da_nil))) (dss_one (ds_if (dt_lt (de_var 4) de_int) (dss_cons (ds_set (i := 6) sc_law.nd (de_cal C_fact_text hr (da_cons (de_var 5) da_nil))) (dss_cons (ds_if (PW.pt (dw_or (dt_ne hr.units (de_var 6) (de_bm tyV_str rel_join PySem.F.plainAttrs_str PySem.F.slot_str_join PySem.F.type_str_join mt_join (de_str []) (da_cons (de_lc (own := [("row", 8)]) false rfl sc_law.nd (di_seq (de_cal C_law_k04_rows hr (da_cons (de_var 5) da_nil))) (blkOk_by (own := [("row", 8)]) (N := N_law) (sc := defScope s_law) (by decide +kernel)) (relg_name 8) (fun _ _ _ _ _ => (pg_name (i := 8) sc_law.nd rfl (by first | exact Or.inl rfl | exact Or.inr rfl))) (fun _ _ _ _ _ => dps_nil) (fun _ _ _ _ _ => (de_add false (de_var 8) (de_str [10])))) da_nil))) (dw_or1 (dt_not (dt_tru (de_cal C_law_same hr (da_cons (de_cal C_facts_from hr (da_cons (de_var 6) da_nil)) (da_cons (de_lst false (da_cons (de_var 5) da_nil)) da_nil)))))))) (dss_one (ds_ret de_bl)) dss_nil) (dss_one (ds_set (i := 2) sc_law.nd (de_add true (de_var 2) (de_cal C_law_k04_rows hr (da_cons (de_var 5) da_nil))))))) (dss_one (ds_if (dt_eq hr.units (de_var 4) de_int) (dss_one (ds_set (i := 2) sc_law.nd (de_add true (de_var 2) (de_cal C_law_k04_spoilt hr (da_cons (de_var 1) (da_cons (de_cal C_law_k04_rows hr (da_cons (de_var 5) da_nil)) da_nil)))))) (dss_one (ds_expr (de_bm tyV_list rel_append PySem.F.plainAttrs_list PySem.F.slot_list_append PySem.F.type_list_append mt_append (de_var 2) (da_cons (de_cal C_law_one hr (da_cons (de_var 1) (da_cons (de_lst false (da_cons (de_str []) (da_cons (de_str [106, 117, 110, 107]) (da_cons (de_str [101, 110, 100, 32, 102, 97, 99, 116]) (da_cons (de_str [102, 97, 99, 116]) (da_cons (de_str [111, 102, 32, 49]) (da_cons (de_str [98, 121, 32, 49]) (da_cons (de_str [102, 97, 99, 116, 32, 107, 101, 112, 116]) (da_cons (de_str [102, 97, 99, 116, 32, 107, 101, 112, 116, 32, 110, 111, 119]) (da_cons (de_str [126, 32, 126]) (da_cons (de_str [102, 97, 99, 116, 32, 32, 107, 101, 112, 116]) (da_cons (de_str [9]) da_nil)))))))))))) da_nil))) da_nil))))))))))) (dss_cons (ds_set (i := 7) sc_law.nd (de_bm tyV_str rel_join PySem.F.plainAttrs_str PySem.F.slot_str_join PySem.F.type_str_join mt_join (de_str []) (da_cons (de_lc (own := [("line", 9)]) false rfl sc_law.nd (di_seq (de_var 2)) (blkOk_by (own := [("line", 9)]) (N := N_law) (sc := defScope s_law) (by decide +kernel)) (relg_name 9) (fun _ _ _ _ _ => (pg_name (i := 9) sc_law.nd rfl (by first | exact Or.inl rfl | exact Or.inr rfl))) (fun _ _ _ _ _ => dps_nil) (fun _ _ _ _ _ => (de_add false (de_var 9) (de_str [10])))) da_nil))) (dss_cons (ds_if (dt_eq hr.units (de_cal C_law_pick hr (da_cons (de_var 1) (da_cons de_int da_nil))) de_int) (dss_cons (ds_set (i := 7) sc_law.nd (de_slice false (de_var 7) do_none (do_some (de_sub (de_callB call_len rel_len (by rfl) b_len (by decide +kernel) (da_cons (de_var 7) da_nil)) de_int)))) (dss_one (ds_set (i := 2) sc_law.nd (de_slice true (de_bm tyV_str rel_split PySem.F.plainAttrs_str PySem.F.slot_str_split PySem.F.type_str_split mt_split (de_var 7) (da_cons (de_str [10]) da_nil)) do_none (do_some (de_neg de_int)))))) dss_nil) (dss_cons (ds_set (i := 6) sc_law.nd (de_cal C_facts_from hr (da_cons (de_var 7) da_nil))) (dss_cons (ds_if (PW.pt (dw_or (dt_not (dt_tru (de_callB call_isi rel_isi (by rfl) b_isinstance (by decide +kernel) (da_cons (de_var 6) (da_cons (de_ty "list" (by rfl) b_list (by decide +kernel)) da_nil))))) (dw_or1 (dt_not (dt_tru (de_cal C_law_same hr (da_cons (de_var 6) (da_cons (de_cal C_law_k04_due hr (da_cons (de_var 2) da_nil)) da_nil)))))))) (dss_one (ds_ret de_bl)) dss_nil) (dss_cons (ds_expr (de_bm tyV_list rel_append PySem.F.plainAttrs_list PySem.F.slot_list_append PySem.F.type_list_append mt_append (de_var 6) (da_cons de_non da_nil))) (dss_one (ds_ret (de_and (de_cal C_law_same hr (da_cons (de_cal C_facts_from hr (da_cons (de_var 7) da_nil)) (da_cons (de_cal C_law_k04_due hr (da_cons (de_var 2) da_nil)) da_nil))) (de_one (de_eq hr.units (de_cal C_facts_from hr (da_cons (de_str []) da_nil)) (de_lst false da_nil))))))))))))))
end
theorem len_parts_right : ∀ ds M Q E, sp_parts_right ds M Q E → ds.length = 3 := by
  intro ds M Q E h
  obtain ⟨_, _, _, rfl, _⟩ := h
  rfl
theorem len_run_of : ∀ ds M Q E, sp_run_of ds M Q E → ds.length = 3 := by
  intro ds M Q E h
  obtain ⟨_, _, _, rfl, _⟩ := h
  rfl
theorem len_fact_at : ∀ ds M Q E, sp_fact_at ds M Q E → ds.length = 2 := by
  intro ds M Q E h
  obtain ⟨_, _, _, rfl, _⟩ := h
  rfl
theorem len_facts_from : ∀ ds M Q E, sp_facts_from ds M Q E → ds.length = 1 := by
  intro ds M Q E h
  obtain ⟨_, rfl, _⟩ := h
  rfl
theorem len_fact_text : ∀ ds M Q E, sp_fact_text ds M Q E → ds.length = 1 := by
  intro ds M Q E h
  obtain ⟨_, _, _, rfl, _⟩ := h
  rfl
theorem len_law_k04_line : ∀ ds M Q E, sp_law_k04_line ds M Q E → ds.length = 1 := by
  intro ds M Q E h
  obtain ⟨_, _, _, rfl, _⟩ := h
  rfl
theorem len_law_k04_fact : ∀ ds M Q E, sp_law_k04_fact ds M Q E → ds.length = 1 := by
  intro ds M Q E h
  obtain ⟨_, _, _, rfl, _⟩ := h
  rfl
theorem len_law_k04_rows : ∀ ds M Q E, sp_law_k04_rows ds M Q E → ds.length = 1 := by
  intro ds M Q E h
  obtain ⟨_, _, _, rfl, _⟩ := h
  rfl
theorem len_law_k04_right : ∀ ds M Q E, sp_law_k04_right ds M Q E → ds.length = 3 := by
  intro ds M Q E h
  obtain ⟨_, _, _, _, _, rfl, _⟩ := h
  rfl
theorem len_law_k04_due : ∀ ds M Q E, sp_law_k04_due ds M Q E → ds.length = 1 := by
  intro ds M Q E h
  obtain ⟨_, _, rfl, _⟩ := h
  rfl
theorem len_law_k04_spoilt : ∀ ds M Q E, sp_law_k04_spoilt ds M Q E → ds.length = 2 := by
  intro ds M Q E h
  obtain ⟨_, _, _, _, rfl, _⟩ := h
  rfl
theorem len_law : ∀ ds M Q E, sp_law ds M Q E → ds.length = 1 := by
  intro ds M Q E h
  obtain ⟨_, rfl, _⟩ := h
  rfl
abbrev R : PySem.W.OpenRow := PySem.W.OpenLaw.row PySem.Challenge.rw_readapart_k04_facts_of_the_form
def fn : List He.DefD := [mkD "parts_right" (top 2), mkD "run_of" (top 3), mkD "fact_at" (top 4), mkD "facts_from" (top 5), mkD "fact_text" (top 6), mkD "_law_source" (top 8), mkD "_law_pick" (top 9), mkD "_law_one" (top 10), mkD "_law_same" (top 11), mkD "_law_k04_line" (top 12), mkD "_law_k04_fact" (top 13), mkD "_law_k04_rows" (top 14), mkD "_law_k04_right" (top 15), mkD "_law_k04_due" (top 16), mkD "_law_k04_spoilt" (top 17), mkD "law" (top 18)]
def fa : List He.Fa := [.glo "parts_right", .glo "run_of", .glo "fact_at", .glo "facts_from", .glo "fact_text", .glo "_law_source", .glo "_law_pick", .glo "_law_one", .glo "_law_same", .glo "_law_k04_line", .glo "_law_k04_fact", .glo "_law_k04_rows", .glo "_law_k04_right", .glo "_law_k04_due", .glo "_law_k04_spoilt", .glo "law", .free "len", .free "tuple", .free "int", .free "sum", .free "abs", .free "bool", .free "isinstance", .free "str", .free "list", .free "range", .free "all", .glo "KINDS"]
def ts : List He.Tab := []
def ex (K : PySem.W.Frag) : Bool := tupB K (He.ga K "KINDS") ["kept", "broken", "order", "same", "unlike"]
abbrev hk : PySem.W.Hook := He.hookX 4 fa fn ts [] ex
def ob (s : PySem.W.SharedT) : He.AlX := He.obsX 4 fa fn ts [] ex (HandSHeadRun.getT s)
theorem ob_eq (s : PySem.W.SharedT) : ob s = hk.obs s.abs := He.obsX_eq (HandSHeadRun.getT_eq s)
def loose : List Str := ["KINDS", "parts_right", "run_of", "fact_at", "facts_from", "fact_text", "_law_source", "_law_pick", "_law_one", "_law_same", "_law_k04_line", "_law_k04_fact", "_law_k04_rows", "_law_k04_right", "_law_k04_due", "_law_k04_spoilt"]
theorem runE (w : World) : HandSHeadRun.RunEq R (PySem.W.view R.prog [18]) hk ob 4000 loose w := by
  intro os
  kernel_rfl
theorem facts {P : Program} {w : World} {K : PySem.W.Frag} {h : Heap} {mg : Str → Option Value} {f : Addr} (X : K.In h) (G : h.Ns mainGlobals mg) (hfa : mg ("law" : Str) = some (.ref f)) (c : He.SaysX fa fn ts [] ex w h K) :
    ∃ fd : FuncData, (∀ (s : Shared) (v : Value), BindsTo s fd ⟨[v], []⟩ [("script", v)]) ∧ ∀ base : Heap, K.In base → base.Ns mainGlobals mg → FnOk P w K mg base CX0 10 f fd ["script"] (liftSp K sp_law) := by
  have b_len : mg "len" = none := free_of X G c.t.d 16 rfl
  have b_tuple : mg "tuple" = none := free_of X G c.t.d 17 rfl
  have b_int : mg "int" = none := free_of X G c.t.d 18 rfl
  have b_sum : mg "sum" = none := free_of X G c.t.d 19 rfl
  have b_abs : mg "abs" = none := free_of X G c.t.d 20 rfl
  have b_bool : mg "bool" = none := free_of X G c.t.d 21 rfl
  have b_isinstance : mg "isinstance" = none := free_of X G c.t.d 22 rfl
  have b_str : mg "str" = none := free_of X G c.t.d 23 rfl
  have b_list : mg "list" = none := free_of X G c.t.d 24 rfl
  have b_range : mg "range" = none := free_of X G c.t.d 25 rfl
  have b_all : mg "all" = none := free_of X G c.t.d 26 rfl
  have c_KINDS : GC K mg "KINDS" g_KINDS := gcT_of X G c.t.d 27 (cs := [[107, 101, 112, 116], [98, 114, 111, 107, 101, 110], [111, 114, 100, 101, 114], [115, 97, 109, 101], [117, 110, 108, 105, 107, 101]]) rfl c.more (by decide +kernel)
  have D_parts_right : DefAt K mg "parts_right" s_parts_right := defAt_of X G c.t.d 0 0 rfl rfl
  have D_run_of : DefAt K mg "run_of" s_run_of := defAt_of X G c.t.d 1 1 rfl rfl
  have D_fact_at : DefAt K mg "fact_at" s_fact_at := defAt_of X G c.t.d 2 2 rfl rfl
  have D_facts_from : DefAt K mg "facts_from" s_facts_from := defAt_of X G c.t.d 3 3 rfl rfl
  have D_fact_text : DefAt K mg "fact_text" s_fact_text := defAt_of X G c.t.d 4 4 rfl rfl
  have D_law_source : DefAt K mg "_law_source" s_law_source := defAt_of X G c.t.d 5 5 rfl rfl
  have D_law_pick : DefAt K mg "_law_pick" s_law_pick := defAt_of X G c.t.d 6 6 rfl rfl
  have D_law_one : DefAt K mg "_law_one" s_law_one := defAt_of X G c.t.d 7 7 rfl rfl
  have D_law_same : DefAt K mg "_law_same" s_law_same := defAt_of X G c.t.d 8 8 rfl rfl
  have D_law_k04_line : DefAt K mg "_law_k04_line" s_law_k04_line := defAt_of X G c.t.d 9 9 rfl rfl
  have D_law_k04_fact : DefAt K mg "_law_k04_fact" s_law_k04_fact := defAt_of X G c.t.d 10 10 rfl rfl
  have D_law_k04_rows : DefAt K mg "_law_k04_rows" s_law_k04_rows := defAt_of X G c.t.d 11 11 rfl rfl
  have D_law_k04_right : DefAt K mg "_law_k04_right" s_law_k04_right := defAt_of X G c.t.d 12 12 rfl rfl
  have D_law_k04_due : DefAt K mg "_law_k04_due" s_law_k04_due := defAt_of X G c.t.d 13 13 rfl rfl
  have D_law_k04_spoilt : DefAt K mg "_law_k04_spoilt" s_law_k04_spoilt := defAt_of X G c.t.d 14 14 rfl rfl
  obtain ⟨fd, F⟩ := c.t.d.def_ 15 (d := mkD "law" (top 18)) rfl
  have e := hfa.symm.trans (He.glo_ok X G (c.t.d.fact 15 (f := .glo "law") rfl))
  cases e
  have b := FunD.bindsA (ps := ["script"]) F fun _ _ _ _ _ _ us hl => match us, hl with | [_], _ => rfl
  refine ⟨fd, fun s v => b s [v] rfl, fun base _ _ => ?_⟩
  have C_parts_right : Cal P w K mg base 1 "parts_right" ["word", "question", "paper"] sp_parts_right := cal_of D_parts_right sc_parts_right len_parts_right (fun _ _ _ _ _ _ us hl => match us, hl with | [_, _, _], _ => rfl) (fun f cdv A outer s H E hr => body_parts_right b_len hr) sem_parts_right
  have C_run_of : Cal P w K mg base 1 "run_of" ["lines", "at", "word"] sp_run_of := cal_of D_run_of sc_run_of len_run_of (fun _ _ _ _ _ _ us hl => match us, hl with | [_, _, _], _ => rfl) (fun f cdv A outer s H E hr => body_run_of b_len hr) sem_run_of
  have C_fact_at : Cal P w K mg base 2 "fact_at" ["lines", "at"] sp_fact_at := cal_of D_fact_at sc_fact_at len_fact_at (fun _ _ _ _ _ _ us hl => match us, hl with | [_, _], _ => rfl) (fun f cdv A outer s H E hr => body_fact_at C_run_of C_parts_right b_len b_tuple c_KINDS hr) sem_fact_at
  have C_facts_from : Cal P w K mg base 3 "facts_from" ["text"] sp_facts_from := cal_of D_facts_from sc_facts_from len_facts_from (fun _ _ _ _ _ _ us hl => match us, hl with | [_], _ => rfl) (fun f cdv A outer s H E hr => body_facts_from C_fact_at b_len hr) sem_facts_from
  have C_fact_text : Cal P w K mg base 1 "fact_text" ["fact"] sp_fact_text := cal_of D_fact_text sc_fact_text len_fact_text (fun _ _ _ _ _ _ us hl => match us, hl with | [_], _ => rfl) (fun f cdv A outer s H E hr => body_fact_text  hr) sem_fact_text
  have C_law_source : Cal P w K mg base 1 "_law_source" ["script", "at"] sp_law_source := cal_of D_law_source sc_law_source len_law_source (fun _ _ _ _ _ _ us hl => match us, hl with | [_, _], _ => rfl) (fun f cdv A outer s H E hr => body_law_source b_len b_int b_sum b_abs hr) sem_law_source
  have C_law_pick : Cal P w K mg base 1 "_law_pick" ["source", "many"] sp_law_pick := cal_of D_law_pick sc_law_pick len_law_pick (fun _ _ _ _ _ _ us hl => match us, hl with | [_, _], _ => rfl) (fun f cdv A outer s H E hr => body_law_pick b_int hr) sem_law_pick
  have C_law_one : Cal P w K mg base 2 "_law_one" ["source", "things"] sp_law_one := cal_of D_law_one sc_law_one len_law_one (fun _ _ _ _ _ _ us hl => match us, hl with | [_, _], _ => rfl) (fun f cdv A outer s H E hr => body_law_one C_law_pick b_len hr) sem_law_one
  have C_law_same : Cal P w K mg base 9 "_law_same" ["answer", "due"] sp_law_same := cal_same D_law_same sc_law_same rfl (fun n k C f cdv A outer s H E hr => body_law_same n C b_bool b_isinstance b_int b_str b_tuple b_list b_len b_range b_all hr) (fun _ _ _ _ _ _ us hl => match us, hl with | [_, _], _ => rfl) 9
  have C_law_k04_line : Cal P w K mg base 3 "_law_k04_line" ["source"] sp_law_k04_line := cal_of D_law_k04_line sc_law_k04_line len_law_k04_line (fun _ _ _ _ _ _ us hl => match us, hl with | [_], _ => rfl) (fun f cdv A outer s H E hr => body_law_k04_line C_law_one (C_law_pick.mono (by decide)) b_str hr) sem_law_k04_line
  have C_law_k04_fact : Cal P w K mg base 4 "_law_k04_fact" ["source"] sp_law_k04_fact := cal_of D_law_k04_fact sc_law_k04_fact len_law_k04_fact (fun _ _ _ _ _ _ us hl => match us, hl with | [_], _ => rfl) (fun f cdv A outer s H E hr => body_law_k04_fact (C_law_one.mono (by decide)) (C_law_pick.mono (by decide)) C_law_k04_line b_range b_tuple hr) sem_law_k04_fact
  have C_law_k04_rows : Cal P w K mg base 1 "_law_k04_rows" ["fact"] sp_law_k04_rows := cal_of D_law_k04_rows sc_law_k04_rows len_law_k04_rows (fun _ _ _ _ _ _ us hl => match us, hl with | [_], _ => rfl) (fun f cdv A outer s H E hr => body_law_k04_rows  hr) sem_law_k04_rows
  have C_law_k04_right : Cal P w K mg base 1 "_law_k04_right" ["word", "question", "paper"] sp_law_k04_right := cal_of D_law_k04_right sc_law_k04_right len_law_k04_right (fun _ _ _ _ _ _ us hl => match us, hl with | [_, _, _], _ => rfl) (fun f cdv A outer s H E hr => body_law_k04_right b_len b_all hr) sem_law_k04_right
  have C_law_k04_due : Cal P w K mg base 2 "_law_k04_due" ["lines"] sp_law_k04_due := cal_of D_law_k04_due sc_law_k04_due len_law_k04_due (fun _ _ _ _ _ _ us hl => match us, hl with | [_], _ => rfl) (fun f cdv A outer s H E hr => body_law_k04_due C_law_k04_right b_range b_len b_tuple hr) sem_law_k04_due
  have C_law_k04_spoilt : Cal P w K mg base 3 "_law_k04_spoilt" ["source", "rows"] sp_law_k04_spoilt := cal_of D_law_k04_spoilt sc_law_k04_spoilt len_law_k04_spoilt (fun _ _ _ _ _ _ us hl => match us, hl with | [_, _], _ => rfl) (fun f cdv A outer s H E hr => body_law_k04_spoilt (C_law_pick.mono (by decide)) C_law_one b_len hr) sem_law_k04_spoilt
  exact dfn F sc_law len_law (fun cdv A outer s H E hr => body_law (C_law_source.mono (by decide)) (C_law_pick.mono (by decide)) (C_law_k04_fact.mono (by decide)) (C_fact_text.mono (by decide)) (C_law_k04_rows.mono (by decide)) (C_facts_from.mono (by decide)) C_law_same (C_law_k04_spoilt.mono (by decide)) (C_law_one.mono (by decide)) (C_law_k04_due.mono (by decide)) b_range b_len b_list b_isinstance hr) sem_law
end K04
open PySem PySem.W PySem.Calls PyProof.Rows
theorem PySem.Challenge.cw_readapart_k04_facts_of_the_form_holds : PySem.Challenge.rw_readapart_k04_facts_of_the_form.Holds := by
  w_on; o_law
  refine HandSHeadRun.head_any (r := OpenLaw.row PySem.Challenge.rw_readapart_k04_facts_of_the_form) (q := view (OpenLaw.row PySem.Challenge.rw_readapart_k04_facts_of_the_form).prog [18]) (H := K04.hk) (ob := K04.ob) (M := 4000) (loose := K04.loose) (d := HandSHeadRun.topDef (OpenLaw.row PySem.Challenge.rw_readapart_k04_facts_of_the_form).prog 18) (kwd := []) K04.ob_eq
    (by kernel_rfl) (fun s => by kernel_rfl) K04.runE (by kernel_rfl) (by kernel_rfl) (by kernel_rfl) (by rfl) (by first | assumption | decide +kernel) (by decide +kernel) ⟨rfl, rfl, rfl, rfl, rfl, by decide +kernel⟩ ?hw ?hc
  case hw => w_witness2
  case hc =>
    refine L2.walk_ofE (l := PySem.Challenge.rw_readapart_k04_facts_of_the_form) (n := 63) (k := 10) (x := "script") (CX := L2.CX0) rfl (by decide) (by kernel_rfl) ⟨rfl, by decide, by decide⟩ ?F (fun _ _ _ _ z => z)
    intro w mg fa h Y G hmg0
    obtain ⟨K, KX, c⟩ := Y
    have hmg : mg ("law" : PySem.Str) = some (.ref fa) := by
      have e : (HandSHeadRun.topDef (OpenLaw.row PySem.Challenge.rw_readapart_k04_facts_of_the_form).prog 18).name = ("law" : PySem.Str) := by kernel_rfl
      rw [← e]
      exact hmg0
    obtain ⟨fd, hb, hF⟩ := K04.facts (P := (PySem.Challenge.rw_readapart_k04_facts_of_the_form).prog) (w := w) KX G hmg c
    exact ⟨K, fd, DL.liftSp K K04.sp_law, KX, hb, fun H a ns _ _ hS => DL.law_sp (fun ns M Q E q => ⟨ns, rfl, q⟩) H a ns hS, hF⟩
