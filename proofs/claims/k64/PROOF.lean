import PyProof.Rows.All
import Wide.All
import OpenK.AllK
import Wide.FinOn
import HandS.ForMost
import HandS.Defaults
import HandS.IsInst
import HandS.Wide
import HandS.WideBits
import HandS.Flow
import HandS.Exc
import HandS.TupAny
import HandS.Walk
import HandS.Evl
import HandS.More
import HandS.ReplaceLit
import HandS.ReplaceList
import HandS.Head0
import HandS.Head1
import HandS.Head2
import HandS.HeadEnd
import HandS.HeadHook1
import HandS.HeadHook2
import HandS.HeadHook3
import HandS.HeadHook4
import HandS.Rev
import HandS.Iter
import PyProof.Rows.RuleB_bool
import PySem.Challenge.RW_readapart_k64_fractions_strictly_between
set_option Elab.async false
set_option linter.all false
set_option maxRecDepth 100000
set_option maxHeartbeats 2000000
set_option autoImplicit false
/-! DL: the data layer. Nested data as values (D), mutable lists by address (Mu), readings as functions. -/
namespace DL
open PySem PySem.Spec PyProof.Rows L2 TL

/-- data: texts by their codes; tuples and lists that stay (lst) as values; ref: a thing that may change -/
inductive D where
  | non | bl (b : Bool) | int (i : Int) | str (cs : List Nat) | tup (ds : List D) | lst (ds : List D) | src (ns : List Int) | ref (a : Addr) | ty (n : String)
/-- what may change -/
inductive DO where
  | lst (ds : List D)
  | dic (kvs : List (Key × D))
abbrev Mu := Addr → Option DO
def mset (M : Mu) (a : Addr) (o : DO) : Mu := fun b => if b = a then some o else M b
def mdrop (M : Mu) (a : Addr) : Mu := fun b => if b = a then none else M b
theorem mset_same {M : Mu} {a : Addr} {o : DO} : mset M a o a = some o := if_pos rfl
theorem mset_ne {M : Mu} {a b : Addr} {o : DO} (h : b ≠ a) : mset M a o b = M b := if_neg h
theorem mset_mset {M : Mu} {a : Addr} {o u : DO} : mset (mset M a o) a u = mset M a u := by
  funext b; unfold mset; split <;> rfl
theorem mdrop_mset {M : Mu} {a : Addr} {o : DO} (h : M a = none) : mdrop (mset M a o) a = M := by
  funext b; unfold mdrop mset
  by_cases e : b = a
  · rw [if_pos e, e, h]
  · rw [if_neg e, if_neg e]
def mkS (cs : List Nat) : Str := ⟨cs.toArray⟩
theorem mkS_len (cs : List Nat) : (mkS cs).length = cs.length := by simp [mkS, Str.length]
theorem mkS_tl (cs : List Nat) : tl (mkS cs) = cs := rfl
theorem mkS_app (a b : List Nat) : mkS a ++ mkS b = mkS (a ++ b) := ext_tl (by rw [tl_append]; rfl)
theorem mkS_inj {a b : List Nat} (h : mkS a = mkS b) : a = b := by
  have := congrArg tl h
  exact this
theorem mkS_of (s : Str) : mkS (tl s) = s := mk_tl s

/-! ### data in the heap: F is what stays -/
mutual
def Rp (K : PySem.W.Frag) (F : Hp) : D → V → Prop
  | .non, v => v = .non
  | .bl b, v => v = .bl b
  | .int i, v => v = .int i
  | .str cs, v => v = .str (mkS cs)
  | .ref a, v => v = .ref a
  | .ty n, v => v = .ty n
  | .src ns, v => ∃ a, v = .ref a ∧ SqL K F a (ns.map V.int)
  | .tup ds, v => ∃ a xs, v = .ref a ∧ SqT K F a xs ∧ RpL K F ds xs
  | .lst ds, v => ∃ a xs, v = .ref a ∧ F a = some (.lst xs) ∧ RpL K F ds xs
def RpL (K : PySem.W.Frag) (F : Hp) : List D → List V → Prop
  | [], xs => xs = []
  | d :: ds, xs => ∃ x r, xs = x :: r ∧ Rp K F d x ∧ RpL K F ds r
end
def Le (F F' : Hp) : Prop := ∀ b o, F b = some o → F' b = some o
theorem Le.refl (F : Hp) : Le F F := fun _ _ h => h
theorem Le.trans {F G J : Hp} (a : Le F G) (b : Le G J) : Le F J := fun c o h => b c o (a c o h)
theorem Le.rd {F G : Hp} (l : Le F G) {a : Addr} {u : HO} (h : Rd F a u) : Rd G a u := by
  rcases h with h | ⟨o, h⟩
  · exact .inl (l _ _ h)
  · exact .inr ⟨o, l _ _ h⟩
theorem Le.sqL {K : PySem.W.Frag} {F G : Hp} (l : Le F G) {a : Addr} {xs : List V} (h : SqL K F a xs) : SqL K G a xs := by
  rcases h with h | h
  · exact .inl (l.rd h)
  · exact .inr h
theorem Le.sqT {K : PySem.W.Frag} {F G : Hp} (l : Le F G) {a : Addr} {xs : List V} (h : SqT K F a xs) : SqT K G a xs := by
  rcases h with h | h
  · exact .inl (l.rd h)
  · exact .inr h
theorem Le.new {F : Hp} {p : Addr} {o : HO} (h : F p = none) : Le F (upd F p o) := fun b u e => by
  rw [upd_ne (ne_of_none e h)]
  exact e
mutual
theorem Rp.mono {K : PySem.W.Frag} {F G : Hp} (l : Le F G) : ∀ {d : D} {v : V}, Rp K F d v → Rp K G d v
  | .non, _, h => by unfold Rp at h ⊢; exact h
  | .bl _, _, h => by unfold Rp at h ⊢; exact h
  | .int _, _, h => by unfold Rp at h ⊢; exact h
  | .str _, _, h => by unfold Rp at h ⊢; exact h
  | .ref _, _, h => by unfold Rp at h ⊢; exact h
  | .ty _, _, h => by unfold Rp at h ⊢; exact h
  | .src _, _, h => by
    unfold Rp at h ⊢
    obtain ⟨a, e, s⟩ := h
    exact ⟨a, e, l.sqL s⟩
  | .tup ds, _, h => by
    unfold Rp at h ⊢
    obtain ⟨a, xs, e, s, r⟩ := h
    exact ⟨a, xs, e, l.sqT s, RpL.mono l r⟩
  | .lst ds, _, h => by
    unfold Rp at h ⊢
    obtain ⟨a, xs, e, s, r⟩ := h
    exact ⟨a, xs, e, l _ _ s, RpL.mono l r⟩
theorem RpL.mono {K : PySem.W.Frag} {F G : Hp} (l : Le F G) : ∀ {ds : List D} {xs : List V}, RpL K F ds xs → RpL K G ds xs
  | [], _, h => by unfold RpL at h ⊢; exact h
  | d :: ds, _, h => by
    unfold RpL at h ⊢
    obtain ⟨x, r, e, h1, h2⟩ := h
    exact ⟨x, r, e, Rp.mono l h1, RpL.mono l h2⟩
end
section
variable {K : PySem.W.Frag} {F : Hp}
theorem RpL.nil : RpL K F [] [] := by unfold RpL; rfl
theorem RpL.cons {d : D} {ds : List D} {x : V} {xs : List V} (h : Rp K F d x) (t : RpL K F ds xs) : RpL K F (d :: ds) (x :: xs) := by
  unfold RpL
  exact ⟨x, xs, rfl, h, t⟩
theorem RpL.len : ∀ {ds : List D} {xs : List V}, RpL K F ds xs → ds.length = xs.length
  | [], _, h => by unfold RpL at h; subst h; rfl
  | d :: ds, _, h => by
    unfold RpL at h
    obtain ⟨x, r, e, h1, h2⟩ := h
    subst e
    rw [List.length_cons, List.length_cons, RpL.len h2]
theorem RpL.app : ∀ {ds es : List D} {xs ys : List V}, RpL K F ds xs → RpL K F es ys → RpL K F (ds ++ es) (xs ++ ys)
  | [], _, _, _, h, t => by unfold RpL at h; subst h; exact t
  | d :: ds, es, _, ys, h, t => by
    unfold RpL at h
    obtain ⟨x, r, e, h1, h2⟩ := h
    subst e
    exact RpL.cons h1 (RpL.app h2 t)
theorem RpL.snoc {ds : List D} {xs : List V} {d : D} {x : V} (h : RpL K F ds xs) (t : Rp K F d x) : RpL K F (ds ++ [d]) (xs ++ [x]) := h.app (RpL.cons t RpL.nil)
theorem RpL.get : ∀ {ds : List D} {xs : List V} {i : Nat} {d : D}, RpL K F ds xs → ds[i]? = some d → ∃ x, xs[i]? = some x ∧ Rp K F d x
  | [], _, _, _, _, e => by simp at e
  | d :: ds, _, 0, _, h, e => by
    unfold RpL at h
    obtain ⟨x, r, e1, h1, h2⟩ := h
    subst e1
    simp at e
    subst e
    exact ⟨x, rfl, h1⟩
  | d :: ds, _, i + 1, _, h, e => by
    unfold RpL at h
    obtain ⟨x, r, e1, h1, h2⟩ := h
    subst e1
    obtain ⟨y, e2, h3⟩ := RpL.get (i := i) h2 (by simpa using e)
    exact ⟨y, by simpa using e2, h3⟩
theorem RpL.getV : ∀ {ds : List D} {xs : List V} {i : Nat} {x : V}, RpL K F ds xs → xs[i]? = some x → ∃ d, ds[i]? = some d ∧ Rp K F d x := fun {ds xs i x} h e => by
  have hl := h.len
  have hi : i < xs.length := (List.getElem?_eq_some_iff.mp e).1
  obtain ⟨y, e2, r⟩ := h.get (i := i) (d := ds[i]'(by omega)) (List.getElem?_eq_getElem (by omega))
  rw [e] at e2
  cases e2
  exact ⟨_, List.getElem?_eq_getElem (by omega), r⟩
theorem RpL.set : ∀ {ds : List D} {xs : List V} {d : D} {x : V} (i : Nat), RpL K F ds xs → Rp K F d x → RpL K F (ds.set i d) (xs.set i x)
  | [], _, _, _, i, h, t => by unfold RpL at h; subst h; exact RpL.nil
  | d :: ds, _, _, _, 0, h, t => by
    unfold RpL at h
    obtain ⟨x, r, e1, h1, h2⟩ := h
    subst e1
    exact RpL.cons t h2
  | d :: ds, _, _, _, i + 1, h, t => by
    unfold RpL at h
    obtain ⟨x, r, e1, h1, h2⟩ := h
    subst e1
    exact RpL.cons h1 (RpL.set i h2 t)
theorem RpL.take : ∀ {ds : List D} {xs : List V} (n : Nat), RpL K F ds xs → RpL K F (ds.take n) (xs.take n)
  | [], _, n, h => by unfold RpL at h; subst h; rw [List.take_nil, List.take_nil]; exact RpL.nil
  | d :: ds, _, 0, h => RpL.nil
  | d :: ds, _, n + 1, h => by
    unfold RpL at h
    obtain ⟨x, r, e1, h1, h2⟩ := h
    subst e1
    exact RpL.cons h1 (RpL.take n h2)
theorem RpL.drop : ∀ {ds : List D} {xs : List V} (n : Nat), RpL K F ds xs → RpL K F (ds.drop n) (xs.drop n)
  | [], _, n, h => by unfold RpL at h; subst h; rw [List.drop_nil, List.drop_nil]; exact RpL.nil
  | d :: ds, _, 0, h => h
  | d :: ds, _, n + 1, h => by
    unfold RpL at h
    obtain ⟨x, r, e1, h1, h2⟩ := h
    subst e1
    exact RpL.drop n h2
theorem RpL.rev : ∀ {ds : List D} {xs : List V}, RpL K F ds xs → RpL K F ds.reverse xs.reverse
  | [], _, h => by unfold RpL at h; subst h; exact RpL.nil
  | d :: ds, _, h => by
    unfold RpL at h
    obtain ⟨x, r, e1, h1, h2⟩ := h
    subst e1
    rw [List.reverse_cons, List.reverse_cons]
    exact (RpL.rev h2).snoc h1
theorem RpL.last {ds : List D} {xs : List V} (h : RpL K F ds xs) : RpL K F ds.dropLast xs.dropLast := by
  rw [List.dropLast_eq_take, List.dropLast_eq_take, h.len]
  exact h.take _
theorem RpL.ints : ∀ {ns : List Int}, RpL K F (ns.map D.int) (ns.map V.int)
  | [] => RpL.nil
  | n :: ns => RpL.cons (by unfold Rp; rfl) RpL.ints
theorem RpL.strs : ∀ {ns : List (List Nat)}, RpL K F (ns.map D.str) (ns.map fun c => V.str (mkS c))
  | [] => RpL.nil
  | n :: ns => RpL.cons (by unfold Rp; rfl) RpL.strs
end
def RpK (K : PySem.W.Frag) (F : Hp) (kvs : List (Key × D)) (vs : List (Key × V)) : Prop := kvs.map (·.1) = vs.map (·.1) ∧ RpL K F (kvs.map (·.2)) (vs.map (·.2))
def RpO (K : PySem.W.Frag) (F : Hp) : DO → HO → Prop
  | .lst ds, o => ∃ xs, o = .lst xs ∧ RpL K F ds xs
  | .dic kvs, o => ∃ vs, o = .dK vs ∧ RpK K F kvs vs
theorem RpO.mono {K : PySem.W.Frag} {F G : Hp} (l : Le F G) {o : DO} {ho : HO} (h : RpO K F o ho) : RpO K G o ho := by
  cases o with
  | lst ds =>
    obtain ⟨xs, e, r⟩ := h
    exact ⟨xs, e, r.mono l⟩
  | dic kvs =>
    obtain ⟨xs, e, r1, r2⟩ := h
    exact ⟨xs, e, r1, r2.mono l⟩

/-- the heap H holds the staying part F and the changing part M; the rest of H is hidden -/
structure Sv (K : PySem.W.Frag) (H F : Hp) (M : Mu) : Prop where
  fh : Le F H
  fm : ∀ b o, F b = some o → M b = none
  mu : ∀ a o, M a = some o → ∃ ho, H a = some ho ∧ RpO K F o ho
/-- from one state to a later one: what stays, stays; what is hidden, stays as it is and hidden -/
structure Go (H F : Hp) (M : Mu) (H' F' : Hp) (M' : Mu) : Prop where
  le : Le F F'
  kp : ∀ b o, H b = some o → M b = none → H' b = some o ∧ M' b = none ∧ (F b = none → F' b = none)
section
variable {K : PySem.W.Frag} {H H1 H2 F F1 F2 : Hp} {M M1 M2 : Mu}
theorem Go.refl : Go H F M H F M := ⟨Le.refl F, fun b o h m => ⟨h, m, fun z => z⟩⟩
theorem Go.trans (a : Go H F M H1 F1 M1) (b : Go H1 F1 M1 H2 F2 M2) : Go H F M H2 F2 M2 := ⟨a.le.trans b.le, fun c o h m => by
  obtain ⟨h1, m1, f1⟩ := a.kp c o h m
  obtain ⟨h2, m2, f2⟩ := b.kp c o h1 m1
  exact ⟨h2, m2, fun z => f2 (f1 z)⟩⟩
theorem Sv.fresh {p : Addr} (s : Sv K H F M) (h : H p = none) : F p = none ∧ M p = none := by
  constructor
  · cases e : F p with
    | none => rfl
    | some o => rw [s.fh p o e] at h; cases h
  · cases e : M p with
    | none => rfl
    | some o =>
      obtain ⟨ho, e2, _⟩ := s.mu p o e
      rw [e2] at h; cases h
/-- a new thing that stays -/
theorem Sv.newF {p : Addr} {o : HO} (s : Sv K H F M) (h : H p = none) : Sv K (upd H p o) (upd F p o) M ∧ Go H F M (upd H p o) (upd F p o) M := by
  obtain ⟨hF, hM⟩ := s.fresh h
  have l : Le F (upd F p o) := Le.new hF
  refine ⟨⟨fun b u e => ?_, fun b u e => ?_, fun a u e => ?_⟩, ⟨l, fun b u e m => ?_⟩⟩
  · by_cases hb : b = p
    · subst hb; rw [upd_same] at e ⊢; exact e
    · rw [upd_ne hb] at e ⊢; exact s.fh b u e
  · by_cases hb : b = p
    · subst hb; exact hM
    · rw [upd_ne hb] at e; exact s.fm b u e
  · obtain ⟨ho, e2, r⟩ := s.mu a u e
    refine ⟨ho, ?_, r.mono l⟩
    rw [upd_ne (ne_of_none e2 h)]
    exact e2
  · have hb : b ≠ p := ne_of_none e h
    exact ⟨by rw [upd_ne hb]; exact e, m, fun z => by rw [upd_ne hb]; exact z⟩
/-- a new thing that may change -/
theorem Sv.newM {p : Addr} {o : DO} {ho : HO} (s : Sv K H F M) (h : H p = none) (r : RpO K F o ho) : Sv K (upd H p ho) F (mset M p o) ∧ Go H F M (upd H p ho) F (mset M p o) := by
  obtain ⟨hF, hM⟩ := s.fresh h
  refine ⟨⟨fun b u e => ?_, fun b u e => ?_, fun a u e => ?_⟩, ⟨Le.refl F, fun b u e m => ?_⟩⟩
  · rw [upd_ne (ne_of_none e hF)]; exact s.fh b u e
  · rw [mset_ne (ne_of_none e hF)]; exact s.fm b u e
  · by_cases ha : a = p
    · subst ha
      rw [mset_same] at e
      cases e
      exact ⟨ho, upd_same, r⟩
    · rw [mset_ne ha] at e
      obtain ⟨ho', e2, r'⟩ := s.mu a u e
      exact ⟨ho', by rw [upd_ne ha]; exact e2, r'⟩
  · have hb : b ≠ p := ne_of_none e h
    exact ⟨by rw [upd_ne hb]; exact e, by rw [mset_ne hb]; exact m, fun z => z⟩
/-- a thing is changed -/
theorem Sv.wr {p : Addr} {o o' : DO} {ho : HO} (s : Sv K H F M) (h : M p = some o) (r : RpO K F o' ho) : Sv K (upd H p ho) F (mset M p o') ∧ Go H F M (upd H p ho) F (mset M p o') := by
  have hF : ∀ b u, F b = some u → b ≠ p := fun b u e z => by
    subst z
    rw [s.fm b u e] at h; cases h
  refine ⟨⟨fun b u e => ?_, fun b u e => ?_, fun a u e => ?_⟩, ⟨Le.refl F, fun b u e m => ?_⟩⟩
  · rw [upd_ne (hF b u e)]; exact s.fh b u e
  · rw [mset_ne (hF b u e)]; exact s.fm b u e
  · by_cases ha : a = p
    · subst ha
      rw [mset_same] at e
      cases e
      exact ⟨ho, upd_same, r⟩
    · rw [mset_ne ha] at e
      obtain ⟨ho', e2, r'⟩ := s.mu a u e
      exact ⟨ho', by rw [upd_ne ha]; exact e2, r'⟩
  · have hb : b ≠ p := fun z => by subst z; rw [m] at h; cases h
    exact ⟨by rw [upd_ne hb]; exact e, by rw [mset_ne hb]; exact m, fun z => z⟩
end

/-! ### slots -/
abbrev DEnv := List (Option D)
def ERel (K : PySem.W.Frag) (F : Hp) (δ : DEnv) (σ : L2.St) : Prop := δ.length = σ.length ∧ ∀ (i : Nat) (d : D), δ[i]? = some (some d) → ∃ v, σ[i]? = some (some v) ∧ Rp K F d v
section
variable {K : PySem.W.Frag} {F F1 : Hp} {δ : DEnv} {σ : L2.St}
theorem ERel.mono (l : Le F F1) (h : ERel K F δ σ) : ERel K F1 δ σ := ⟨h.1, fun i d e => by
  obtain ⟨v, e2, r⟩ := h.2 i d e
  exact ⟨v, e2, r.mono l⟩⟩
theorem ERel.set {i : Nat} {d : D} {v : V} (h : ERel K F δ σ) (r : Rp K F d v) : ERel K F (δ.set i (some d)) (σ.set i (some v)) := by
  refine ⟨by rw [List.length_set, List.length_set]; exact h.1, fun j e hj => ?_⟩
  by_cases hji : i = j
  · subst hji
    by_cases hl : i < δ.length
    · rw [List.getElem?_set_self hl] at hj
      have e1 : d = e := Option.some.inj (Option.some.inj hj)
      subst e1
      refine ⟨v, ?_, r⟩
      rw [List.getElem?_set_self (by rw [← h.1]; exact hl)]
    · rw [List.getElem?_eq_none (by rw [List.length_set]; omega)] at hj
      cases hj
  · rw [List.getElem?_set_ne hji] at hj ⊢
    exact h.2 j e hj
theorem ERel.start {N : List Str} {ds : List D} {vs : List V} (h : RpL K F ds vs) : ERel K F (ds.map some ++ List.replicate (N.length - ds.length) none) (L2.start N vs) := by
  have hl := h.len
  refine ⟨by unfold L2.start; rw [List.length_append, List.length_append, List.length_map, List.length_map, List.length_replicate, List.length_replicate, hl], fun i d e => ?_⟩
  by_cases hi : i < ds.length
  · rw [List.getElem?_append_left (by rw [List.length_map]; exact hi), List.getElem?_map] at e
    cases q : ds[i]? with
    | none => rw [q] at e; cases e
    | some d' =>
      rw [q] at e
      have e1 : d' = d := Option.some.inj (Option.some.inj e)
      subst e1
      obtain ⟨x, e2, r⟩ := h.get q
      refine ⟨x, ?_, r⟩
      unfold L2.start
      rw [List.getElem?_append_left (by rw [List.length_map]; omega), List.getElem?_map, e2]
      rfl
  · rw [List.getElem?_append_right (by rw [List.length_map]; omega), List.getElem?_replicate] at e
    split at e <;> cases e
end

/-! ### readings of data, and what they say of the heap -/
abbrev DK := D → Mu → Prop
abbrev DTE := DEnv → Mu → DK → Prop
abbrev DTT := DEnv → Mu → (Bool → Mu → Prop) → Prop
abbrev DTA := DEnv → Mu → (List D → Mu → Prop) → Prop
structure DEnds where
  nx : DEnv → Mu → Prop
  rt : DK
  bk : DEnv → Mu → Prop := fun _ _ => False
  ct : DEnv → Mu → Prop := fun _ _ => False
abbrev DTS := DEnds → DEnv → Mu → Prop

def Post (K : PySem.W.Frag) (H F : Hp) (M : Mu) (Qd : DK) (Q : VK) : Prop := ∀ d M' F' v H', Qd d M' → Go H F M H' F' M' → Sv K H' F' M' → Rp K F' d v → Q v H'
def PostT (K : PySem.W.Frag) (H F : Hp) (M : Mu) (Qd : Bool → Mu → Prop) (Q : Bool → Hp → Prop) : Prop := ∀ b M' F' H', Qd b M' → Go H F M H' F' M' → Sv K H' F' M' → Q b H'
def PostA (K : PySem.W.Frag) (H F : Hp) (M : Mu) (Qd : List D → Mu → Prop) (Q : List V → Hp → Prop) : Prop := ∀ ds M' F' vs H', Qd ds M' → Go H F M H' F' M' → Sv K H' F' M' → RpL K F' ds vs → Q vs H'
def PostE (K : PySem.W.Frag) (H F : Hp) (M : Mu) (Qd : DEnv → Mu → Prop) (Q : L2.St → Hp → Prop) : Prop := ∀ δ M' F' σ H', Qd δ M' → Go H F M H' F' M' → Sv K H' F' M' → ERel K F' δ σ → Q σ H'
structure PostS (K : PySem.W.Frag) (H F : Hp) (M : Mu) (Dd : DEnds) (Dv : Ends) : Prop where
  nx : PostE K H F M Dd.nx Dv.nx
  rt : Post K H F M Dd.rt Dv.rt
  bk : PostE K H F M Dd.bk Dv.bk
  ct : PostE K H F M Dd.ct Dv.ct
section
variable {K : PySem.W.Frag} {H H1 F F1 : Hp} {M M1 : Mu}
theorem Post.go {Qd : DK} {Q : VK} (p : Post K H F M Qd Q) (g : Go H F M H1 F1 M1) : Post K H1 F1 M1 Qd Q := fun d M' F' v H' q g' s r => p d M' F' v H' q (g.trans g') s r
theorem PostT.go {Qd : Bool → Mu → Prop} {Q : Bool → Hp → Prop} (p : PostT K H F M Qd Q) (g : Go H F M H1 F1 M1) : PostT K H1 F1 M1 Qd Q := fun d M' F' H' q g' s => p d M' F' H' q (g.trans g') s
theorem PostA.go {Qd : List D → Mu → Prop} {Q : List V → Hp → Prop} (p : PostA K H F M Qd Q) (g : Go H F M H1 F1 M1) : PostA K H1 F1 M1 Qd Q := fun d M' F' v H' q g' s r => p d M' F' v H' q (g.trans g') s r
theorem PostE.go {Qd : DEnv → Mu → Prop} {Q : L2.St → Hp → Prop} (p : PostE K H F M Qd Q) (g : Go H F M H1 F1 M1) : PostE K H1 F1 M1 Qd Q := fun d M' F' v H' q g' s r => p d M' F' v H' q (g.trans g') s r
theorem PostS.go {Dd : DEnds} {Dv : Ends} (p : PostS K H F M Dd Dv) (g : Go H F M H1 F1 M1) : PostS K H1 F1 M1 Dd Dv := ⟨p.nx.go g, p.rt.go g, p.bk.go g, p.ct.go g⟩
theorem Post.fin {Qd : DK} {Q : VK} (p : Post K H F M Qd Q) (s : Sv K H F M) {d : D} {v : V} (q : Qd d M) (r : Rp K F d v) : Q v H := p d M F v H q Go.refl s r
end
def lift (K : PySem.W.Frag) (u : DTE) : TE := fun σ H Q => ∃ δ M F Qd, ERel K F δ σ ∧ Sv K H F M ∧ u δ M Qd ∧ Post K H F M Qd Q
def liftT (K : PySem.W.Frag) (u : DTT) : TT := fun σ H Q => ∃ δ M F Qd, ERel K F δ σ ∧ Sv K H F M ∧ u δ M Qd ∧ PostT K H F M Qd Q
def liftA (K : PySem.W.Frag) (u : DTA) : TA := fun σ H Q => ∃ δ M F Qd, ERel K F δ σ ∧ Sv K H F M ∧ u δ M Qd ∧ PostA K H F M Qd Q
def liftS (K : PySem.W.Frag) (u : DTS) : TS := fun Dv σ H => ∃ δ M F Dd, ERel K F δ σ ∧ Sv K H F M ∧ u Dd δ M ∧ PostS K H F M Dd Dv
abbrev DE (X : Cx) (e : Expr) (u : DTE) : Prop := PE X e (lift X.K u)
abbrev DT (X : Cx) (e : Expr) (u : DTT) : Prop := PT X e (liftT X.K u)
abbrev DW (X : Cx) (e : Expr) (u : DTT) : Prop := PW X e (liftT X.K u)
abbrev DA (X : Cx) (es : List Expr) (u : DTA) : Prop := PA X es (liftA X.K u)
abbrev DS (X : Cx) (s : Stmt) (u : DTS) : Prop := PS X s (liftS X.K u)
abbrev DSs (X : Cx) (s : List Stmt) (u : DTS) : Prop := PSs X s (liftS X.K u)
section
variable {X : Cx}
theorem PE.weak {e : Expr} {t t' : TE} (h : PE X e t) (i : ∀ σ H Q, t' σ H Q → t σ H Q) : PE X e t' := ⟨fun pins s σ H Q I q => h.run pins s σ H Q I (i _ _ _ q)⟩
theorem PT.weak {e : Expr} {t t' : TT} (h : PT X e t) (i : ∀ σ H Q, t' σ H Q → t σ H Q) : PT X e t' := ⟨fun pins s σ H Q I q => h.run pins s σ H Q I (i _ _ _ q)⟩
theorem PW.weak {e : Expr} {t t' : TT} (h : PW X e t) (i : ∀ σ H Q, t' σ H Q → t σ H Q) : PW X e t' := ⟨fun wh pins s σ H Q I q => h.run wh pins s σ H Q I (i _ _ _ q)⟩
theorem PA.weak {e : List Expr} {t t' : TA} (h : PA X e t) (i : ∀ σ H Q, t' σ H Q → t σ H Q) : PA X e t' := ⟨fun pos pins s σ H Q I q => h.run pos pins s σ H Q I (i _ _ _ q)⟩
theorem PS.weak {e : Stmt} {t t' : TS} (h : PS X e t) (i : ∀ D σ H, t' D σ H → t D σ H) : PS X e t' := ⟨fun pins s σ H D I q => h.run pins s σ H D I (i _ _ _ q)⟩
theorem PSs.weak {e : List Stmt} {t t' : TS} (h : PSs X e t) (i : ∀ D σ H, t' D σ H → t D σ H) : PSs X e t' := ⟨fun pins s σ H D I q => h.run pins s σ H D I (i _ _ _ q)⟩
end
end DL

namespace DL
open PySem PySem.Spec PyProof.Rows L2 TL

/-! ### names, constants -/
def dVar (i : Nat) : DTE := fun δ M Q => match δ[i]? with
  | some (some d) => Q d M
  | _ => False
def dC (d : D) : DTE := fun _ M Q => Q d M
section
variable {X : Cx}
theorem de_var (i : Nat) {x : Str} {pos : Pos} (hN : X.N[i]? = some x := by rfl) (hv : Vis X.env.scope x := by first | exact Or.inl rfl | exact Or.inr (Or.inl rfl) | exact Or.inr (Or.inr rfl)) (hd : (x == ("__debug__" : Str)) = false := by decide)
    (hcd : (x == ("__classdict__" : Str)) = false := by decide) : DE X (.Name x pos) (dVar i) := by
  refine PE.weak (pe_var hN hv hd hcd) fun σ H Q h => ?_
  obtain ⟨δ, M, F, Qd, hE, s, hu, p⟩ := h
  have hu' : (match δ[i]? with | some (some d) => Qd d M | _ => False) := hu
  split at hu'
  · rename_i d e
    obtain ⟨v, e2, r⟩ := hE.2 i d e
    exact ⟨v, e2, p.fin s hu' r⟩
  · exact hu'.elim
theorem de_cst {e : Expr} {v : V} {d : D} (h : PE X e (tC v)) (r : ∀ F, Rp X.K F d v) : DE X e (dC d) := by
  refine PE.weak h fun σ H Q h => ?_
  obtain ⟨δ, M, F, Qd, hE, s, hu, p⟩ := h
  exact p.fin s hu (r F)
theorem de_int {i : Int} {j : Nat} {pos : Pos} : DE X (.Constant (.int i) j pos) (dC (.int i)) := de_cst pe_int fun F => by unfold Rp; rfl
theorem de_bl {i : Bool} {j : Nat} {pos : Pos} : DE X (.Constant (.bool i) j pos) (dC (.bl i)) := de_cst pe_bl fun F => by unfold Rp; rfl
theorem de_non {j : Nat} {pos : Pos} : DE X (.Constant .none j pos) (dC .non) := de_cst pe_non fun F => by unfold Rp; rfl
theorem de_str {x : Str} {j : Nat} {pos : Pos} (cs : List Nat) (h : x = mkS cs := by decide +kernel) : DE X (.Constant (.str x) j pos) (dC (.str cs)) := de_cst pe_str fun F => by unfold Rp; rw [h]
theorem de_glob {x : Str} {pos : Pos} {d : D} {v : V} {u : Value} (hg : Gl X x) (hm : X.mg x = some u) (r : RelV v u) (rp : ∀ F, Rp X.K F d v) (hd : (x == ("__debug__" : Str)) = false := by decide) : DE X (.Name x pos) (dC d) := de_cst (pe_glob hg hm r hd) rp
theorem de_ty {x : Str} {pos : Pos} (n : String) (hg : Gl X x) (hm : X.mg x = none) (hv : bootBuiltins x = some (.type n)) (hn : x ≠ "__name__" := by decide) (hd : (x == ("__debug__" : Str)) = false := by decide) : DE X (.Name x pos) (dC (.ty n)) := de_cst (pe_bltn (v := .ty n) hg hm hv rfl hn hd) fun F => by unfold Rp; rfl
end

/-! ### operators -/
abbrev DR2 := D → D → Mu → DK → Prop
def dOp (rd : DR2) (ua ub : DTE) : DTE := fun δ M Q => ua δ M fun x M1 => ub δ M1 fun y M2 => rd x y M2 Q
/-- what a rule by data says of a rule by values -/
def Rel2 (K : PySem.W.Frag) (r : R2) (rd : DR2) : Prop := ∀ x y vx vy H F M Qd Q, Rp K F x vx → Rp K F y vy → Sv K H F M → rd x y M Qd → Post K H F M Qd Q → r vx vy H Q
theorem OpR.or {X : Cx} {f : Value → Value → Sem Value} {r r' : R2} (h : OpR X f r) (h' : OpR X f r') : OpR X f (fun x y H Q => r x y H Q ∨ r' x y H Q) := fun pins s σ H x y v u Q I rx ry q => by
  rcases q with q | q
  · exact h pins s σ H x y v u Q I rx ry q
  · exact h' pins s σ H x y v u Q I rx ry q
section
variable {X : Cx} {a b c : Expr} {ua ub uc : DTE} {pos : Pos}
theorem bin2 {r : R2} {rd : DR2} (hr : Rel2 X.K r rd) : ∀ σ H Q, lift X.K (dOp rd ua ub) σ H Q → tOp r (lift X.K ua) (lift X.K ub) σ H Q := fun σ H Q h => by
  obtain ⟨δ, M, F, Qd, hE, s, hu, p⟩ := h
  refine ⟨δ, M, F, _, hE, s, hu, fun x M1 F1 vx H1 q1 g1 s1 r1 => ?_⟩
  refine ⟨δ, M1, F1, _, hE.mono g1.le, s1, q1, fun y M2 F2 vy H2 q2 g2 s2 r2 => ?_⟩
  exact hr x y vx vy H2 F2 M2 Qd Q (r1.mono g2.le) r2 s2 q2 (p.go (g1.trans g2))
theorem de_op {op : Operator} {r : R2} {rd : DR2} (ho : OpR X (binaryOp op) r) (hr : Rel2 X.K r rd) (ha : DE X a ua) (hb : DE X b ub) : DE X (.BinOp a op b pos) (dOp rd ua ub) := PE.weak (pe_op ho ha hb) (bin2 hr)
theorem de_cmp {op : CmpOp} {r : R2} {rd : DR2} (ho : OpR X (compareOp op) r) (hr : Rel2 X.K r rd) (ha : DE X a ua) (hb : DE X b ub) (hm : behindInMarks op b = false) : DE X (.Compare a [op] [b] pos) (dOp rd ua ub) := PE.weak (pe_cmpR ho ha hb hm) (bin2 hr)
end
def DUn := D → Mu → DK → Prop
def dUn (rd : DUn) (ua : DTE) : DTE := fun δ M Q => ua δ M fun x M1 => rd x M1 Q
def Rel1 (K : PySem.W.Frag) (r : V → Hp → VK → Prop) (rd : DUn) : Prop := ∀ x vx H F M Qd Q, Rp K F x vx → Sv K H F M → rd x M Qd → Post K H F M Qd Q → r vx H Q
section
variable {X : Cx} {a b c : Expr} {ua ub uc : DTE} {pos : Pos}
theorem un1 {r : V → Hp → VK → Prop} {rd : DUn} (hr : Rel1 X.K r rd) : ∀ σ H Q, lift X.K (dUn rd ua) σ H Q → tUn r (lift X.K ua) σ H Q := fun σ H Q h => by
  obtain ⟨δ, M, F, Qd, hE, s, hu, p⟩ := h
  exact ⟨δ, M, F, _, hE, s, hu, fun x M1 F1 vx H1 q1 g1 s1 r1 => hr x vx H1 F1 M1 Qd Q r1 s1 q1 (p.go g1)⟩
theorem de_un {op : UnaryOp} {r : V → Hp → VK → Prop} {rd : DUn} (ho : UnR X (unaryOp op) r) (hr : Rel1 X.K r rd) (ha : DE X a ua) : DE X (.UnaryOp op a pos) (dUn rd ua) := PE.weak (pe_un ho ha) (un1 hr)
end

/-! ### sequences by data -/
/-- the items of a list -/
def dseq (M : Mu) : D → Option (List D)
  | .lst ds => some ds
  | .ref a => match M a with
    | some (.lst ds) => some ds
    | _ => none
  | _ => none
theorem dseq_at {K : PySem.W.Frag} {H F : Hp} {M : Mu} {d : D} {v : V} {ds : List D} (s : Sv K H F M) (r : Rp K F d v) (h : dseq M d = some ds) : ∃ a xs, v = .ref a ∧ H a = some (.lst xs) ∧ RpL K F ds xs := by
  cases d with
  | lst es =>
    unfold Rp at r
    obtain ⟨a, xs, e, h1, r1⟩ := r
    cases h
    exact ⟨a, xs, e, s.fh _ _ h1, r1⟩
  | ref a =>
    unfold Rp at r
    have h' : (match M a with | some (.lst ds) => some ds | _ => none) = some ds := h
    cases q : M a with
    | none => rw [q] at h'; cases h'
    | some o =>
      rw [q] at h'
      cases o with
      | lst es =>
        cases h'
        obtain ⟨ho, e, xs, e2, r1⟩ := s.mu a _ q
        subst e2
        exact ⟨a, xs, r, e, r1⟩
      | dic kvs => cases h'
  | _ => cases h
/-- a new list: one that stays, or (mu) one that may change -/
def dNew (mu : Bool) (ds : List D) (M : Mu) (Q : DK) : Prop := match mu with
  | false => Q (.lst ds) M
  | true => ∀ p, M p = none → Q (.ref p) (mset M p (.lst ds))
theorem dNew_at {K : PySem.W.Frag} {H F : Hp} {M : Mu} {mu : Bool} {ds : List D} {xs : List V} {Qd : DK} {Q : VK} {p : Addr} (s : Sv K H F M) (r : RpL K F ds xs) (h : dNew mu ds M Qd) (po : Post K H F M Qd Q) (hp : H p = none) : Q (.ref p) (upd H p (.lst xs)) := by
  cases mu with
  | false =>
    obtain ⟨s1, g1⟩ := s.newF (o := .lst xs) hp
    refine po _ _ _ _ _ h g1 s1 ?_
    unfold Rp
    exact ⟨p, xs, rfl, upd_same, r.mono g1.le⟩
  | true =>
    obtain ⟨s1, g1⟩ := s.newM (o := .lst ds) (ho := .lst xs) hp ⟨xs, rfl, r⟩
    refine po _ _ _ _ _ (h p (s.fresh hp).2) g1 s1 ?_
    unfold Rp
    rfl
theorem newT_at {K : PySem.W.Frag} {H F : Hp} {M : Mu} {ds : List D} {xs : List V} {Qd : DK} {Q : VK} {p : Addr} (s : Sv K H F M) (r : RpL K F ds xs) (h : Qd (.tup ds) M) (po : Post K H F M Qd Q) (hp : H p = none) : Q (.ref p) (upd H p (.tup xs)) := by
  obtain ⟨s1, g1⟩ := s.newF (o := .tup xs) hp
  refine po _ _ _ _ _ h g1 s1 ?_
  unfold Rp
  exact ⟨p, xs, rfl, .inl (.inl upd_same), r.mono g1.le⟩

/-! ### + -/
def dAdd (mu : Bool) : DR2
  | .int i, .int j, M, Q => Q (.int (i + j)) M
  | .str a, .str b, M, Q => a.length + b.length ≤ sizeLine ∧ Q (.str (a ++ b)) M
  | .tup a, .tup b, M, Q => a.length + b.length ≤ sizeLine ∧ Q (.tup (a ++ b)) M
  | x, y, M, Q => match dseq M x, dseq M y with
    | some a, some b => a.length + b.length ≤ sizeLine ∧ dNew mu (a ++ b) M Q
    | _, _ => False
def rAddAll (K : PySem.W.Frag) : R2 := fun x y H Q => ((rI0 (fun i j => .int (i + j))) x y H Q ∨ (∃ i j, x = .str i ∧ y = .str j ∧ i.length + j.length ≤ sizeLine ∧ Q (.str (i ++ j)) H)) ∨ (rCatA K x y H Q ∨ rCat x y H Q)
theorem op_addAll {X : Cx} : OpR X (binaryOp .Add) (rAddAll X.K) := OpR.or (OpR.or op_add op_add_str) (OpR.or op_catA op_cat)
theorem rel_cat {K : PySem.W.Frag} {mu : Bool} {x y : D} {vx vy : V} {H F : Hp} {M : Mu} {Qd : DK} {Q : VK} (rx : Rp K F x vx) (ry : Rp K F y vy) (s : Sv K H F M) (po : Post K H F M Qd Q)
    (h : match dseq M x, dseq M y with | some a, some b => a.length + b.length ≤ sizeLine ∧ dNew mu (a ++ b) M Qd | _, _ => False) : rCat vx vy H Q := by
  cases qx : dseq M x with
  | none => rw [qx] at h; exact h.elim
  | some a =>
    cases qy : dseq M y with
    | none => rw [qx, qy] at h; exact h.elim
    | some b =>
      rw [qx, qy] at h
      obtain ⟨hl, h⟩ := h
      obtain ⟨p, xs, e1, h1, r1⟩ := dseq_at s rx qx
      obtain ⟨q, ys, e2, h2, r2⟩ := dseq_at s ry qy
      exact ⟨p, q, xs, ys, e1, e2, h1, h2, by rw [← r1.len, ← r2.len]; exact hl, fun l hl => dNew_at s (r1.app r2) h po hl⟩
theorem rel_add {K : PySem.W.Frag} {mu : Bool} : Rel2 K (rAddAll K) (dAdd mu) := by
  intro x y vx vy H F M Qd Q rx ry s h po
  unfold dAdd at h
  split at h
  · unfold Rp at rx ry
    exact .inl (.inl ⟨_, _, rx, ry, po.fin s h (by unfold Rp; rfl)⟩)
  · unfold Rp at rx ry
    obtain ⟨hl, h⟩ := h
    refine .inl (.inr ⟨_, _, rx, ry, by rw [mkS_len, mkS_len]; exact hl, po.fin s h (by unfold Rp; rw [mkS_app])⟩)
  · unfold Rp at rx ry
    obtain ⟨a, xs, e1, h1, r1⟩ := rx
    obtain ⟨b, ys, e2, h2, r2⟩ := ry
    obtain ⟨hl, h⟩ := h
    rename_i as bs
    refine .inr (.inl ⟨a, b, xs, ys, e1, e2, s.fh.sqT h1, s.fh.sqT h2, by rw [← r1.len, ← r2.len]; exact hl, fun z => ?_, fun _ z => ?_, fun _ _ p hp => newT_at s (r1.app r2) h po hp⟩)
    · subst z
      have ha : as = [] := List.length_eq_zero_iff.mp (by rw [r1.len]; rfl)
      subst ha
      exact po.fin s h (by unfold Rp; exact ⟨b, ys, rfl, h2, r2⟩)
    · subst z
      have hb : bs = [] := List.length_eq_zero_iff.mp (by rw [r2.len]; rfl)
      subst hb
      rw [List.append_nil] at h
      exact po.fin s h (by unfold Rp; exact ⟨a, xs, rfl, h1, r1⟩)
  · exact .inr (.inr (rel_cat rx ry s po h))

/-! ### other arithmetic -/
def dSub : DR2
  | .int i, .int j, M, Q => Q (.int (i - j)) M
  | _, _, _, _ => False
theorem rel_sub {K : PySem.W.Frag} : Rel2 K (rI0 fun i j => .int (i - j)) dSub := by
  intro x y vx vy H F M Qd Q rx ry s h po
  unfold dSub at h
  split at h
  · unfold Rp at rx ry
    exact ⟨_, _, rx, ry, po.fin s h (by unfold Rp; rfl)⟩
  · exact h.elim
def CMulD (i j : Int) : Prop := CMulX i j
def dMul (mu : Bool) : DR2
  | .int i, .int j, M, Q => CMulX i j ∧ Q (.int (i * j)) M
  | x, .int k, M, Q => match dseq M x with
    | some a => -(2 ^ 63) ≤ k ∧ k < 2 ^ 63 ∧ a.length * k.toNat ≤ sizeLine ∧ dNew mu (List.replicate k.toNat a).flatten M Q
    | none => False
  | _, _, _, _ => False
theorem RpL.rep {K : PySem.W.Frag} {F : Hp} {ds : List D} {xs : List V} (h : RpL K F ds xs) : ∀ k : Nat, RpL K F (List.replicate k ds).flatten (List.replicate k xs).flatten
  | 0 => RpL.nil
  | k + 1 => by
    rw [List.replicate_succ, List.replicate_succ, List.flatten_cons, List.flatten_cons]
    exact h.app (RpL.rep h k)
def rMulAll : R2 := fun x y H Q => (rI CMulX (fun i j => .int (i * j))) x y H Q ∨ rRep x y H Q
theorem op_mulAll {X : Cx} : OpR X (binaryOp .Mult) rMulAll := OpR.or op_mulX op_rep
theorem rel_mul {K : PySem.W.Frag} {mu : Bool} : Rel2 K rMulAll (dMul mu) := by
  intro x y vx vy H F M Qd Q rx ry s h po
  unfold dMul at h
  split at h
  · unfold Rp at rx ry
    exact .inl ⟨_, _, rx, ry, h.1, po.fin s h.2 (by unfold Rp; rfl)⟩
  · split at h
    · rename_i a e
      obtain ⟨h1, h2, h3, h4⟩ := h
      obtain ⟨p, xs, e1, e2, r1⟩ := dseq_at s rx e
      unfold Rp at ry
      exact .inr ⟨p, _, xs, e1, ry, e2, h1, h2, by rw [← r1.len]; exact h3, fun l hl => dNew_at s (r1.rep _) h4 po hl⟩
    · exact h.elim
  · exact h.elim
def CDivX (j : Int) : Prop := j ≠ 0 ∧ j.natAbs.log2 < 9000
def dFdiv : DR2
  | .int i, .int j, M, Q => CDivX j ∧ Q (.int (i.fdiv j)) M
  | _, _, _, _ => False
theorem op_fdivX {X : Cx} : OpR X (binaryOp .FloorDiv) (rI (fun _ j => CDivX j) fun i j => .int (i.fdiv j)) := opI fun _ _ _ _ _ _ _ hc q => floordiv_int hc.1 q (.inl (PyProof.noPylong_of_log2 hc.2))
theorem rel_fdiv {K : PySem.W.Frag} : Rel2 K (rI (fun _ j => CDivX j) fun i j => .int (i.fdiv j)) dFdiv := by
  intro x y vx vy H F M Qd Q rx ry s h po
  unfold dFdiv at h
  split at h
  · unfold Rp at rx ry
    exact ⟨_, _, rx, ry, h.1, po.fin s h.2 (by unfold Rp; rfl)⟩
  · exact h.elim
def dMod : DR2
  | .int i, .int j, M, Q => j ≠ 0 ∧ Q (.int (i.fmod j)) M
  | _, _, _, _ => False
theorem rel_mod {K : PySem.W.Frag} : Rel2 K (rI (fun _ j => j ≠ 0) fun i j => .int (i.fmod j)) dMod := by
  intro x y vx vy H F M Qd Q rx ry s h po
  unfold dMod at h
  split at h
  · unfold Rp at rx ry
    exact ⟨_, _, rx, ry, h.1, po.fin s h.2 (by unfold Rp; rfl)⟩
  · exact h.elim
def dPow : DR2
  | .int i, .int j, M, Q => CPow i j ∧ Q (.int (i ^ j.toNat)) M
  | _, _, _, _ => False
theorem rel_pow {K : PySem.W.Frag} : Rel2 K (rI CPow fun i j => .int (i ^ j.toNat)) dPow := by
  intro x y vx vy H F M Qd Q rx ry s h po
  unfold dPow at h
  split at h
  · unfold Rp at rx ry
    exact ⟨_, _, rx, ry, h.1, po.fin s h.2 (by unfold Rp; rfl)⟩
  · exact h.elim
def dShl : DR2
  | .int i, .int j, M, Q => CShl i j ∧ Q (.int (i * 2 ^ j.toNat)) M
  | _, _, _, _ => False
theorem rel_shl {K : PySem.W.Frag} : Rel2 K (rI CShl fun i j => .int (i * 2 ^ j.toNat)) dShl := by
  intro x y vx vy H F M Qd Q rx ry s h po
  unfold dShl at h
  split at h
  · unfold Rp at rx ry
    exact ⟨_, _, rx, ry, h.1, po.fin s h.2 (by unfold Rp; rfl)⟩
  · exact h.elim
def dNeg : DUn
  | .int i, M, Q => Q (.int (-i)) M
  | _, _, _ => False
theorem rel_neg {K : PySem.W.Frag} : Rel1 K (rU fun i => .int (-i)) dNeg := by
  intro x vx H F M Qd Q rx s h po
  unfold dNeg at h
  split at h
  · unfold Rp at rx
    exact ⟨_, rx, po.fin s h (by unfold Rp; rfl)⟩
  · exact h.elim
section
variable {X : Cx} {a b c : Expr} {ua ub uc : DTE} {pos : Pos}
theorem de_add (mu : Bool) (ha : DE X a ua) (hb : DE X b ub) : DE X (.BinOp a .Add b pos) (dOp (dAdd mu) ua ub) := de_op op_addAll rel_add ha hb
theorem de_sub (ha : DE X a ua) (hb : DE X b ub) : DE X (.BinOp a .Sub b pos) (dOp dSub ua ub) := de_op op_sub rel_sub ha hb
theorem de_mul (mu : Bool) (ha : DE X a ua) (hb : DE X b ub) : DE X (.BinOp a .Mult b pos) (dOp (dMul mu) ua ub) := de_op op_mulAll rel_mul ha hb
theorem de_fdiv (ha : DE X a ua) (hb : DE X b ub) : DE X (.BinOp a .FloorDiv b pos) (dOp dFdiv ua ub) := de_op op_fdivX rel_fdiv ha hb
theorem de_mod (ha : DE X a ua) (hb : DE X b ub) : DE X (.BinOp a .Mod b pos) (dOp dMod ua ub) := de_op op_modN rel_mod ha hb
theorem de_pow (ha : DE X a ua) (hb : DE X b ub) : DE X (.BinOp a .Pow b pos) (dOp dPow ua ub) := de_op op_pow rel_pow ha hb
theorem de_shl (ha : DE X a ua) (hb : DE X b ub) : DE X (.BinOp a .LShift b pos) (dOp dShl ua ub) := de_op op_shlW rel_shl ha hb
theorem de_neg (ha : DE X a ua) : DE X (.UnaryOp .USub a pos) (dUn dNeg ua) := de_un un_neg rel_neg ha
end

/-! ### comparisons -/
mutual
def pyd : D → Option PyData
  | .non => some .none
  | .bl b => some (.bool b)
  | .int i => some (.int i)
  | .str cs => some (.str (mkS cs))
  | .tup ds => (pydL ds).map .tuple
  | .lst ds => (pydL ds).map .list
  | .src ns => some (.list (ns.map .int))
  | _ => none
def pydL : List D → Option (List PyData)
  | [] => some []
  | d :: ds => match pyd d, pydL ds with
    | some p, some ps => some (p :: ps)
    | _, _ => none
end
theorem dpAll_ints {K : PySem.W.Frag} {H : Hp} : ∀ ns : List Int, DpAll K H (ns.map V.int) (ns.map PyData.int)
  | [] => .nil
  | n :: ns => .cons (.int n) (dpAll_ints ns)
mutual
theorem pyd_at {K : PySem.W.Frag} {H F : Hp} (l : Le F H) : ∀ {d : D} {v : V} {p : PyData}, Rp K F d v → pyd d = some p → Dp K H v p
  | .non, _, _, r, e => by unfold Rp at r; unfold pyd at e; cases e; subst r; exact .non
  | .bl _, _, _, r, e => by unfold Rp at r; unfold pyd at e; cases e; subst r; exact .bl _
  | .int _, _, _, r, e => by unfold Rp at r; unfold pyd at e; cases e; subst r; exact .int _
  | .str _, _, _, r, e => by unfold Rp at r; unfold pyd at e; cases e; subst r; exact .str _
  | .ref _, _, _, r, e => by unfold pyd at e; cases e
  | .ty _, _, _, r, e => by unfold pyd at e; cases e
  | .src ns, _, _, r, e => by
    unfold Rp at r; unfold pyd at e; cases e
    obtain ⟨a, e1, h1⟩ := r
    subst e1
    exact .lst (l.sqL h1) (dpAll_ints ns)
  | .tup ds, _, _, r, e => by
    unfold Rp at r; unfold pyd at e
    obtain ⟨a, xs, e1, h1, r1⟩ := r
    subst e1
    cases q : pydL ds with
    | none => rw [q] at e; cases e
    | some ps => rw [q] at e; cases e; exact .tup (l.sqT h1) (pydL_at l r1 q)
  | .lst ds, _, _, r, e => by
    unfold Rp at r; unfold pyd at e
    obtain ⟨a, xs, e1, h1, r1⟩ := r
    subst e1
    cases q : pydL ds with
    | none => rw [q] at e; cases e
    | some ps => rw [q] at e; cases e; exact .lst (.inl (.inl (l _ _ h1))) (pydL_at l r1 q)
theorem pydL_at {K : PySem.W.Frag} {H F : Hp} (l : Le F H) : ∀ {ds : List D} {vs : List V} {ps : List PyData}, RpL K F ds vs → pydL ds = some ps → DpAll K H vs ps
  | [], _, _, r, e => by unfold RpL at r; unfold pydL at e; cases e; subst r; exact .nil
  | d :: ds, _, _, r, e => by
    unfold RpL at r
    obtain ⟨x, xs, e1, r1, r2⟩ := r
    subst e1
    unfold pydL at e
    cases q1 : pyd d with
    | none => rw [q1] at e; cases e
    | some p =>
      cases q2 : pydL ds with
      | none => rw [q1, q2] at e; cases e
      | some ps =>
        rw [q1, q2] at e; cases e
        exact .cons (pyd_at l r1 q1) (pydL_at l r2 q2)
end
/-- a list that may change, as data at its top -/
def pydM (M : Mu) : D → Option PyData
  | .ref a => match M a with
    | some (.lst ds) => (pydL ds).map .list
    | _ => none
  | d => pyd d
theorem pydM_at {K : PySem.W.Frag} {H F : Hp} {M : Mu} (s : Sv K H F M) {d : D} {v : V} {p : PyData} (r : Rp K F d v) (e : pydM M d = some p) : Dp K H v p := by
  cases d with
  | ref a =>
    unfold Rp at r
    subst r
    have e' : (match M a with | some (.lst ds) => (pydL ds).map .list | _ => none) = some p := e
    cases q : M a with
    | none => rw [q] at e'; cases e'
    | some o =>
      rw [q] at e'
      cases o with
      | dic _ => cases e'
      | lst ds =>
        obtain ⟨ho, e2, xs, e3, r1⟩ := s.mu a _ q
        subst e3
        have e4 : (pydL ds).map PyData.list = some p := e'
        cases q2 : pydL ds with
        | none => rw [q2] at e4; cases e4
        | some ps => rw [q2] at e4; cases e4; exact .lst (.inl (.inl e2)) (pydL_at s.fh r1 q2)
  | _ => exact pyd_at s.fh r e
/-- data whose == is told -/
def dEqv (M : Mu) (x y : D) (Q : Bool → Prop) : Prop := match x, y with
  | .int i, .int j => Q (decide (i = j))
  | .str a, .str b => Q (decide (a = b))
  | .bl a, .bl b => Q (decide (a = b))
  | .non, .non => Q true
  | .non, .int _ => Q false
  | .int _, .non => Q false
  | .non, .str _ => Q false
  | .str _, .non => Q false
  | .non, .bl _ => Q false
  | .bl _, .non => Q false
  | .int _, .str _ => Q false
  | .str _, .int _ => Q false
  | x, y => ∃ d e, pydM M x = some d ∧ pydM M y = some e ∧ SeqAt.shaped d = true ∧ SeqAt.shaped e = true ∧ Q (PyData.eqv d e)
def dEq : DR2 := fun x y M Q => dEqv M x y fun b => Q (.bl b) M
def dNe : DR2 := fun x y M Q => dEqv M x y fun b => Q (.bl (!b)) M
def rEqAll (K : PySem.W.Frag) : R2 := fun x y H Q => rEq x y H Q ∨ rEqD K x y H Q
def rNeAll (K : PySem.W.Frag) : R2 := fun x y H Q => rNe x y H Q ∨ rNeD K x y H Q
theorem dec_mkS (a b : List Nat) : decide (V.str (mkS a) = V.str (mkS b)) = decide (a = b) := by
  by_cases e : a = b
  · subst e; simp
  · rw [decide_eq_false e]
    exact decide_eq_false fun z => e (mkS_inj (V.str.inj z))
theorem rel_eqv {K : PySem.W.Frag} {x y : D} {vx vy : V} {H F : Hp} {M : Mu} {Qd : Bool → Prop} {Q : Bool → Prop} (rx : Rp K F x vx) (ry : Rp K F y vy) (s : Sv K H F M) (h : dEqv M x y Qd) (po : ∀ b, Qd b → Q b) :
    (scal vx vy = true ∧ Q (decide (vx = vy))) ∨ ∃ d e, Dp K H vx d ∧ Dp K H vy e ∧ SeqAt.shaped d = true ∧ SeqAt.shaped e = true ∧ Q (PyData.eqv d e) := by
  unfold dEqv at h
  split at h
  · unfold Rp at rx ry; subst rx ry
    refine .inl ⟨rfl, ?_⟩
    rename_i i j
    have e : decide (V.int i = V.int j) = decide (i = j) := by rw [dec_int]; rfl
    rw [e]; exact po _ h
  · unfold Rp at rx ry; subst rx ry
    refine .inl ⟨rfl, ?_⟩
    rw [dec_mkS]; exact po _ h
  · unfold Rp at rx ry; subst rx ry
    refine .inl ⟨rfl, ?_⟩
    rename_i i j
    have e : decide (V.bl i = V.bl j) = decide (i = j) := by cases i <;> cases j <;> rfl
    rw [e]; exact po _ h
  · unfold Rp at rx ry; subst rx ry
    exact .inl ⟨rfl, po _ h⟩
  all_goals first
    | (unfold Rp at rx ry; subst rx ry; exact .inl ⟨rfl, by rw [decide_eq_false (by intro z; cases z)]; exact po _ h⟩)
    | skip
  obtain ⟨d, e, e1, e2, s1, s2, q⟩ := h
  exact .inr ⟨d, e, pydM_at s rx e1, pydM_at s ry e2, s1, s2, po _ q⟩
theorem rel_eq {K : PySem.W.Frag} : Rel2 K (rEqAll K) dEq := by
  intro x y vx vy H F M Qd Q rx ry s h po
  rcases rel_eqv (Q := fun b => Q (.bl b) H) rx ry s h (fun b q => po.fin s q (by unfold Rp; rfl)) with h | h
  · exact .inl h
  · exact .inr h
theorem rel_ne {K : PySem.W.Frag} : Rel2 K (rNeAll K) dNe := by
  intro x y vx vy H F M Qd Q rx ry s h po
  rcases rel_eqv (Q := fun b => Q (.bl (!b)) H) rx ry s h (fun b q => po.fin s q (by unfold Rp; rfl)) with h | h
  · exact .inl h
  · exact .inr h
theorem op_eqAll {X : Cx} (hu : X.A.units + 64 < cLine) : OpR X (compareOp .Eq) (rEqAll X.K) := OpR.or op_eq (op_eqD hu)
theorem op_neAll {X : Cx} (hu : X.A.units + 64 < cLine) : OpR X (compareOp .NotEq) (rNeAll X.K) := OpR.or op_ne (op_neD hu)
def dLt : DR2
  | .int i, .int j, M, Q => Q (.bl (decide (i < j))) M
  | .str a, .str b, M, Q => Q (.bl (decide (a < b))) M
  | _, _, _, _ => False
def dGt : DR2
  | .int i, .int j, M, Q => Q (.bl (decide (j < i))) M
  | .str a, .str b, M, Q => Q (.bl (decide (b < a))) M
  | _, _, _, _ => False
def dLe : DR2
  | .int i, .int j, M, Q => Q (.bl (decide (i ≤ j))) M
  | .str a, .str b, M, Q => Q (.bl (!decide (b < a))) M
  | _, _, _, _ => False
def dGe : DR2
  | .int i, .int j, M, Q => Q (.bl (decide (j ≤ i))) M
  | .str a, .str b, M, Q => Q (.bl (!decide (a < b))) M
  | _, _, _, _ => False
def rCmpAll (f : Int → Int → Bool) (g : List Nat → List Nat → Bool) : R2 := fun x y H Q => (rI0 fun i j => .bl (f i j)) x y H Q ∨ (∃ i j, x = .str i ∧ y = .str j ∧ Q (.bl (g i.cps.toList j.cps.toList)) H)
theorem op_ltAll {X : Cx} : OpR X (compareOp .Lt) (rCmpAll (fun i j => decide (i < j)) fun a b => decide (a < b)) := OpR.or op_lt op_lt_str
theorem op_gtAll {X : Cx} : OpR X (compareOp .Gt) (rCmpAll (fun i j => decide (j < i)) fun a b => decide (b < a)) := OpR.or op_gt op_gt_str
theorem op_leAll {X : Cx} : OpR X (compareOp .LtE) (rCmpAll (fun i j => decide (i ≤ j)) fun a b => !decide (b < a)) := OpR.or op_le op_le_str
theorem op_geAll {X : Cx} : OpR X (compareOp .GtE) (rCmpAll (fun i j => decide (j ≤ i)) fun a b => !decide (a < b)) := OpR.or op_ge op_ge_str
theorem rel_lt {K : PySem.W.Frag} : Rel2 K (rCmpAll (fun i j => decide (i < j)) fun a b => decide (a < b)) dLt := by
  intro x y vx vy H F M Qd Q rx ry s h po
  unfold dLt at h
  split at h
  · unfold Rp at rx ry; exact .inl ⟨_, _, rx, ry, po.fin s h (by unfold Rp; rfl)⟩
  · unfold Rp at rx ry; exact .inr ⟨_, _, rx, ry, po.fin s h (by unfold Rp; rfl)⟩
  · exact h.elim
theorem rel_gt {K : PySem.W.Frag} : Rel2 K (rCmpAll (fun i j => decide (j < i)) fun a b => decide (b < a)) dGt := by
  intro x y vx vy H F M Qd Q rx ry s h po
  unfold dGt at h
  split at h
  · unfold Rp at rx ry; exact .inl ⟨_, _, rx, ry, po.fin s h (by unfold Rp; rfl)⟩
  · unfold Rp at rx ry; exact .inr ⟨_, _, rx, ry, po.fin s h (by unfold Rp; rfl)⟩
  · exact h.elim
theorem rel_le {K : PySem.W.Frag} : Rel2 K (rCmpAll (fun i j => decide (i ≤ j)) fun a b => !decide (b < a)) dLe := by
  intro x y vx vy H F M Qd Q rx ry s h po
  unfold dLe at h
  split at h
  · unfold Rp at rx ry; exact .inl ⟨_, _, rx, ry, po.fin s h (by unfold Rp; rfl)⟩
  · unfold Rp at rx ry; exact .inr ⟨_, _, rx, ry, po.fin s h (by unfold Rp; rfl)⟩
  · exact h.elim
theorem rel_ge {K : PySem.W.Frag} : Rel2 K (rCmpAll (fun i j => decide (j ≤ i)) fun a b => !decide (a < b)) dGe := by
  intro x y vx vy H F M Qd Q rx ry s h po
  unfold dGe at h
  split at h
  · unfold Rp at rx ry; exact .inl ⟨_, _, rx, ry, po.fin s h (by unfold Rp; rfl)⟩
  · unfold Rp at rx ry; exact .inr ⟨_, _, rx, ry, po.fin s h (by unfold Rp; rfl)⟩
  · exact h.elim
def isNon : D → Bool
  | .non => true
  | _ => false
theorem isNon_at {K : PySem.W.Frag} {F : Hp} {d : D} {v : V} (r : Rp K F d v) : decide (v = .non) = isNon d := by
  cases d with
  | non => unfold Rp at r; subst r; rfl
  | bl _ => unfold Rp at r; subst r; rfl
  | int _ => unfold Rp at r; subst r; rfl
  | str _ => unfold Rp at r; subst r; rfl
  | ref _ => unfold Rp at r; subst r; rfl
  | ty _ => unfold Rp at r; subst r; rfl
  | src _ => unfold Rp at r; obtain ⟨a, e, _⟩ := r; subst e; rfl
  | tup _ => unfold Rp at r; obtain ⟨a, _, e, _⟩ := r; subst e; rfl
  | lst _ => unfold Rp at r; obtain ⟨a, _, e, _⟩ := r; subst e; rfl
def dIsN : DR2 := fun x y M Q => isNon y = true ∧ Q (.bl (isNon x)) M
def dNotN : DR2 := fun x y M Q => isNon y = true ∧ Q (.bl (!isNon x)) M
theorem non_at {K : PySem.W.Frag} {F : Hp} {d : D} {v : V} (r : Rp K F d v) (h : isNon d = true) : v = .non := by
  rw [← isNon_at r] at h
  exact of_decide_eq_true h
theorem rel_isN {K : PySem.W.Frag} : Rel2 K (fun x y H Q => y = .non ∧ Q (.bl (decide (x = .non))) H) dIsN := fun x y vx vy H F M Qd Q rx ry s h po =>
  ⟨non_at ry h.1, po.fin s h.2 (by unfold Rp; rw [isNon_at rx])⟩
theorem rel_notN {K : PySem.W.Frag} : Rel2 K (fun x y H Q => y = .non ∧ Q (.bl (!decide (x = .non))) H) dNotN := fun x y vx vy H F M Qd Q rx ry s h po =>
  ⟨non_at ry h.1, po.fin s h.2 (by unfold Rp; rw [isNon_at rx])⟩
/-! ### in -/
def flatD : D → Bool
  | .non => true
  | .bl _ => true
  | .int _ => true
  | .str _ => true
  | _ => false
def eqFl : D → D → Bool
  | .non, .non => true
  | .bl a, .bl b => a == b
  | .bl a, .int b => (if a then 1 else 0) == b
  | .int a, .bl b => a == (if b then 1 else 0)
  | .int a, .int b => decide (a = b)
  | .str a, .str b => decide (a = b)
  | _, _ => false
theorem flat_of {K : PySem.W.Frag} {F : Hp} {d : D} {v : V} (r : Rp K F d v) (h : flatD d = true) : flatV v = true := by
  cases d <;> first | (cases h; done) | (unfold Rp at r; subst r; rfl)
theorem eqFl_of {K : PySem.W.Frag} {F : Hp} {d e : D} {v u : V} (r : Rp K F d v) (q : Rp K F e u) (h : flatD d = true) (h' : flatD e = true) : eqV v u = eqFl d e := by
  cases d <;> first | (cases h; done) | (cases e <;> first | (cases h'; done) | (unfold Rp at r q; subst r q; first | rfl | skip))
  · rename_i a b
    show (mkS a == mkS b) = decide (a = b)
    by_cases e : a = b
    · subst e; simp
    · rw [decide_eq_false e]
      exact beq_eq_false_iff_ne.mpr fun z => e (mkS_inj z)
theorem flats_of {K : PySem.W.Frag} {F : Hp} : ∀ {ds : List D} {vs : List V}, RpL K F ds vs → ds.all flatD = true → vs.all flatV = true
  | [], _, r, _ => by unfold RpL at r; subst r; rfl
  | d :: ds, _, r, h => by
    unfold RpL at r
    obtain ⟨x, xs, e, r1, r2⟩ := r
    subst e
    rw [List.all_cons, Bool.and_eq_true] at h ⊢
    exact ⟨flat_of r1 h.1, flats_of r2 h.2⟩
def inD (x : D) (ds : List D) : Bool := ds.any fun y => eqFl y x
theorem inD_of {K : PySem.W.Frag} {F : Hp} {x : D} {vx : V} (rx : Rp K F x vx) (hx : flatD x = true) : ∀ {ds : List D} {vs : List V}, RpL K F ds vs → ds.all flatD = true → inV vx vs = inD x ds
  | [], _, r, _ => by unfold RpL at r; subst r; rfl
  | d :: ds, _, r, h => by
    unfold RpL at r
    obtain ⟨y, xs, e, r1, r2⟩ := r
    subst e
    rw [List.all_cons, Bool.and_eq_true] at h
    have ih := inD_of rx hx r2 h.2
    unfold inV inD at ih ⊢
    rw [List.any_cons, List.any_cons, eqFl_of r1 rx h.1 hx, ih]
/-- the items of a list, a tuple -/
def dits (M : Mu) : D → Option (List D)
  | .tup ds => some ds
  | .src ns => some (ns.map .int)
  | d => dseq M d
theorem dits_at {K : PySem.W.Frag} {H F : Hp} {M : Mu} {d : D} {v : V} {ds : List D} (s : Sv K H F M) (r : Rp K F d v) (h : dits M d = some ds) : ∃ a xs, v = .ref a ∧ (SqL K H a xs ∨ SqT K H a xs) ∧ RpL K F ds xs := by
  have old : dseq M d = some ds → ∃ a xs, v = .ref a ∧ (SqL K H a xs ∨ SqT K H a xs) ∧ RpL K F ds xs := fun q => by
    obtain ⟨a, xs, e, h1, r1⟩ := dseq_at s r q
    exact ⟨a, xs, e, .inl (.inl (.inl h1)), r1⟩
  cases d with
  | tup es =>
    unfold Rp at r
    obtain ⟨a, xs, e, h1, r1⟩ := r
    cases h
    exact ⟨a, xs, e, .inr (s.fh.sqT h1), r1⟩
  | src ns =>
    unfold Rp at r
    obtain ⟨a, e, h1⟩ := r
    cases h
    exact ⟨a, _, e, .inl (s.fh.sqL h1), RpL.ints⟩
  | _ => exact old h
def dInB (neg : Bool) : DR2 := fun x y M Q => match x, y with
  | .str [c], .str cs => Q (.bl (if neg then !decide (c ∈ cs) else decide (c ∈ cs))) M
  | x, y => match dits M y with
    | some ds => flatD x = true ∧ ds.all flatD = true ∧ Q (.bl (if neg then !inD x ds else inD x ds)) M
    | none => False
def rInAll (K : PySem.W.Frag) (neg : Bool) : R2 := fun x y H Q => (∃ (c : Nat) (z : Str), x = .str ⟨#[c]⟩ ∧ y = .str z ∧ Q (.bl (if neg then !decide (c ∈ z.cps.toList) else decide (c ∈ z.cps.toList))) H) ∨ rIn K neg x y H Q
theorem op_inAll {X : Cx} : OpR X (compareOp .In) (rInAll X.K false) := OpR.or op_in_sign op_in_seq
theorem op_ninAll {X : Cx} : OpR X (compareOp .NotIn) (rInAll X.K true) := OpR.or op_notIn_sign op_notIn_seq
theorem rel_in {K : PySem.W.Frag} {neg : Bool} : Rel2 K (rInAll K neg) (dInB neg) := by
  intro x y vx vy H F M Qd Q rx ry s h po
  unfold dInB at h
  split at h
  · unfold Rp at rx ry
    exact .inl ⟨_, _, rx, ry, po.fin s h (by unfold Rp; rfl)⟩
  · split at h
    · rename_i ds e
      obtain ⟨h1, h2, h3⟩ := h
      obtain ⟨a, xs, e1, hs, r1⟩ := dits_at s ry e
      refine .inr ⟨a, xs, e1, hs, flat_of rx h1, flats_of r1 h2, ?_⟩
      rw [inD_of rx h1 r1 h2]
      exact po.fin s h3 (by unfold Rp; rfl)
    · exact h.elim
section
variable {X : Cx} {a b c : Expr} {ua ub uc : DTE} {pos : Pos}
theorem de_eq (hu : X.A.units + 64 < cLine) (ha : DE X a ua) (hb : DE X b ub) : DE X (.Compare a [.Eq] [b] pos) (dOp dEq ua ub) := de_cmp (op_eqAll hu) rel_eq ha hb (nomark _)
theorem de_ne (hu : X.A.units + 64 < cLine) (ha : DE X a ua) (hb : DE X b ub) : DE X (.Compare a [.NotEq] [b] pos) (dOp dNe ua ub) := de_cmp (op_neAll hu) rel_ne ha hb (nomark _)
theorem de_lt (ha : DE X a ua) (hb : DE X b ub) : DE X (.Compare a [.Lt] [b] pos) (dOp dLt ua ub) := de_cmp op_ltAll rel_lt ha hb (nomark _)
theorem de_gt (ha : DE X a ua) (hb : DE X b ub) : DE X (.Compare a [.Gt] [b] pos) (dOp dGt ua ub) := de_cmp op_gtAll rel_gt ha hb (nomark _)
theorem de_le (ha : DE X a ua) (hb : DE X b ub) : DE X (.Compare a [.LtE] [b] pos) (dOp dLe ua ub) := de_cmp op_leAll rel_le ha hb (nomark _)
theorem de_ge (ha : DE X a ua) (hb : DE X b ub) : DE X (.Compare a [.GtE] [b] pos) (dOp dGe ua ub) := de_cmp op_geAll rel_ge ha hb (nomark _)
theorem de_isN (ha : DE X a ua) (hb : DE X b ub) : DE X (.Compare a [.Is] [b] pos) (dOp dIsN ua ub) := de_cmp op_isN rel_isN ha hb (nomark _)
theorem de_notN (ha : DE X a ua) (hb : DE X b ub) : DE X (.Compare a [.IsNot] [b] pos) (dOp dNotN ua ub) := de_cmp op_notN rel_notN ha hb (nomark _)
theorem de_in (ha : DE X a ua) (hb : DE X b ub) (hm : behindInMarks .In b = false := by rfl) : DE X (.Compare a [.In] [b] pos) (dOp (dInB false) ua ub) := de_cmp op_inAll rel_in ha hb hm
theorem de_nin (ha : DE X a ua) (hb : DE X b ub) (hm : behindInMarks .NotIn b = false := by rfl) : DE X (.Compare a [.NotIn] [b] pos) (dOp (dInB true) ua ub) := de_cmp op_ninAll rel_in ha hb hm
end
end DL

namespace DL
open PySem PySem.Spec PyProof.Rows L2 TL

/-! ### tests -/
def dTest (u : DTE) : DTT := fun δ M Q => u δ M fun d M1 => match d with
  | .bl b => Q b M1
  | _ => False
theorem lift_test {K : PySem.W.Frag} {u : DTE} {σ : L2.St} {H : Hp} {Q : Bool → Hp → Prop} (h : liftT K (dTest u) σ H Q) : lift K u σ H fun x H' => ∃ k, x = .bl k ∧ Q k H' := by
  obtain ⟨δ, M, F, Qd, hE, s, hu, p⟩ := h
  refine ⟨δ, M, F, _, hE, s, hu, fun d M' F' v H' q g s' r => ?_⟩
  cases d <;> first | exact False.elim q | skip
  unfold Rp at r
  subst r
  exact ⟨_, rfl, p _ _ _ _ q g s'⟩
/-- truth of data -/
def dTruB (M : Mu) (d : D) (Q : Bool → Prop) : Prop := match d with
  | .non => Q false
  | .bl b => Q b
  | .int i => Q (i != 0)
  | .str cs => cs.length ≤ sizeLine ∧ Q (!cs.isEmpty)
  | d => match dits M d with
    | some ds => Q (!ds.isEmpty)
    | none => False
def dTru (u : DTE) : DTT := fun δ M Q => u δ M fun d M1 => dTruB M1 d fun b => Q b M1
def dNot (t : DTT) : DTT := fun δ M Q => t δ M fun b M1 => Q (!b) M1
def dAnd (t u : DTT) : DTT := fun δ M Q => t δ M fun b M1 => match b with
  | true => u δ M1 Q
  | false => Q false M1
def dOr (t u : DTT) : DTT := fun δ M Q => t δ M fun b M1 => match b with
  | true => Q true M1
  | false => u δ M1 Q
def dIf (t : DTT) (ua ub : DTE) : DTE := fun δ M Q => t δ M fun b M1 => match b with
  | true => ua δ M1 Q
  | false => ub δ M1 Q
/-- and, or, not as values: all but the last True or False -/
def dAndV (ua ub : DTE) : DTE := fun δ M Q => ua δ M fun d M1 => match d with
  | .bl true => ub δ M1 Q
  | .bl false => Q (.bl false) M1
  | _ => False
def dOrV (ua ub : DTE) : DTE := fun δ M Q => ua δ M fun d M1 => match d with
  | .bl true => Q (.bl true) M1
  | .bl false => ub δ M1 Q
  | _ => False
def dNotV (ua : DTE) : DTE := fun δ M Q => ua δ M fun d M1 => match d with
  | .bl b => Q (.bl (!b)) M1
  | _ => False
theorem isEmpty_rel {K : PySem.W.Frag} {F : Hp} {ds : List D} {xs : List V} (r : RpL K F ds xs) : (!xs.isEmpty) = !ds.isEmpty := by
  have := r.len
  cases ds <;> cases xs <;> first | rfl | (simp at this)
theorem tru_rel {K : PySem.W.Frag} {H F : Hp} {M : Mu} {d : D} {v : V} {Q : Bool → Prop} (s : Sv K H F M) (r : Rp K F d v) (h : dTruB M d Q) : ∃ k, TruV K v H k ∧ Q k := by
  have old : (match dits M d with | some ds => Q (!ds.isEmpty) | none => False) → ∃ k, TruV K v H k ∧ Q k := fun h => by
    split at h
    · rename_i ds e
      obtain ⟨a, xs, e1, hs, r1⟩ := dits_at s r e
      subst e1
      refine ⟨_, ?_, h⟩
      rcases hs with hs | hs
      · exact .inl ⟨xs, hs, (isEmpty_rel r1).symm⟩
      · exact .inr (.inl ⟨xs, hs, (isEmpty_rel r1).symm⟩)
    · exact h.elim
  cases d with
  | non => unfold Rp at r; subst r; exact ⟨false, rfl, h⟩
  | bl b => unfold Rp at r; subst r; exact ⟨b, rfl, h⟩
  | int i => unfold Rp at r; subst r; exact ⟨_, rfl, h⟩
  | str cs =>
    unfold Rp at r
    subst r
    refine ⟨_, ⟨by rw [mkS_len]; exact h.1, rfl⟩, ?_⟩
    have e : (((mkS cs).length : Int) != 0) = !cs.isEmpty := by
      rw [mkS_len]
      cases cs with
      | nil => rfl
      | cons c cs => simp [bne]; omega
    rw [e]
    exact h.2
  | _ => exact old h
section
variable {X : Cx} {a b c : Expr} {ua ub uc : DTE} {t u : DTT} {pos : Pos} {rest : List Expr}
theorem dt_cmp {op : CmpOp} {r : R2} {rd : DR2} (ho : OpR X (compareOp op) r) (hr : Rel2 X.K r rd) (ha : DE X a ua) (hb : DE X b ub) (hm : behindInMarks op b = false) : DT X (.Compare a [op] [b] pos) (dTest (dOp rd ua ub)) :=
  PT.weak (pt_cmpR ho ha hb hm) fun σ H Q h => bin2 hr _ _ _ (lift_test h)
theorem dt_eq (hu : X.A.units + 64 < cLine) (ha : DE X a ua) (hb : DE X b ub) : DT X (.Compare a [.Eq] [b] pos) (dTest (dOp dEq ua ub)) := dt_cmp (op_eqAll hu) rel_eq ha hb (nomark _)
theorem dt_ne (hu : X.A.units + 64 < cLine) (ha : DE X a ua) (hb : DE X b ub) : DT X (.Compare a [.NotEq] [b] pos) (dTest (dOp dNe ua ub)) := dt_cmp (op_neAll hu) rel_ne ha hb (nomark _)
theorem dt_lt (ha : DE X a ua) (hb : DE X b ub) : DT X (.Compare a [.Lt] [b] pos) (dTest (dOp dLt ua ub)) := dt_cmp op_ltAll rel_lt ha hb (nomark _)
theorem dt_gt (ha : DE X a ua) (hb : DE X b ub) : DT X (.Compare a [.Gt] [b] pos) (dTest (dOp dGt ua ub)) := dt_cmp op_gtAll rel_gt ha hb (nomark _)
theorem dt_le (ha : DE X a ua) (hb : DE X b ub) : DT X (.Compare a [.LtE] [b] pos) (dTest (dOp dLe ua ub)) := dt_cmp op_leAll rel_le ha hb (nomark _)
theorem dt_ge (ha : DE X a ua) (hb : DE X b ub) : DT X (.Compare a [.GtE] [b] pos) (dTest (dOp dGe ua ub)) := dt_cmp op_geAll rel_ge ha hb (nomark _)
theorem dt_isN (ha : DE X a ua) (hb : DE X b ub) : DT X (.Compare a [.Is] [b] pos) (dTest (dOp dIsN ua ub)) := dt_cmp op_isN rel_isN ha hb (nomark _)
theorem dt_notN (ha : DE X a ua) (hb : DE X b ub) : DT X (.Compare a [.IsNot] [b] pos) (dTest (dOp dNotN ua ub)) := dt_cmp op_notN rel_notN ha hb (nomark _)
theorem dt_in (ha : DE X a ua) (hb : DE X b ub) (hm : behindInMarks .In b = false := by rfl) : DT X (.Compare a [.In] [b] pos) (dTest (dOp (dInB false) ua ub)) := dt_cmp op_inAll rel_in ha hb hm
theorem dt_nin (ha : DE X a ua) (hb : DE X b ub) (hm : behindInMarks .NotIn b = false := by rfl) : DT X (.Compare a [.NotIn] [b] pos) (dTest (dOp (dInB true) ua ub)) := dt_cmp op_ninAll rel_in ha hb hm
/-- an expression that gives True or False -/
theorem dt_val (h : DE X a ua) (he : ∀ whole, isTrue a X.env whole = (do let v ← whole; standAt a.pos; holding [v] (truthy v)) := by intro _; rfl) : DT X a (dTest ua) := PT.weak (pt_val h he) fun σ H Q h => lift_test h
theorem dt_tru (h : DE X a ua) (he : ∀ whole, isTrue a X.env whole = (do let v ← whole; standAt a.pos; holding [v] (truthy v)) := by intro _; rfl) : DT X a (dTru ua) := by
  refine PT.weak (pt_truth h he) fun σ H Q h => ?_
  obtain ⟨δ, M, F, Qd, hE, s, hu, p⟩ := h
  refine ⟨δ, M, F, _, hE, s, hu, fun d M' F' v H' q g s' r => ?_⟩
  obtain ⟨k, tk, q⟩ := tru_rel s' r q
  exact ⟨k, tk, p _ _ _ _ q g s'⟩
theorem dt_not (h : DT X a t) : DT X (.UnaryOp .Not a pos) (dNot t) := by
  refine PT.weak (pt_not h) fun σ H Q h => ?_
  obtain ⟨δ, M, F, Qd, hE, s, hu, p⟩ := h
  exact ⟨δ, M, F, _, hE, s, hu, fun d M' F' H' q g s' => p _ _ _ _ q g s'⟩
theorem dw_and1 (h : DT X a t) : DW X (.BoolOp .And [a] pos) t := pw_and1 h
theorem dw_or1 (h : DT X a t) : DW X (.BoolOp .Or [a] pos) t := pw_or1 h
theorem dw_and (ha : DT X a t) (hb : DW X (.BoolOp .And (b :: rest) pos) u) : DW X (.BoolOp .And (a :: b :: rest) pos) (dAnd t u) := by
  refine PW.weak (pw_and ha hb) fun σ H Q h => ?_
  obtain ⟨δ, M, F, Qd, hE, s, hu, p⟩ := h
  refine ⟨δ, M, F, _, hE, s, hu, fun d M' F' H' q g s' => ?_⟩
  cases d with
  | true => exact ⟨δ, M', F', Qd, hE.mono g.le, s', q, p.go g⟩
  | false => exact p _ _ _ _ q g s'
theorem dw_or (ha : DT X a t) (hb : DW X (.BoolOp .Or (b :: rest) pos) u) : DW X (.BoolOp .Or (a :: b :: rest) pos) (dOr t u) := by
  refine PW.weak (pw_or ha hb) fun σ H Q h => ?_
  obtain ⟨δ, M, F, Qd, hE, s, hu, p⟩ := h
  refine ⟨δ, M, F, _, hE, s, hu, fun d M' F' H' q g s' => ?_⟩
  cases d with
  | true => exact p _ _ _ _ q g s'
  | false => exact ⟨δ, M', F', Qd, hE.mono g.le, s', q, p.go g⟩
theorem de_ifx (hc : DT X c t) (ha : DE X a ua) (hb : DE X b ub) : DE X (.IfExp c a b pos) (dIf t ua ub) := by
  refine PE.weak (pe_ifExp hc ha hb) fun σ H Q h => ?_
  obtain ⟨δ, M, F, Qd, hE, s, hu, p⟩ := h
  refine ⟨δ, M, F, _, hE, s, hu, fun d M' F' H' q g s' => ?_⟩
  cases d with
  | true => exact ⟨δ, M', F', Qd, hE.mono g.le, s', q, p.go g⟩
  | false => exact ⟨δ, M', F', Qd, hE.mono g.le, s', q, p.go g⟩
theorem de_one {op : BoolOp} (h : DE X a ua) : DE X (.BoolOp op [a] pos) ua := pe_one h
theorem de_and (ha : DE X a ua) (hb : DE X (.BoolOp .And (b :: rest) pos) ub) : DE X (.BoolOp .And (a :: b :: rest) pos) (dAndV ua ub) := by
  refine PE.weak (pe_and ha hb) fun σ H Q h => ?_
  obtain ⟨δ, M, F, Qd, hE, s, hu, p⟩ := h
  refine ⟨δ, M, F, _, hE, s, hu, fun d M' F' v H' q g s' r => ?_⟩
  cases d <;> first | exact False.elim q | skip
  rename_i k
  unfold Rp at r
  subst r
  refine ⟨k, rfl, ?_⟩
  cases k with
  | true => exact ⟨δ, M', F', Qd, hE.mono g.le, s', q, p.go g⟩
  | false => exact p _ _ _ _ _ q g s' (by unfold Rp; rfl)
theorem de_or (ha : DE X a ua) (hb : DE X (.BoolOp .Or (b :: rest) pos) ub) : DE X (.BoolOp .Or (a :: b :: rest) pos) (dOrV ua ub) := by
  refine PE.weak (pe_or ha hb) fun σ H Q h => ?_
  obtain ⟨δ, M, F, Qd, hE, s, hu, p⟩ := h
  refine ⟨δ, M, F, _, hE, s, hu, fun d M' F' v H' q g s' r => ?_⟩
  cases d <;> first | exact False.elim q | skip
  rename_i k
  unfold Rp at r
  subst r
  refine ⟨k, rfl, ?_⟩
  cases k with
  | false => exact ⟨δ, M', F', Qd, hE.mono g.le, s', q, p.go g⟩
  | true => exact p _ _ _ _ _ q g s' (by unfold Rp; rfl)
theorem de_not (ha : DE X a ua) : DE X (.UnaryOp .Not a pos) (dNotV ua) := by
  refine PE.weak (pe_not ha) fun σ H Q h => ?_
  obtain ⟨δ, M, F, Qd, hE, s, hu, p⟩ := h
  refine ⟨δ, M, F, _, hE, s, hu, fun d M' F' v H' q g s' r => ?_⟩
  cases d <;> first | exact False.elim q | skip
  unfold Rp at r
  subst r
  exact ⟨_, rfl, p _ _ _ _ _ q g s' (by unfold Rp; rfl)⟩
end

/-! ### argument lists, displays -/
def dNil : DTA := fun _ M Q => Q [] M
def dCons (ua : DTE) (ur : DTA) : DTA := fun δ M Q => ua δ M fun d M1 => ur δ M1 fun ds M2 => Q (d :: ds) M2
def dTup (ua : DTA) : DTE := fun δ M Q => ua δ M fun ds M1 => ds.length ≤ sizeLine ∧ Q (.tup ds) M1
def dLst (mu : Bool) (ua : DTA) : DTE := fun δ M Q => ua δ M fun ds M1 => ds.length ≤ sizeLine ∧ dNew mu ds M1 Q
section
variable {X : Cx} {e a b c : Expr} {es : List Expr} {ua ub uc : DTE} {ur : DTA} {pos : Pos}
theorem da_nil : DA X [] dNil := PA.weak pa_nil fun σ H Q h => by
  obtain ⟨δ, M, F, Qd, hE, s, hu, p⟩ := h
  exact p _ _ _ _ _ hu Go.refl s RpL.nil
theorem da_cons (ha : DE X e ua) (hr : DA X es ur) (hs : starEach (e :: es) X.env = (false, eval e X.env) :: starEach es X.env := by rfl) : DA X (e :: es) (dCons ua ur) := PA.weak (pa_cons ha hr hs) fun σ H Q h => by
  obtain ⟨δ, M, F, Qd, hE, s, hu, p⟩ := h
  refine ⟨δ, M, F, _, hE, s, hu, fun d M' F' v H' q g s' r => ?_⟩
  refine ⟨δ, M', F', _, hE.mono g.le, s', q, fun ds M2 F2 vs H2 q2 g2 s2 r2 => ?_⟩
  exact p _ _ _ _ _ q2 (g.trans g2) s2 (RpL.cons (r.mono g2.le) r2)
theorem de_tup {x1 : Nat} (h : DA X es ur) : DE X (.Tuple es x1 pos) (dTup ur) := PE.weak (pe_tup h) fun σ H Q h => by
  obtain ⟨δ, M, F, Qd, hE, s, hu, p⟩ := h
  refine ⟨δ, M, F, _, hE, s, hu, fun d M' F' v H' q g s' r => ?_⟩
  exact ⟨by rw [← r.len]; exact q.1, fun l hl => newT_at s' r q.2 (p.go g) hl⟩
theorem de_lst (mu : Bool) (h : DA X es ur) : DE X (.List es pos) (dLst mu ur) := PE.weak (pe_lst h) fun σ H Q h => by
  obtain ⟨δ, M, F, Qd, hE, s, hu, p⟩ := h
  refine ⟨δ, M, F, _, hE, s, hu, fun d M' F' v H' q g s' r => ?_⟩
  exact ⟨by rw [← r.len]; exact q.1, fun l hl => dNew_at s' r q.2 (p.go g) hl⟩
end

/-! ### calls of built-ins -/
abbrev DRC := List D → Mu → DK → Prop
def RelC (K : PySem.W.Frag) (r : List V → Hp → VK → Prop) (rd : DRC) : Prop := ∀ ds vs H F M Qd Q, RpL K F ds vs → Sv K H F M → rd ds M Qd → Post K H F M Qd Q → r vs H Q
def dCB (rd : DRC) (ua : DTA) : DTE := fun δ M Q => ua δ M fun ds M1 => rd ds M1 Q
section
variable {X : Cx} {x : Str} {p pos : Pos} {e : Expr} {es : List Expr} {u : DTA} {id T : String} {r : List V → Hp → VK → Prop} {rd : DRC}
theorem cb_rel (hr : RelC X.K r rd) : ∀ σ H Q, lift X.K (dCB rd u) σ H Q → tCB r (liftA X.K u) σ H Q := fun σ H Q h => by
  obtain ⟨δ, M, F, Qd, hE, s, hu, p⟩ := h
  exact ⟨δ, M, F, _, hE, s, hu, fun ds M' F' vs H' q g s' r' => hr ds vs H' F' M' Qd Q r' s' q (p.go g)⟩
theorem de_callB (hc : CallR X (.builtin id) r) (hr : RelC X.K r rd) (hg : Gl X x) (hm : X.mg x = none) (hv : bootBuiltins x = some (.builtin id)) (ha : DA X (e :: es) u) (hn : x ≠ "__name__" := by decide) (hdb : (x == ("__debug__" : Str)) = false := by decide)
    (he : starEach (e :: es) X.env = (false, eval e X.env) :: starEach es X.env := by rfl) (hpl : (backTo pos (starEach es X.env)).any (·.1) = false := by rfl) : DE X (.Call (.Name x p) (e :: es) [] pos) (dCB rd u) := PE.weak (pe_callB hc hg hm hv ha hn hdb he hpl) (cb_rel hr)
theorem de_callTy (hc : CallR X (.type T) r) (hr : RelC X.K r rd) (hg : Gl X x) (hm : X.mg x = none) (hv : bootBuiltins x = some (.type T)) (ha : DA X (e :: es) u) (hn : x ≠ "__name__" := by decide) (hdb : (x == ("__debug__" : Str)) = false := by decide)
    (he : starEach (e :: es) X.env = (false, eval e X.env) :: starEach es X.env := by rfl) (hpl : (backTo pos (starEach es X.env)).any (·.1) = false := by rfl) : DE X (.Call (.Name x p) (e :: es) [] pos) (dCB rd u) := PE.weak (pe_callTy hc hg hm hv ha hn hdb he hpl) (cb_rel hr)
end
theorem RpL.one {K : PySem.W.Frag} {F : Hp} {d : D} {vs : List V} (h : RpL K F [d] vs) : ∃ v, vs = [v] ∧ Rp K F d v := by
  unfold RpL at h
  obtain ⟨x, r, e, h1, h2⟩ := h
  unfold RpL at h2
  subst h2
  exact ⟨x, e, h1⟩
theorem RpL.two {K : PySem.W.Frag} {F : Hp} {d e : D} {vs : List V} (h : RpL K F [d, e] vs) : ∃ v u, vs = [v, u] ∧ Rp K F d v ∧ Rp K F e u := by
  unfold RpL at h
  obtain ⟨x, r, e, h1, h2⟩ := h
  obtain ⟨y, e2, h3⟩ := RpL.one h2
  subst e2
  exact ⟨x, y, e, h1, h3⟩
/-- len -/
def dLen : DRC := fun ds M Q => match ds with
  | [.str cs] => cs.length ≤ sizeLine ∧ Q (.int cs.length) M
  | [d] => match dits M d with
    | some es => Q (.int es.length) M
    | none => False
  | _ => False
def rLenAll (K : PySem.W.Frag) : List V → Hp → VK → Prop := fun xs H Q => ∃ x n, xs = [x] ∧ LenV K x H n ∧ Q (.int n) H
theorem rel_len {K : PySem.W.Frag} : RelC K (rLenAll K) dLen := by
  intro ds vs H F M Qd Q r s h po
  unfold dLen at h
  split at h
  · obtain ⟨v, e, r1⟩ := r.one
    unfold Rp at r1
    subst e r1
    exact ⟨_, _, rfl, ⟨by rw [mkS_len]; exact h.1, rfl⟩, po.fin s h.2 (by unfold Rp; rw [mkS_len])⟩
  · obtain ⟨v, e, r1⟩ := r.one
    subst e
    split at h
    · rename_i es e
      obtain ⟨a, xs, e1, hs, r2⟩ := dits_at s r1 e
      subst e1
      refine ⟨_, xs.length, rfl, ?_, po.fin s h (by unfold Rp; rw [r2.len])⟩
      rcases hs with hs | hs
      · exact .inl ⟨xs, hs, rfl⟩
      · exact .inr ⟨xs, hs, rfl⟩
    · exact h.elim
  · exact h.elim
def dAbs : DRC := fun ds M Q => match ds with
  | [.int i] => Q (.int (i.natAbs : Int)) M
  | _ => False
theorem rel_abs {K : PySem.W.Frag} : RelC K (fun xs H Q => ∃ i, xs = [.int i] ∧ Q (.int (if i < 0 then -i else i)) H) dAbs := by
  intro ds vs H F M Qd Q r s h po
  unfold dAbs at h
  split at h
  · obtain ⟨v, e, r1⟩ := r.one
    unfold Rp at r1
    subst e r1
    refine ⟨_, rfl, po.fin s h ?_⟩
    unfold Rp
    congr 1
    split <;> omega
  · exact h.elim
def dMin2 : DRC := fun ds M Q => match ds with
  | [.int i, .int j] => Q (.int (if j < i then j else i)) M
  | _ => False
theorem rel_min2 {K : PySem.W.Frag} : RelC K (fun xs H Q => ∃ i j, xs = [.int i, .int j] ∧ Q (.int (if j < i then j else i)) H) dMin2 := by
  intro ds vs H F M Qd Q r s h po
  unfold dMin2 at h
  split at h
  · obtain ⟨v, u, e, r1, r2⟩ := r.two
    unfold Rp at r1 r2
    subst e r1 r2
    exact ⟨_, _, rfl, po.fin s h (by unfold Rp; rfl)⟩
  · exact h.elim
def dMax2 : DRC := fun ds M Q => match ds with
  | [.int i, .int j] => Q (.int (if j > i then j else i)) M
  | _ => False
theorem rel_max2 {K : PySem.W.Frag} : RelC K (fun xs H Q => ∃ i j, xs = [.int i, .int j] ∧ Q (.int (if j > i then j else i)) H) dMax2 := by
  intro ds vs H F M Qd Q r s h po
  unfold dMax2 at h
  split at h
  · obtain ⟨v, u, e, r1, r2⟩ := r.two
    unfold Rp at r1 r2
    subst e r1 r2
    exact ⟨_, _, rfl, po.fin s h (by unfold Rp; rfl)⟩
  · exact h.elim
theorem CallR.or2 {X : Cx} {f : Value} {r r' : List V → Hp → VK → Prop} (h : CallR X f r) (h' : CallR X f r') : CallR X f (fun xs H Q => r xs H Q ∨ r' xs H Q) := CallR.or h h'
/-- int(..) of an int, a bool, a text -/
def dInt : DRC := fun ds M Q => match ds with
  | [.int i] => Q (.int i) M
  | [.bl b] => Q (.int (if b then 1 else 0)) M
  | [.str cs] => ∃ n, PySem.intText? (mkS cs) = some n ∧ cs.length ≤ 640 ∧ Q (.int n) M
  | _ => False
def rIntAll : List V → Hp → VK → Prop := fun xs H Q => ((∃ i, xs = [.int i] ∧ Q (.int i) H) ∨ ∃ k, xs = [.bl k] ∧ Q (.int (if k then 1 else 0)) H) ∨ (∃ a n, xs = [.str a] ∧ PySem.intText? a = some n ∧ a.length ≤ 640 ∧ Q (.int n) H)
theorem call_intAll {X : Cx} : CallR X (.type "int") rIntAll := CallR.or call_int1 call_int_str
theorem rel_int {K : PySem.W.Frag} : RelC K rIntAll dInt := by
  intro ds vs H F M Qd Q r s h po
  unfold dInt at h
  split at h
  · obtain ⟨v, e, r1⟩ := r.one
    unfold Rp at r1
    subst e r1
    exact .inl (.inl ⟨_, rfl, po.fin s h (by unfold Rp; rfl)⟩)
  · obtain ⟨v, e, r1⟩ := r.one
    unfold Rp at r1
    subst e r1
    exact .inl (.inr ⟨_, rfl, po.fin s h (by unfold Rp; rfl)⟩)
  · obtain ⟨v, e, r1⟩ := r.one
    unfold Rp at r1
    subst e r1
    obtain ⟨n, h1, h2, h3⟩ := h
    exact .inr ⟨_, n, rfl, h1, by rw [mkS_len]; exact h2, po.fin s h3 (by unfold Rp; rfl)⟩
  · exact h.elim
/-- the signs of an int's text -/
def numI (i : Int) : List Nat := tl (Str.ofString (toString i))
def dStr : DRC := fun ds M Q => match ds with
  | [.int i] => i.natAbs.log2 < 1920 ∧ Q (.str (numI i)) M
  | _ => False
theorem rel_str {K : PySem.W.Frag} : RelC K (fun xs H Q => ∃ i : Int, xs = [.int i] ∧ i.natAbs.log2 < 1920 ∧ Q (.str (toString i)) H) dStr := by
  intro ds vs H F M Qd Q r s h po
  unfold dStr at h
  split at h
  · obtain ⟨v, e, r1⟩ := r.one
    unfold Rp at r1
    subst e r1
    refine ⟨_, rfl, h.1, po.fin s h.2 ?_⟩
    unfold Rp numI
    rw [mkS_of]
  · exact h.elim
def intsOf : List D → Option (List Int)
  | [] => some []
  | .int i :: ds => (intsOf ds).map (i :: ·)
  | _ :: _ => none
theorem intsOf_at {K : PySem.W.Frag} {F : Hp} : ∀ {ds : List D} {vs : List V} {ns : List Int}, RpL K F ds vs → intsOf ds = some ns → vs = ns.map V.int
  | [], _, _, r, e => by unfold RpL at r; cases e; exact r
  | d :: ds, _, _, r, e => by
    unfold RpL at r
    obtain ⟨x, xs, e1, r1, r2⟩ := r
    cases d <;> first | (cases e; done) | skip
    unfold intsOf at e
    cases q : intsOf ds with
    | none => rw [q] at e; cases e
    | some ms =>
      rw [q] at e
      cases e
      unfold Rp at r1
      rw [e1, r1, intsOf_at r2 q]
      rfl
theorem intsOf_map : ∀ ns : List Int, intsOf (ns.map D.int) = some ns
  | [] => rfl
  | n :: ns => by
    show (intsOf (ns.map D.int)).map (n :: ·) = _
    rw [intsOf_map ns]
    rfl
def dSum : DRC := fun ds M Q => match ds with
  | [d] => match (dseq M d).bind intsOf with
    | some ns => Q (.int ns.sum) M
    | none => False
  | _ => False
theorem rel_sum {K : PySem.W.Frag} : RelC K (rSum K) dSum := by
  intro ds vs H F M Qd Q r s h po
  unfold dSum at h
  split at h
  · obtain ⟨v, e, r1⟩ := r.one
    subst e
    split at h
    · rename_i ns e
      obtain ⟨es, e1, e2⟩ := Option.bind_eq_some_iff.mp e
      obtain ⟨a, xs, e3, h1, r2⟩ := dseq_at s r1 e1
      have e4 := intsOf_at r2 e2
      subst e3 e4
      exact ⟨a, ns, rfl, .inl (.inl h1), po.fin s h (by unfold Rp; rfl)⟩
    · exact h.elim
  · exact h.elim
def blsOf : List D → Option (List Bool)
  | [] => some []
  | .bl i :: ds => (blsOf ds).map (i :: ·)
  | _ :: _ => none
theorem blsOf_at {K : PySem.W.Frag} {F : Hp} : ∀ {ds : List D} {vs : List V} {ns : List Bool}, RpL K F ds vs → blsOf ds = some ns → vs = ns.map V.bl
  | [], _, _, r, e => by unfold RpL at r; cases e; exact r
  | d :: ds, _, _, r, e => by
    unfold RpL at r
    obtain ⟨x, xs, e1, r1, r2⟩ := r
    cases d <;> first | (cases e; done) | skip
    unfold blsOf at e
    cases q : blsOf ds with
    | none => rw [q] at e; cases e
    | some ms =>
      rw [q] at e
      cases e
      unfold Rp at r1
      rw [e1, r1, blsOf_at r2 q]
      rfl
theorem blsOf_map : ∀ ns : List Bool, blsOf (ns.map D.bl) = some ns
  | [] => rfl
  | n :: ns => by
    show (blsOf (ns.map D.bl)).map (n :: ·) = _
    rw [blsOf_map ns]
    rfl
def dAll : DRC := fun ds M Q => match ds with
  | [d] => match (dseq M d).bind blsOf with
    | some ns => Q (.bl (ns.all id)) M
    | none => False
  | _ => False
def dAny : DRC := fun ds M Q => match ds with
  | [d] => match (dseq M d).bind blsOf with
    | some ns => Q (.bl (ns.any id)) M
    | none => False
  | _ => False
theorem rel_all {K : PySem.W.Frag} : RelC K (rAll K) dAll := by
  intro ds vs H F M Qd Q r s h po
  unfold dAll at h
  split at h
  · obtain ⟨v, e, r1⟩ := r.one
    subst e
    split at h
    · rename_i ns e
      obtain ⟨es, e1, e2⟩ := Option.bind_eq_some_iff.mp e
      obtain ⟨a, xs, e3, h1, r2⟩ := dseq_at s r1 e1
      have e4 := blsOf_at r2 e2
      subst e3 e4
      exact ⟨a, ns, rfl, .inl (.inl h1), po.fin s h (by unfold Rp; rfl)⟩
    · exact h.elim
  · exact h.elim
theorem rel_any {K : PySem.W.Frag} : RelC K (rAny K) dAny := by
  intro ds vs H F M Qd Q r s h po
  unfold dAny at h
  split at h
  · obtain ⟨v, e, r1⟩ := r.one
    subst e
    split at h
    · rename_i ns e
      obtain ⟨es, e1, e2⟩ := Option.bind_eq_some_iff.mp e
      obtain ⟨a, xs, e3, h1, r2⟩ := dseq_at s r1 e1
      have e4 := blsOf_at r2 e2
      subst e3 e4
      exact ⟨a, ns, rfl, .inl (.inl h1), po.fin s h (by unfold Rp; rfl)⟩
    · exact h.elim
  · exact h.elim
/-- the items of a list -/
def dlis (M : Mu) : D → Option (List D)
  | .src ns => some (ns.map .int)
  | d => dseq M d
theorem dlis_at {K : PySem.W.Frag} {H F : Hp} {M : Mu} {d : D} {v : V} {ds : List D} (s : Sv K H F M) (r : Rp K F d v) (h : dlis M d = some ds) : ∃ a xs, v = .ref a ∧ SqL K H a xs ∧ RpL K F ds xs := by
  have old : dseq M d = some ds → ∃ a xs, v = .ref a ∧ SqL K H a xs ∧ RpL K F ds xs := fun q => by
    obtain ⟨a, xs, e, h1, r1⟩ := dseq_at s r q
    exact ⟨a, xs, e, .inl (.inl h1), r1⟩
  cases d with
  | src ns =>
    unfold Rp at r
    obtain ⟨a, e, h1⟩ := r
    cases h
    exact ⟨a, _, e, s.fh.sqL h1, RpL.ints⟩
  | _ => exact old h
/-- tuple(..), list(..) -/
def dTupOf : DRC := fun ds M Q => match ds with
  | [.tup es] => Q (.tup es) M
  | [d] => match dlis M d with
    | some es => Q (.tup es) M
    | none => False
  | _ => False
def rTupOf (K : PySem.W.Frag) : List V → Hp → VK → Prop := fun xs H Q => ∃ p ys, xs = [.ref p] ∧ ((SqL K H p ys ∧ ∀ l, H l = none → Q (.ref l) (upd H l (.tup ys))) ∨ (SqT K H p ys ∧ Q (.ref p) H))
theorem rel_tupOf {K : PySem.W.Frag} : RelC K (rTupOf K) dTupOf := by
  intro ds vs H F M Qd Q r s h po
  unfold dTupOf at h
  split at h
  · obtain ⟨v, e, r1⟩ := r.one
    subst e
    unfold Rp at r1
    obtain ⟨a, xs, e1, h1, r2⟩ := r1
    subst e1
    exact ⟨a, xs, rfl, .inr ⟨s.fh.sqT h1, po.fin s h (by unfold Rp; exact ⟨a, xs, rfl, h1, r2⟩)⟩⟩
  · obtain ⟨v, e, r1⟩ := r.one
    subst e
    split at h
    · rename_i es e
      obtain ⟨a, xs, e1, hs, r2⟩ := dlis_at s r1 e
      subst e1
      exact ⟨a, xs, rfl, .inl ⟨hs, fun l hl => newT_at s r2 h po hl⟩⟩
    · exact h.elim
  · exact h.elim
def dListOf (mu : Bool) : DRC := fun ds M Q => match ds with
  | [d] => match dits M d with
    | some es => dNew mu es M Q
    | none => False
  | _ => False
def rListOf (K : PySem.W.Frag) : List V → Hp → VK → Prop := fun xs H Q => ∃ p ys, xs = [.ref p] ∧ (SqL K H p ys ∨ SqT K H p ys) ∧ ∀ l, H l = none → Q (.ref l) (upd H l (.lst ys))
theorem rel_listOf {K : PySem.W.Frag} {mu : Bool} : RelC K (rListOf K) (dListOf mu) := by
  intro ds vs H F M Qd Q r s h po
  unfold dListOf at h
  split at h
  · obtain ⟨v, e, r1⟩ := r.one
    subst e
    split at h
    · rename_i es e
      obtain ⟨a, xs, e1, hs, r2⟩ := dits_at s r1 e
      subst e1
      exact ⟨a, xs, rfl, hs, fun l hl => dNew_at s r2 h po hl⟩
    · exact h.elim
  · exact h.elim
/-- divmod -/
def dDivmod : DRC := fun ds M Q => match ds with
  | [.int i, .int j] => CDivP i j ∧ Q (.tup [.int (i / j), .int (i % j)]) M
  | _ => False
theorem rel_divmod {K : PySem.W.Frag} : RelC K (fun xs H Q => ∃ i j, xs = [.int i, .int j] ∧ CDivP i j ∧ ∀ p, H p = none → Q (.ref p) (upd H p (.tup [.int (i / j), .int (i % j)]))) dDivmod := by
  intro ds vs H F M Qd Q r s h po
  unfold dDivmod at h
  split at h
  · obtain ⟨v, u, e, r1, r2⟩ := r.two
    unfold Rp at r1 r2
    subst e r1 r2
    exact ⟨_, _, rfl, h.1, fun l hl => newT_at s (RpL.cons (by unfold Rp; rfl) (RpL.cons (by unfold Rp; rfl) RpL.nil)) h.2 po hl⟩
  · exact h.elim
/-- isinstance of a built-in class -/
def tyNm (M : Mu) : D → Option String
  | .non => some "NoneType"
  | .bl _ => some "bool"
  | .int _ => some "int"
  | .str _ => some "str"
  | .tup _ => some "tuple"
  | .lst _ => some "list"
  | .src _ => some "list"
  | .ref a => match M a with
    | some (.lst _) => some "list"
    | some (.dic _) => some "dict"
    | none => none
  | .ty _ => none
def dIsi : DRC := fun ds M Q => match ds with
  | [d, .ty T] => match (tyNm M d).bind fun n => kitB n T with
    | some b => Q (.bl b) M
    | none => False
  | _ => False
theorem ty_sqL {K : PySem.W.Frag} {H : Hp} {a : Addr} {xs : List V} (h : SqL K H a xs) : TyX K H (.ref a) (.type "list") := by
  rcases h with (h | ⟨o, h⟩) | ⟨o, its, n, h, c, _⟩
  · exact .base (.lst h)
  · exact .base (.frz h)
  · exact .kList h c
theorem ty_sqT {K : PySem.W.Frag} {H : Hp} {a : Addr} {xs : List V} (h : SqT K H a xs) : TyX K H (.ref a) (.type "tuple") := by
  rcases h with (h | ⟨o, h⟩) | ⟨o, its, n, h, c, _⟩
  · exact .base (.tup h)
  · exact .fTuple h
  · exact .kTuple h c
theorem tyNm_at {K : PySem.W.Frag} {H F : Hp} {M : Mu} {d : D} {v : V} {n : String} (s : Sv K H F M) (r : Rp K F d v) (h : tyNm M d = some n) : TyX K H v (.type n) := by
  cases d with
  | non => unfold Rp at r; subst r; cases h; exact .base .non
  | bl b => unfold Rp at r; subst r; cases h; exact .base (.bl b)
  | int b => unfold Rp at r; subst r; cases h; exact .base (.int b)
  | str b => unfold Rp at r; subst r; cases h; exact .base (.str _)
  | tup b => unfold Rp at r; obtain ⟨a, xs, e, h1, _⟩ := r; subst e; cases h; exact ty_sqT (s.fh.sqT h1)
  | lst b => unfold Rp at r; obtain ⟨a, xs, e, h1, _⟩ := r; subst e; cases h; exact .base (.lst (s.fh _ _ h1))
  | src b => unfold Rp at r; obtain ⟨a, e, h1⟩ := r; subst e; cases h; exact ty_sqL (s.fh.sqL h1)
  | ty b => cases h
  | ref a =>
    unfold Rp at r
    subst r
    have h' : (match M a with | some (.lst _) => some "list" | some (.dic _) => some "dict" | none => none) = some n := h
    cases q : M a with
    | none => rw [q] at h'; cases h'
    | some o =>
      rw [q] at h'
      obtain ⟨ho, e2, r2⟩ := s.mu a _ q
      cases o with
      | lst ds =>
        obtain ⟨xs, e3, _⟩ := r2
        subst e3
        cases h'
        exact .base (.lst e2)
      | dic ds =>
        obtain ⟨xs, e3, _⟩ := r2
        subst e3
        cases h'
        exact .base (.dK e2)
theorem rel_isi {K : PySem.W.Frag} : RelC K (rIsi K) dIsi := by
  intro ds vs H F M Qd Q r s h po
  unfold dIsi at h
  split at h
  · obtain ⟨v, u, e, r1, r2⟩ := r.two
    unfold Rp at r2
    subst e r2
    split at h
    · rename_i b e
      obtain ⟨n, e1, e2⟩ := Option.bind_eq_some_iff.mp e
      exact ⟨v, _, _, _, b, rfl, .ty _, tyNm_at s r1 e1, kit_ty e2, po.fin s h (by unfold Rp; rfl)⟩
    · exact h.elim
  · exact h.elim

/-! ### subscripts -/
def dIdx : DR2 := fun x y M Q => match y with
  | .int i => match x with
    | .str cs => match atI cs i with
      | some c => cs.length ≤ sizeLine ∧ Q (.str [c]) M
      | none => False
    | x => match (dits M x).bind fun ds => atI ds i with
      | some d => Q d M
      | none => False
  | _ => False
theorem atI_rel {K : PySem.W.Frag} {F : Hp} {ds : List D} {xs : List V} {i : Int} {d : D} (r : RpL K F ds xs) (h : atI ds i = some d) : ∃ v, atI xs i = some v ∧ Rp K F d v := by
  unfold atI at h ⊢
  rw [r.len] at h
  cases q : ixN xs.length i with
  | none => rw [q] at h; cases h
  | some j =>
    rw [q] at h
    exact r.get (i := j) h
theorem rel_idx {K : PySem.W.Frag} : Rel2 K (rIx K) dIdx := by
  intro x y vx vy H F M Qd Q rx ry s h po
  unfold dIdx at h
  split at h
  · unfold Rp at ry
    subst ry
    split at h
    · unfold Rp at rx
      subst rx
      split at h
      · rename_i c e
        exact .inr (.inr ⟨_, _, c, rfl, rfl, by rw [mkS_len]; exact h.1, e, po.fin s h.2 (by unfold Rp; rfl)⟩)
      · exact h.elim
    · split at h
      · rename_i d e
        obtain ⟨ds, e1, e2⟩ := Option.bind_eq_some_iff.mp e
        obtain ⟨a, xs, e3, hs, r1⟩ := dits_at s rx e1
        obtain ⟨v, e4, r2⟩ := atI_rel r1 e2
        subst e3
        rcases hs with hs | hs
        · exact .inl ⟨a, xs, _, v, rfl, rfl, hs, e4, po.fin s h r2⟩
        · exact .inr (.inl ⟨a, xs, _, v, rfl, rfl, hs, e4, po.fin s h r2⟩)
      · exact h.elim
  · exact h.elim
section
variable {X : Cx} {a b c : Expr} {ua ub uc : DTE} {pos : Pos}
theorem de_idx (ha : DE X a ua) (hb : DE X b ub) (hs : PlainIx b := by intro _ _; rfl) : DE X (.Subscript a b pos) (dOp dIdx ua ub) := PE.weak (pe_ix ix_seq ha hb hs) (bin2 rel_idx)
end

/-! ### slices -/
abbrev DTO := DEnv → Mu → (Option Int → Mu → Prop) → Prop
def dNoP : DTO := fun _ M Q => Q none M
def dPart (u : DTE) : DTO := fun δ M Q => u δ M fun d M1 => match d with
  | .int i => Q (some i) M1
  | _ => False
def PostO (K : PySem.W.Frag) (H F : Hp) (M : Mu) (Qd : Option Int → Mu → Prop) (Q : Option Int → Hp → Prop) : Prop := ∀ o M' F' H', Qd o M' → Go H F M H' F' M' → Sv K H' F' M' → Q o H'
def liftO (K : PySem.W.Frag) (u : DTO) : TO := fun σ H Q => ∃ δ M F Qd, ERel K F δ σ ∧ Sv K H F M ∧ u δ M Qd ∧ PostO K H F M Qd Q
/-- the part of a list from lo to hi -/
def cutL {α : Type} (xs : List α) (lo hi : Option Int) : List α := (xs.drop (HT.sIx xs.length 0 lo)).take (HT.sIx xs.length xs.length hi - HT.sIx xs.length 0 lo)
def dSlV (mu : Bool) (x : D) (lo hi : Option Int) (M : Mu) (Q : DK) : Prop := match x with
  | .str cs => cs.length ≤ sizeLine ∧ Q (.str (cutL cs lo hi)) M
  | .tup ds => Q (.tup (cutL ds lo hi)) M
  | x => match dlis M x with
    | some ds => dNew mu (cutL ds lo hi) M Q
    | none => False
def dSl (mu : Bool) (u : DTE) (ul uh : DTO) : DTE := fun δ M Q => u δ M fun x M1 => ul δ M1 fun lo M2 => uh δ M2 fun hi M3 => dSlV mu x lo hi M3 Q
theorem cutL_rel {K : PySem.W.Frag} {F : Hp} {ds : List D} {xs : List V} (r : RpL K F ds xs) (lo hi : Option Int) : RpL K F (cutL ds lo hi) (cutV xs lo hi) := by
  unfold cutL cutV
  rw [r.len]
  exact (r.drop _).take _
theorem cutL_str (cs : List Nat) (lo hi : Option Int) : cutS (mkS cs) lo hi = mkS (cutL cs lo hi) := by
  unfold cutS cutL
  rw [mkS_len]
  rfl
def rSlAll (K : PySem.W.Frag) : V → Option Int → Option Int → Hp → VK → Prop := fun x lo hi H Q => (rSlS x lo hi H Q ∨ rSlA K x lo hi H Q) ∨ rSlL K x lo hi H Q
theorem sl_all {X : Cx} : SlR X (rSlAll X.K) := SlR.or (SlR.or sl_str sl_tupA) sl_list
theorem rel_sl {K : PySem.W.Frag} {mu : Bool} {x : D} {vx : V} {lo hi : Option Int} {H F : Hp} {M : Mu} {Qd : DK} {Q : VK} (rx : Rp K F x vx) (s : Sv K H F M) (h : dSlV mu x lo hi M Qd) (po : Post K H F M Qd Q) : rSlAll K vx lo hi H Q := by
  unfold dSlV at h
  split at h
  · unfold Rp at rx
    exact .inl (.inl ⟨_, rx, by rw [mkS_len]; exact h.1, po.fin s h.2 (by unfold Rp; rw [cutL_str])⟩)
  · rename_i ds
    unfold Rp at rx
    obtain ⟨a, xs, e, h1, r⟩ := rx
    refine .inl (.inr ⟨a, xs, e, s.fh.sqT h1, fun z => ?_, fun _ p hp => newT_at s (cutL_rel r lo hi) h po hp⟩)
    refine po.fin s h ?_
    have e2 : cutL ds lo hi = ds := by
      unfold cutL
      rw [r.len, z.1, z.2, List.drop_zero, Nat.sub_zero]
      exact List.take_of_length_le (Nat.le_of_eq r.len)
    rw [e2]
    unfold Rp
    exact ⟨a, xs, rfl, h1, r⟩
  · split at h
    · rename_i ds e
      obtain ⟨a, xs, e1, hs, r1⟩ := dlis_at s rx e
      exact .inr ⟨a, xs, e1, hs, fun p hp => dNew_at s (cutL_rel r1 lo hi) h po hp⟩
    · exact h.elim
section
variable {X : Cx} {e : Expr} {lo hi : Option Expr} {u : DTE} {ul uh : DTO} {pos p2 : Pos}
theorem do_none : PO X none (liftO X.K dNoP) := ⟨fun pins s σ H Q I h => po_none.run pins s σ H Q I (by
  obtain ⟨δ, M, F, Qd, hE, s, hu, p⟩ := h
  exact p _ _ _ _ hu Go.refl s)⟩
theorem do_some {e : Expr} (h : DE X e u) : PO X (some e) (liftO X.K (dPart u)) := ⟨fun pins s σ H Q I hq => (po_some h).run pins s σ H Q I (by
  obtain ⟨δ, M, F, Qd, hE, s, hu, p⟩ := hq
  refine ⟨δ, M, F, _, hE, s, hu, fun d M' F' v H' q g s' r => ?_⟩
  cases d <;> first | exact False.elim q | skip
  unfold Rp at r
  subst r
  exact ⟨_, rfl, p _ _ _ _ q g s'⟩)⟩
theorem de_slice (mu : Bool) (h : DE X e u) (hl : PO X lo (liftO X.K ul)) (hh : PO X hi (liftO X.K uh)) : DE X (.Subscript e (.Slice lo hi none p2) pos) (dSl mu u ul uh) := PE.weak (pe_slice sl_all h hl hh) fun σ H Q h => by
  obtain ⟨δ, M, F, Qd, hE, s, hu, p⟩ := h
  refine ⟨δ, M, F, _, hE, s, hu, fun d M1 F1 v H1 q g s1 r => ?_⟩
  refine ⟨δ, M1, F1, _, hE.mono g.le, s1, q, fun lo M2 F2 H2 q2 g2 s2 => ?_⟩
  refine ⟨δ, M2, F2, _, hE.mono (g.le.trans g2.le), s2, q2, fun hi M3 F3 H3 q3 g3 s3 => ?_⟩
  exact rel_sl (r.mono (g2.le.trans g3.le)) s3 q3 (p.go (g.trans (g2.trans g3)))
end

/-! ### methods of texts -/
def DM := D → List D → Mu → DK → Prop
def RelM (K : PySem.W.Frag) (T : String) (r : V → List V → Hp → VK → Prop) (rd : DM) : Prop := ∀ x vx ds vs H F M Qd Q, Rp K F x vx → RpL K F ds vs → Sv K H F M → rd x ds M Qd → Post K H F M Qd Q → r vx vs H Q
/-- of what type the receiver is -/
def isTy (M : Mu) (T : String) (d : D) : Prop := tyNm M d = some T
def dBM (T : String) (rd : DM) (uo : DTE) (ua : DTA) : DTE := fun δ M Q => uo δ M fun x M1 => tyNm M1 x = some T ∧ ua δ M1 fun ds M2 => rd x ds M2 Q
theorem tyV_str {K : PySem.W.Frag} {H F : Hp} {M : Mu} {d : D} {v : V} (s : Sv K H F M) (r : Rp K F d v) (h : tyNm M d = some "str") : tyV K "str" v H := by
  cases d with
  | str cs => unfold Rp at r; subst r; rfl
  | ref a =>
    have h' : (match M a with | some (.lst _) => some "list" | some (.dic _) => some "dict" | none => none) = some "str" := h
    cases q : M a with
    | none => rw [q] at h'; cases h'
    | some o => rw [q] at h'; cases o <;> exact absurd (Option.some.inj h') (by decide)
  | ty _ => cases h
  | _ => exact absurd (Option.some.inj h) (by decide)
theorem tyV_list {K : PySem.W.Frag} {H F : Hp} {M : Mu} {d : D} {v : V} (s : Sv K H F M) (r : Rp K F d v) (h : tyNm M d = some "list") : tyV K "list" v H := by
  cases d with
  | lst ds =>
    unfold Rp at r
    obtain ⟨a, xs, e, h1, _⟩ := r
    subst e
    exact .inl ⟨rfl, xs, .inl (.inl (s.fh _ _ h1))⟩
  | src ns =>
    unfold Rp at r
    obtain ⟨a, e, h1⟩ := r
    subst e
    exact .inl ⟨rfl, _, s.fh.sqL h1⟩
  | ref a =>
    have h' : (match M a with | some (.lst _) => some "list" | some (.dic _) => some "dict" | none => none) = some "list" := h
    unfold Rp at r
    subst r
    cases q : M a with
    | none => rw [q] at h'; cases h'
    | some o =>
      rw [q] at h'
      cases o with
      | lst ds =>
        obtain ⟨ho, e2, xs, e3, _⟩ := s.mu a _ q
        subst e3
        exact .inl ⟨rfl, xs, .inl (.inl e2)⟩
      | dic _ => exact absurd (Option.some.inj h') (by decide)
  | ty _ => cases h
  | _ => exact absurd (Option.some.inj h) (by decide)
section
variable {X : Cx} {o e : Expr} {es : List Expr} {uo : DTE} {ua : DTA} {name : Str} {apos cpos : Pos} {T id : String} {r : V → List V → Hp → VK → Prop} {rd : DM}
theorem de_bm0 (hT : ∀ {H F : Hp} {M : Mu} {d : D} {v : V}, Sv X.K H F M → Rp X.K F d v → tyNm M d = some T → tyV X.K T v H) (hr : RelM X.K T r rd) (pa : PlainAttrs T) (slot : Slot T name id) (hty : typeOf (.builtin id) = pure (.type "method_descriptor")) (hm : MtR X id r) (ho : DE X o uo)
    (hbase : attributeBase o name X.env (eval o X.env) = eval o X.env := by rfl) (hline : (apos.endLine == cpos.line) = true := by rfl) : DE X (.Call (.Attribute o name apos) [] [] cpos) (dBM T rd uo dNil) := PE.weak (pe_bm0 pa slot hty hm ho hbase hline) fun σ H Q h => by
  obtain ⟨δ, M, F, Qd, hE, s, hu, p⟩ := h
  refine ⟨δ, M, F, _, hE, s, hu, fun d M1 F1 v H1 q g s1 r1 => ?_⟩
  exact ⟨hT s1 r1 q.1, hr _ _ _ _ _ _ _ _ _ r1 RpL.nil s1 q.2 (p.go g)⟩
theorem de_bm (hT : ∀ {H F : Hp} {M : Mu} {d : D} {v : V}, Sv X.K H F M → Rp X.K F d v → tyNm M d = some T → tyV X.K T v H) (hr : RelM X.K T r rd) (pa : PlainAttrs T) (slot : Slot T name id) (hty : typeOf (.builtin id) = pure (.type "method_descriptor")) (hm : MtR X id r) (ho : DE X o uo) (ha : DA X (e :: es) ua)
    (hbase : attributeBase o name X.env (eval o X.env) = eval o X.env := by rfl)
    (hfew : ((backTo cpos (starEach (e :: es) X.env)).all (fun x => !x.1) && (backToKw cpos (keywordEach [] X.env)).all (fun x => x.1.isSome)
      && decide ((e :: es).length + ([] : List Keyword).length + (if ([] : List Keyword).isEmpty then 0 else 1) < 30)) = true := by rfl)
    (hline : (apos.endLine == cpos.line) = true := by rfl) (hs : starEach (e :: es) X.env = (false, eval e X.env) :: starEach es X.env := by rfl) (hplain : (backTo cpos (starEach es X.env)).any (·.1) = false := by rfl) :
    DE X (.Call (.Attribute o name apos) (e :: es) [] cpos) (dBM T rd uo ua) := PE.weak (pe_bm pa slot hty hm ho ha hbase hfew hline hs hplain) fun σ H Q h => by
  obtain ⟨δ, M, F, Qd, hE, s, hu, p⟩ := h
  refine ⟨δ, M, F, _, hE, s, hu, fun d M1 F1 v H1 q g s1 r1 => ?_⟩
  refine ⟨hT s1 r1 q.1, δ, M1, F1, _, hE.mono g.le, s1, q.2, fun ds M2 F2 vs H2 q2 g2 s2 r2 => ?_⟩
  exact hr _ _ _ _ _ _ _ _ _ (r1.mono g2.le) r2 s2 q2 (p.go (g.trans g2))
end
/-- list.append -/
def dAppend : DM := fun x ds M Q => match x, ds with
  | .ref a, [d] => match M a with
    | some (.lst es) => es.length < sizeLine ∧ Q .non (mset M a (.lst (es ++ [d])))
    | _ => False
  | _, _ => False
theorem rel_append {K : PySem.W.Frag} : RelM K "list" rAppend dAppend := by
  intro x vx ds vs H F M Qd Q rx rs s h po
  unfold dAppend at h
  split at h
  · obtain ⟨v, e, r1⟩ := rs.one
    unfold Rp at rx
    subst e rx
    split at h
    · rename_i es q
      obtain ⟨ho, e2, xs, e3, r2⟩ := s.mu _ _ q
      subst e3
      obtain ⟨s1, g1⟩ := s.wr (o' := .lst (es ++ [_])) (ho := .lst (xs ++ [v])) q ⟨_, rfl, r2.snoc r1⟩
      exact ⟨_, xs, v, rfl, rfl, e2, by rw [← r2.len]; exact h.1, po _ _ _ _ _ h.2 g1 s1 (by unfold Rp; rfl)⟩
    · exact h.elim
  · exact h.elim
/-- list.pop() -/
def dPop : DM := fun x ds M Q => match x, ds with
  | .ref a, [] => match M a with
    | some (.lst es) => match es[es.length - 1]? with
      | some d => Q d (mset M a (.lst es.dropLast))
      | none => False
    | _ => False
  | _, _ => False
theorem rel_pop {K : PySem.W.Frag} : RelM K "list" rPop dPop := by
  intro x vx ds vs H F M Qd Q rx rs s h po
  unfold dPop at h
  split at h
  · unfold RpL at rs
    unfold Rp at rx
    subst rs rx
    split at h
    · rename_i es q
      obtain ⟨ho, e2, xs, e3, r2⟩ := s.mu _ _ q
      subst e3
      split at h
      · rename_i d e
        obtain ⟨v, e4, r3⟩ := r2.get e
        obtain ⟨s1, g1⟩ := s.wr (o' := .lst es.dropLast) (ho := .lst xs.dropLast) q ⟨_, rfl, r2.last⟩
        exact ⟨_, xs, v, rfl, rfl, e2, by rw [← r2.len]; exact e4, po _ _ _ _ _ h g1 s1 r3⟩
      · exact h.elim
    · exact h.elim
  · exact h.elim
/-- list.extend(a list) -/
def dExtend : DM := fun x ds M Q => match x, ds with
  | .ref a, [d] => match M a, dseq M d with
    | some (.lst es), some fs => es.length + fs.length ≤ sizeLine ∧ Q .non (mset M a (.lst (es ++ fs)))
    | _, _ => False
  | _, _ => False
theorem rel_extend {K : PySem.W.Frag} : RelM K "list" rExtend dExtend := by
  intro x vx ds vs H F M Qd Q rx rs s h po
  unfold dExtend at h
  split at h
  · obtain ⟨v, e, r1⟩ := rs.one
    unfold Rp at rx
    subst e rx
    split at h
    · rename_i es fs q q2
      obtain ⟨ho, e2, xs, e3, r2⟩ := s.mu _ _ q
      subst e3
      obtain ⟨b, ys, e4, h4, r4⟩ := dseq_at s r1 q2
      subst e4
      obtain ⟨s1, g1⟩ := s.wr (o' := .lst (es ++ fs)) (ho := .lst (xs ++ ys)) q ⟨_, rfl, r2.app r4⟩
      exact ⟨_, b, xs, ys, rfl, rfl, e2, h4, by rw [← r2.len, ← r4.len]; exact h.1, po _ _ _ _ _ h.2 g1 s1 (by unfold Rp; rfl)⟩
    · exact h.elim
  · exact h.elim
/-- list.reverse() -/
def dReverse : DM := fun x ds M Q => match x, ds with
  | .ref a, [] => match M a with
    | some (.lst es) => Q .non (mset M a (.lst es.reverse))
    | _ => False
  | _, _ => False
theorem rel_reverse {K : PySem.W.Frag} : RelM K "list" rReverse dReverse := by
  intro x vx ds vs H F M Qd Q rx rs s h po
  unfold dReverse at h
  split at h
  · unfold RpL at rs
    unfold Rp at rx
    subst rs rx
    split at h
    · rename_i es q
      obtain ⟨ho, e2, xs, e3, r2⟩ := s.mu _ _ q
      subst e3
      obtain ⟨s1, g1⟩ := s.wr (o' := .lst es.reverse) (ho := .lst xs.reverse) q ⟨_, rfl, r2.rev⟩
      exact ⟨_, xs, rfl, rfl, e2, po _ _ _ _ _ h g1 s1 (by unfold Rp; rfl)⟩
    · exact h.elim
  · exact h.elim
/-! texts: by lists of codes -/
def dSplit (mu : Bool) : DM := fun x ds M Q => match x, ds with
  | .str a, [.str b] => b ≠ [] ∧ a.length + 2 ≤ sizeLine ∧ b.all (· < 256) = true ∧ dNew mu ((spl b 0 [] a).map .str) M Q
  | _, _ => False
def rSplit : V → List V → Hp → VK → Prop := fun x xs H Q => ∃ a b, x = .str a ∧ xs = [.str b] ∧ (b.length == 0) = false ∧ a.length + 2 ≤ sizeLine ∧ rNewStrs (Txt.split a b) H Q
theorem RpL.ofStrs {K : PySem.W.Frag} {F : Hp} : ∀ {ys : List Str}, RpL K F ((ys.map tl).map D.str) (ys.map V.str)
  | [] => RpL.nil
  | y :: ys => RpL.cons (by unfold Rp; rw [mkS_of]) RpL.ofStrs
theorem rel_split {K : PySem.W.Frag} {mu : Bool} : RelM K "str" rSplit (dSplit mu) := by
  intro x vx ds vs H F M Qd Q rx rs s h po
  unfold dSplit at h
  split at h
  · rename_i a b
    obtain ⟨v, e, r1⟩ := rs.one
    unfold Rp at rx r1
    subst e r1 rx
    obtain ⟨h1, h2, h3, h4⟩ := h
    refine ⟨_, _, rfl, rfl, ?_, by rw [mkS_len]; exact h2, fun p hp => ?_⟩
    · rw [mkS_len]
      cases b with
      | nil => exact absurd rfl h1
      | cons c b => rfl
    · have e2 : (Txt.split (mkS a) (mkS b)).map tl = spl b 0 [] a := split_spl _ _ h1 (kind_ok (by simpa [mkS] using h3))
      have r2 : RpL K F ((spl b 0 [] a).map .str) ((Txt.split (mkS a) (mkS b)).map V.str) := by rw [← e2]; exact RpL.ofStrs
      exact dNew_at s r2 h4 po hp
  · exact h.elim
def strsOf : List D → Option (List (List Nat))
  | [] => some []
  | .str i :: ds => (strsOf ds).map (i :: ·)
  | _ :: _ => none
theorem strsOf_at {K : PySem.W.Frag} {F : Hp} : ∀ {ds : List D} {vs : List V} {ns : List (List Nat)}, RpL K F ds vs → strsOf ds = some ns → vs = (ns.map mkS).map V.str
  | [], _, _, r, e => by unfold RpL at r; cases e; exact r
  | d :: ds, _, _, r, e => by
    unfold RpL at r
    obtain ⟨x, xs, e1, r1, r2⟩ := r
    cases d <;> first | (cases e; done) | skip
    unfold strsOf at e
    cases q : strsOf ds with
    | none => rw [q] at e; cases e
    | some ms =>
      rw [q] at e
      cases e
      unfold Rp at r1
      rw [e1, r1, strsOf_at r2 q]
      rfl
theorem strsOf_map : ∀ ns : List (List Nat), strsOf (ns.map D.str) = some ns
  | [] => rfl
  | n :: ns => by
    show (strsOf (ns.map D.str)).map (n :: ·) = _
    rw [strsOf_map ns]
    rfl
def dJoin : DM := fun x ds M Q => match x, ds with
  | .str a, [d] => match (dits M d).bind strsOf with
    | some ys => (ys.map (·.length)).sum + ys.length * a.length ≤ 16777216 ∧ Q (.str (joinL a ys)) M
    | none => False
  | _, _ => False
def rJoin (K : PySem.W.Frag) : V → List V → Hp → VK → Prop := fun x xs H Q => ∃ a p, ∃ ys : List Str, x = .str a ∧ xs = [.ref p] ∧ (SqL K H p (ys.map V.str) ∨ SqT K H p (ys.map V.str)) ∧
    (ys.map (·.length)).sum + ys.length * a.length ≤ 16777216 ∧ Q (.str (Txt.join a ys)) H
theorem rel_join {K : PySem.W.Frag} : RelM K "str" (rJoin K) dJoin := by
  intro x vx ds vs H F M Qd Q rx rs s h po
  unfold dJoin at h
  split at h
  · rename_i a d
    obtain ⟨v, e, r1⟩ := rs.one
    unfold Rp at rx
    subst e rx
    split at h
    · rename_i ys e
      obtain ⟨es, e1, e2⟩ := Option.bind_eq_some_iff.mp e
      obtain ⟨p, xs, e3, hs, r2⟩ := dits_at s r1 e1
      have e4 := strsOf_at r2 e2
      subst e3 e4
      refine ⟨mkS a, p, ys.map mkS, rfl, rfl, hs, ?_, po.fin s h.2 ?_⟩
      · have e5 : (ys.map mkS).map (·.length) = ys.map (·.length) := by
          rw [List.map_map]
          exact List.map_congr_left fun y _ => mkS_len y
        rw [e5, List.length_map, mkS_len]
        exact h.1
      · unfold Rp
        congr 1
        refine ext_tl ?_
        rw [join_eq, tl_join, List.map_map]
        have e6 : (ys.map (tl ∘ mkS)) = ys := by
          have : (tl ∘ mkS) = id := by funext y; rfl
          rw [this, List.map_id]
        rw [e6]
        rfl
    · exact h.elim
  · exact h.elim
/-- startswith -/
def dStarts : DM := fun x ds M Q => match x, ds with
  | .str a, [.str b] => Q (.bl (Txt.startswith (mkS a) (mkS b))) M
  | _, _ => False
def r1S (g : Str → Str → V) : V → List V → Hp → VK → Prop := fun x xs H Q => ∃ a b, x = .str a ∧ xs = [.str b] ∧ Q (g a b) H
theorem rel_starts {K : PySem.W.Frag} : RelM K "str" (r1S fun a b => .bl (Txt.startswith a b)) dStarts := by
  intro x vx ds vs H F M Qd Q rx rs s h po
  unfold dStarts at h
  split at h
  · obtain ⟨v, e, r1⟩ := rs.one
    unfold Rp at rx r1
    subst e r1 rx
    exact ⟨_, _, rfl, rfl, po.fin s h (by unfold Rp; rfl)⟩
  · exact h.elim
def dCount : DM := fun x ds M Q => match x, ds with
  | .str a, [.str b] => Q (.int (Txt.count (mkS a) (mkS b))) M
  | _, _ => False
theorem rel_count {K : PySem.W.Frag} : RelM K "str" (r1S fun a b => .int (Txt.count a b)) dCount := by
  intro x vx ds vs H F M Qd Q rx rs s h po
  unfold dCount at h
  split at h
  · obtain ⟨v, e, r1⟩ := rs.one
    unfold Rp at rx r1
    subst e r1 rx
    exact ⟨_, _, rfl, rfl, po.fin s h (by unfold Rp; rfl)⟩
  · exact h.elim
end DL

namespace DL
open PySem PySem.Spec PyProof.Rows L2 TL

/-! ### weaker knowledge: a list that may change is said to stay, a thing is forgotten -/
def Wk (d : D) (M : Mu) (d' : D) (M' : Mu) : Prop := ∀ (K : PySem.W.Frag) (H F : Hp) (v : V), Sv K H F M → Rp K F d v → ∃ F', Sv K H F' M' ∧ Go H F M H F' M' ∧ Rp K F' d' v
theorem Wk.refl {d : D} {M : Mu} : Wk d M d M := fun K H F v s r => ⟨F, s, Go.refl, r⟩
theorem Wk.trans {d d1 d2 : D} {M M1 M2 : Mu} (a : Wk d M d1 M1) (b : Wk d1 M1 d2 M2) : Wk d M d2 M2 := fun K H F v s r => by
  obtain ⟨F1, s1, g1, r1⟩ := a K H F v s r
  obtain ⟨F2, s2, g2, r2⟩ := b K H F1 v s1 r1
  exact ⟨F2, s2, g1.trans g2, r2⟩
def Sub (M' M : Mu) : Prop := ∀ b o, M' b = some o → M b = some o
theorem Sub.refl {M : Mu} : Sub M M := fun _ _ h => h
theorem Sub.trans {M M1 M2 : Mu} (a : Sub M M1) (b : Sub M1 M2) : Sub M M2 := fun c o h => b c o (a c o h)
theorem Sub.set {M M' : Mu} {p : Addr} {o : DO} (h : Sub M M') (n : M p = none) : Sub M (mset M' p o) := fun b u e => by
  rw [mset_ne (fun z => by subst z; rw [n] at e; cases e)]
  exact h b u e
theorem Sub.none {M M' : Mu} {p : Addr} (h : Sub M M') (n : M' p = none) : M p = none := by
  cases e : M p with
  | none => rfl
  | some o => rw [h p o e] at n; cases n
theorem Sv.sub {K : PySem.W.Frag} {H F : Hp} {M M' : Mu} (s : Sv K H F M) (h : Sub M' M) : Sv K H F M' ∧ Go H F M H F M' := by
  refine ⟨⟨s.fh, fun b o e => ?_, fun a o e => s.mu a o (h a o e)⟩, ⟨Le.refl F, fun b o e m => ⟨e, ?_, fun z => z⟩⟩⟩
  · exact h.none (s.fm b o e)
  · exact h.none m
theorem Wk.drop {d : D} {M M' : Mu} (h : Sub M' M) : Wk d M d M' := fun K H F v s r => by
  obtain ⟨s1, g1⟩ := s.sub h
  exact ⟨F, s1, g1, r⟩
theorem Sv.frz {K : PySem.W.Frag} {H F : Hp} {M M' : Mu} {a : Addr} {ds : List D} (s : Sv K H F M) (e : M a = some (.lst ds)) (h : Sub M' M) (n : M' a = none) : ∃ xs, Sv K H (upd F a (.lst xs)) M' ∧ Go H F M H (upd F a (.lst xs)) M' ∧ RpL K (upd F a (.lst xs)) ds xs := by
  obtain ⟨ho, e2, xs, e3, r⟩ := s.mu a _ e
  subst e3
  have hF : F a = none := by
    cases q : F a with
    | none => rfl
    | some u => rw [s.fm a u q] at e; cases e
  have l : Le F (upd F a (.lst xs)) := Le.new hF
  refine ⟨xs, ⟨fun b u q => ?_, fun b u q => ?_, fun b u q => ?_⟩, ⟨l, fun b u q m => ⟨q, ?_, fun z => ?_⟩⟩, r.mono l⟩
  · by_cases hb : b = a
    · subst hb; rw [upd_same] at q; cases q; exact e2
    · rw [upd_ne hb] at q; exact s.fh b u q
  · by_cases hb : b = a
    · subst hb; exact n
    · rw [upd_ne hb] at q; exact h.none (s.fm b u q)
  · obtain ⟨ho, e4, r4⟩ := s.mu b u (h b u q)
    exact ⟨ho, e4, r4.mono l⟩
  · exact h.none m
  · have hb : b ≠ a := fun z => by subst z; rw [m] at e; cases e
    rw [upd_ne hb]; exact z
theorem Wk.frz {M M' : Mu} {a : Addr} {ds : List D} (e : M a = some (.lst ds)) (h : Sub M' M) (n : M' a = none) : Wk (.ref a) M (.lst ds) M' := fun K H F v s r => by
  obtain ⟨xs, s1, g1, r1⟩ := s.frz e h n
  unfold Rp at r
  obtain ⟨ho, e2, ys, e3, _⟩ := s.mu a _ e
  refine ⟨_, s1, g1, ?_⟩
  unfold Rp
  exact ⟨a, xs, r, upd_same, r1⟩
theorem Sub.drop {M : Mu} {a : Addr} : Sub (mdrop M a) M := fun b o e => by
  unfold mdrop at e
  by_cases hb : b = a
  · rw [if_pos hb] at e; cases e
  · rw [if_neg hb] at e; exact e
/-- wanted of a value up to weaker knowledge -/
def Wq (Q : DK) : DK := fun d M => ∃ d' M', Wk d M d' M' ∧ Q d' M'
theorem Wq.now {Q : DK} {d : D} {M : Mu} (h : Q d M) : Wq Q d M := ⟨d, M, Wk.refl, h⟩
theorem Wq.drop {Q : DK} {d : D} {M M' : Mu} (h : Sub M' M) (q : Q d M') : Wq Q d M := ⟨d, M', Wk.drop h, q⟩
theorem Wq.frz {Q : DK} {a : Addr} {ds : List D} {M M' : Mu} (e : M a = some (.lst ds)) (h : Sub M' M) (n : M' a = none) (q : Q (.lst ds) M') : Wq Q (.ref a) M := ⟨_, M', Wk.frz e h n, q⟩
theorem Post.wq {K : PySem.W.Frag} {H F : Hp} {M : Mu} {Qd : DK} {Q : VK} (p : Post K H F M Qd Q) : Post K H F M (Wq Qd) Q := fun d M' F' v H' q g s r => by
  obtain ⟨d2, M2, w, q⟩ := q
  obtain ⟨F2, s2, g2, r2⟩ := w K H' F' v s r
  exact p d2 M2 F2 v H' q (g.trans g2) s2 r2
def dWq (u : DTE) : DTE := fun δ M Q => u δ M (Wq Q)
theorem de_wq {X : Cx} {e : Expr} {u : DTE} (h : DE X e u) : DE X e (dWq u) := PE.weak h fun σ H Q h => by
  obtain ⟨δ, M, F, Qd, hE, s, hu, p⟩ := h
  exact ⟨δ, M, F, _, hE, s, hu, p.wq⟩

/-! ### targets -/
abbrev DTg := D → DEnv → Mu → (DEnv → Mu → Prop) → Prop
def dgN (i : Nat) : DTg := fun d δ M Q => Q (δ.set i (some d)) M
def dgAll : List DTg → List D → DEnv → Mu → (DEnv → Mu → Prop) → Prop
  | [], [], δ, M, Q => Q δ M
  | t :: ts, d :: ds, δ, M, Q => t d δ M fun δ' M' => dgAll ts ds δ' M' Q
  | _, _, _, _, _ => False
def dgT (ts : List DTg) : DTg := fun d δ M Q => match d with
  | .tup ds => ds.length = ts.length ∧ dgAll ts ds δ M Q
  | _ => False
/-- vs: slots of a block's own; what is wanted tells that nothing else was stored -/
def RelG (K : PySem.W.Frag) (vs : List Nat) (g : TG) (dg : DTg) : Prop := ∀ d x δ σ σ0 H F M Qd Q, Rp K F d x → ERel K F δ σ → Sv K H F M → dg d δ M Qd → PostE K H F M Qd (fun σ2 H2 => wipe σ2 vs = wipe σ0 vs → Q σ2 H2) → wipe σ vs = wipe σ0 vs → g x σ H Q
def RelGs (K : PySem.W.Frag) (vs : List Nat) (g : TGs) (dg : List DTg) : Prop := ∀ ds xs δ σ σ0 H F M Qd Q, RpL K F ds xs → ERel K F δ σ → Sv K H F M → dgAll dg ds δ M Qd → PostE K H F M Qd (fun σ2 H2 => wipe σ2 vs = wipe σ0 vs → Q σ2 H2) → wipe σ vs = wipe σ0 vs → g xs σ H Q
theorem wipe_in {σ : L2.St} {i : Nat} : ∀ {vs : List Nat}, i ∈ vs → i < σ.length → (wipe σ vs)[i]? = some none
  | v :: vs, h, hl => by
    unfold wipe
    by_cases e : v = i
    · subst e
      rw [List.getElem?_set_self (by rw [wipe_length]; exact hl)]
    · rw [List.getElem?_set_ne e]
      exact wipe_in ((List.mem_cons.mp h).resolve_left fun z => e z.symm) hl
theorem wipe_set {σ : L2.St} {j : Nat} {v : Option V} {vs : List Nat} (h : j ∈ vs) : wipe (σ.set j v) vs = wipe σ vs := by
  refine List.ext_getElem? fun i => ?_
  by_cases hi : i ∈ vs
  · by_cases hl : i < σ.length
    · rw [wipe_in hi (by rw [List.length_set]; exact hl), wipe_in hi hl]
    · rw [List.getElem?_eq_none (by rw [wipe_length, List.length_set]; omega), List.getElem?_eq_none (by rw [wipe_length]; omega)]
  · rw [wipe_out hi, wipe_out hi, List.getElem?_set_ne (fun z => hi (by rw [← z]; exact h))]
theorem relg_name {K : PySem.W.Frag} {vs : List Nat} (i : Nat) (hi : i ∈ vs := by decide) : RelG K vs (gName i) (dgN i) := fun d x δ σ σ0 H F M Qd Q r e s h po w => po _ _ _ _ _ h Go.refl s (e.set r) (by rw [wipe_set hi]; exact w)
theorem relgs_nil {K : PySem.W.Frag} {vs : List Nat} : RelGs K vs gNil [] := fun ds xs δ σ σ0 H F M Qd Q r e s h po w => by
  cases ds with
  | nil =>
    unfold RpL at r
    exact ⟨r, po _ _ _ _ _ h Go.refl s e w⟩
  | cons _ _ => exact False.elim h
theorem relgs_cons {K : PySem.W.Frag} {vs : List Nat} {g : TG} {gs : TGs} {dg : DTg} {dgs : List DTg} (h1 : RelG K vs g dg) (h2 : RelGs K vs gs dgs) : RelGs K vs (gCons g gs) (dg :: dgs) := fun ds xs δ σ σ0 H F M Qd Q r e s h po w => by
  cases ds with
  | nil => exact False.elim h
  | cons d ds =>
    unfold RpL at r
    obtain ⟨x, ys, e1, r1, r2⟩ := r
    refine ⟨x, ys, e1, ?_⟩
    refine h1 d x δ σ σ0 H F M _ _ r1 e s h (fun δ2 M2 F2 σ2 H2 q2 g2 s2 e2 w2 => ?_) w
    exact h2 ds ys δ2 σ2 σ0 H2 F2 M2 Qd Q (r2.mono g2.le) e2 s2 q2 (po.go g2) w2
theorem relg_tup {K : PySem.W.Frag} {vs : List Nat} {gs : TGs} {dgs : List DTg} (n : Nat) (hn : dgs.length = n) (h : RelGs K vs gs dgs) : RelG K vs (gTup K n gs) (dgT dgs) := fun d x δ σ σ0 H F M Qd Q r e s hd po w => by
  cases d <;> first | exact False.elim hd | skip
  rename_i ds
  unfold Rp at r
  obtain ⟨a, xs, e1, h1, r1⟩ := r
  exact ⟨a, xs, e1, s.fh.sqT h1, by rw [← r1.len, hd.1, hn], h ds xs δ σ σ0 H F M Qd Q r1 e s hd.2 po w⟩

/-! ### statements -/
def dNx : DTS := fun D δ M => D.nx δ M
def dBk : DTS := fun D δ M => D.bk δ M
def dCt : DTS := fun D δ M => D.ct δ M
def dSq (t u : DTS) : DTS := fun D δ M => t { D with nx := u D } δ M
def dNo : DTS := fun _ _ _ => False
def dEx (u : DTE) : DTS := fun D δ M => u δ M fun _ M1 => D.nx δ M1
def dRt (u : DTE) : DTS := fun D δ M => u δ M D.rt
def dRtN : DTS := fun D _ M => D.rt .non M
def dIfS (c : DTT) (t u : DTS) : DTS := fun D δ M => c δ M fun b M1 => match b with
  | true => t D δ M1
  | false => u D δ M1
def dAs (u : DTE) (g : DTg) : DTS := fun D δ M => u δ M fun d M1 => g d δ M1 D.nx
def dAu (i : Nat) (rd : DR2) (u : DTE) : DTS := fun D δ M => match δ[i]? with
  | some (some x) => u δ M fun y M1 => rd x y M1 fun z M2 => D.nx (δ.set i (some z)) M2
  | _ => False
def dPar (i j : Nat) (ua : DTA) : DTS := fun D δ M => ua δ M fun ds M1 => match ds with
  | [v, w] => D.nx ((δ.set i (some v)).set j (some w)) M1
  | _ => False
def dWhile (c : DTT) (b : DTS) : DTS := fun D δ M => ∃ W : Nat → DEnv → Mu → Prop, (∃ m, W m δ M) ∧ ∀ m δ M, W m δ M →
  c δ M fun k M1 => match k with
    | true => b { D with nx := fun δ' M' => ∃ m', m' < m ∧ W m' δ' M', ct := fun δ' M' => ∃ m', m' < m ∧ W m' δ' M', bk := D.nx } δ M1
    | false => D.nx δ M1
section
variable {X : Cx} {st : Stmt} {rest : List Stmt} {t u : DTS} {e : Expr} {ue : DTE} {pos : Pos}
theorem dss_nil : DSs X [] dNx := PSs.weak pss_nil fun D σ H h => by
  obtain ⟨δ, M, F, Dd, hE, s, hu, p⟩ := h
  exact p.nx _ _ _ _ _ hu Go.refl s hE
theorem dss_cons (h1 : DS X st t) (h2 : DSs X rest u) : DSs X (st :: rest) (dSq t u) := PSs.weak (pss_cons h1 h2) fun D σ H h => by
  obtain ⟨δ, M, F, Dd, hE, s, hu, p⟩ := h
  exact ⟨δ, M, F, { Dd with nx := u Dd }, hE, s, hu, ⟨fun δ' M' F' σ' H' q g s' e => ⟨δ', M', F', Dd, e, s', q, p.go g⟩, p.rt, p.bk, p.ct⟩⟩
theorem dss_one (h1 : DS X st t) : DSs X [st] t := pss_one h1
theorem ds_pass : DS X (.Pass pos) dNx := PS.weak ps_pass fun D σ H h => by
  obtain ⟨δ, M, F, Dd, hE, s, hu, p⟩ := h
  exact p.nx _ _ _ _ _ hu Go.refl s hE
theorem ds_break : DS X (.Break pos) dBk := PS.weak ps_break fun D σ H h => by
  obtain ⟨δ, M, F, Dd, hE, s, hu, p⟩ := h
  exact p.bk _ _ _ _ _ hu Go.refl s hE
theorem ds_cont : DS X (.Continue pos) dCt := PS.weak ps_continue fun D σ H h => by
  obtain ⟨δ, M, F, Dd, hE, s, hu, p⟩ := h
  exact p.ct _ _ _ _ _ hu Go.refl s hE
theorem ds_doc {x : Str} {j : Nat} {pos' : Pos} : DS X (.Expr (.Constant (.str x) j pos) pos') dNx := PS.weak ps_doc fun D σ H h => by
  obtain ⟨δ, M, F, Dd, hE, s, hu, p⟩ := h
  exact p.nx _ _ _ _ _ hu Go.refl s hE
theorem ds_never : DS X st dNo := PS.weak ps_never fun D σ H h => by
  obtain ⟨δ, M, F, Dd, hE, s, hu, p⟩ := h
  exact hu
theorem dss_never : DSs X rest dNo := PSs.weak pss_never fun D σ H h => by
  obtain ⟨δ, M, F, Dd, hE, s, hu, p⟩ := h
  exact hu
theorem ds_expr (he : DE X e ue) (hs : swapsWith e none pos.line X.env = pure false := by rfl) : DS X (.Expr e pos) (dEx ue) := PS.weak (ps_expr he hs) fun D σ H h => by
  obtain ⟨δ, M, F, Dd, hE, s, hu, p⟩ := h
  exact ⟨δ, M, F, _, hE, s, hu, fun d M' F' v H' q g s' r => p.nx _ _ _ _ _ q g s' (hE.mono g.le)⟩
theorem ds_ret (he : DE X e ue) : DS X (.Return (some e) pos) (dRt ue) := PS.weak (ps_ret he) fun D σ H h => by
  obtain ⟨δ, M, F, Dd, hE, s, hu, p⟩ := h
  exact ⟨δ, M, F, _, hE, s, hu, p.rt⟩
theorem ds_retN : DS X (.Return none pos) dRtN := PS.weak ps_retN fun D σ H h => by
  obtain ⟨δ, M, F, Dd, hE, s, hu, p⟩ := h
  exact p.rt _ _ _ _ _ hu Go.refl s (by unfold Rp; rfl)
theorem ds_if {c : Expr} {a b : List Stmt} {tc : DTT} (hc : DT X c tc) (ha : DSs X a t) (hb : DSs X b u) : DS X (.If c a b pos) (dIfS tc t u) := PS.weak (ps_if hc ha hb) fun D σ H h => by
  obtain ⟨δ, M, F, Dd, hE, s, hu, p⟩ := h
  refine ⟨δ, M, F, _, hE, s, hu, fun d M' F' H' q g s' => ?_⟩
  cases d with
  | true => exact ⟨δ, M', F', Dd, hE.mono g.le, s', q, p.go g⟩
  | false => exact ⟨δ, M', F', Dd, hE.mono g.le, s', q, p.go g⟩
theorem ds_set {i : Nat} {x : Str} {pos' : Pos} (hN : X.N.Nodup) (he : DE X e ue) (hi : X.N[i]? = some x := by rfl) (hx : Loc X.env.scope x := by first | exact Or.inl rfl | exact Or.inr rfl) (hs : swapsWith e (some (.Name x pos')) pos.line X.env = pure false := by rfl) (hf : X.fn x = true ∨ X.env.scope.names.lookup x = some .local := by first | exact .inl rfl | exact .inr rfl | assumption) :
    DS X (.Assign [.Name x pos'] e pos) (dAs ue (dgN i)) := PS.weak (ps_set hN hi hx he hs hf) fun D σ H h => by
  obtain ⟨δ, M, F, Dd, hE, s, hu, p⟩ := h
  exact ⟨δ, M, F, _, hE, s, hu, fun d M' F' v H' q g s' r => p.nx _ _ _ _ _ q g s' ((hE.mono g.le).set r)⟩
theorem ds_asg {tg : Expr} {g : TG} {dg : DTg} {vs : List Nat} (hg : PG X tg g) (hr : RelG X.K vs g dg) (he : DE X e ue) (hs : swapsWithSole [tg] e pos.line X.env = pure false := by rfl) (hw : swappedStores [tg] e X.env = pure none := by rfl)
    (h1 : (assignEach [tg] X.env).map (·.2) = [assign tg X.env] := by rfl) : DS X (.Assign [tg] e pos) (dAs ue dg) := PS.weak (ps_asg he hg hs hw h1) fun D σ H h => by
  obtain ⟨δ, M, F, Dd, hE, s, hu, p⟩ := h
  refine ⟨δ, M, F, _, hE, s, hu, fun d M' F' v H' q g s' r => ?_⟩
  exact hr d v δ σ σ H' F' M' _ _ r (hE.mono g.le) s' q (fun δ2 M2 F2 σ2 H2 q2 g2 s2 e2 _ => p.nx _ _ _ _ _ q2 (g.trans g2) s2 e2) rfl
theorem ds_aug {i : Nat} {x : Str} {op : Operator} {ti : TIp} {rd : DR2} {pos' : Pos} (hN : X.N.Nodup) (ho : PIp X op ti) (hr : Rel2 X.K ti rd) (he : DE X e ue) (hi : X.N[i]? = some x := by rfl) (hx : Loc X.env.scope x := by first | exact Or.inl rfl | exact Or.inr rfl) (hf : X.fn x = true ∨ X.env.scope.names.lookup x = some .local := by first | exact .inl rfl | exact .inr rfl | assumption) :
    DS X (.AugAssign (.Name x pos') op e pos) (dAu i rd ue) := PS.weak (ps_aug hN hi hx he ho hf) fun D σ H h => by
  obtain ⟨δ, M, F, Dd, hE, s, hu, p⟩ := h
  have hu' : (match δ[i]? with | some (some x) => ue δ M fun y M1 => rd x y M1 fun z M2 => Dd.nx (δ.set i (some z)) M2 | _ => False) := hu
  split at hu'
  · rename_i d ed
    obtain ⟨v, e2, r⟩ := hE.2 i d ed
    refine ⟨v, e2, δ, M, F, _, hE, s, hu', fun y M1 F1 vy H1 q g s1 r1 => ?_⟩
    refine hr _ _ _ _ _ _ _ _ _ (r.mono g.le) r1 s1 q fun z M2 F2 vz H2 q2 g2 s2 r2 => ?_
    exact p.nx _ _ _ _ _ q2 (g.trans g2) s2 ((hE.mono (g.le.trans g2.le)).set r2)
  · exact hu'.elim
theorem ds_par {i j : Nat} {x y : Str} {a b : Expr} {ua : DTA} {px py pt : Pos} {kt k2 : Nat} {pt2 : Pos} (hc : X.calm = true) (hN : X.N.Nodup) (ha : DA X [a, b] ua) (hi : X.N[i]? = some x := by rfl) (hj : X.N[j]? = some y := by rfl) (hij : i ≠ j := by decide)
    (hx : X.env.scope.names.lookup x = some .local := by rfl) (hy : X.env.scope.names.lookup y = some .local := by rfl)
    (hw : swappedStores [.Tuple [.Name x px, .Name y py] kt pt] (.Tuple [a, b] k2 pt2) X.env = pure (some [x, y]) := by rfl)
    (hs : swapsWithSole [.Tuple [.Name x px, .Name y py] kt pt] (.Tuple [a, b] k2 pt2) pos.line X.env = pure false := by rfl) :
    DS X (.Assign [.Tuple [.Name x px, .Name y py] kt pt] (.Tuple [a, b] k2 pt2) pos) (dPar i j ua) := PS.weak (ps_par hc hN hi hj hij hx hy ha hw hs) fun D σ H h => by
  obtain ⟨δ, M, F, Dd, hE, s, hu, p⟩ := h
  refine ⟨δ, M, F, _, hE, s, hu, fun ds M1 F1 vs H1 q g s1 r => ?_⟩
  split at q
  · rename_i v w
    obtain ⟨v1, v2, e, r1, r2⟩ := r.two
    exact ⟨v1, v2, e, p.nx _ _ _ _ _ q g s1 (((hE.mono g.le).set r1).set r2)⟩
  · exact q.elim
theorem ds_while {c : Expr} {body : List Stmt} {tc : DTT} {tb : DTS} (hp : PassesOwn (model X.prog X.w) X.A X.env X.xe) (hc : DT X c tc) (hb : DSs X body tb) : DS X (.While c body [] pos) (dWhile tc tb) := PS.weak (ps_while hp hc hb) fun D σ H h => by
  obtain ⟨δ, M, F, Dd, hE, s, ⟨W, ⟨m, w0⟩, turn⟩, p⟩ := h
  refine ⟨fun m σ' H' => ∃ δ' M' F', W m δ' M' ∧ ERel X.K F' δ' σ' ∧ Sv X.K H' F' M' ∧ Go H F M H' F' M', ⟨m, δ, M, F, w0, hE, s, Go.refl⟩, ?_⟩
  rintro m σ1 H1 ⟨δ1, M1, F1, w1, e1, s1, g1⟩
  refine ⟨δ1, M1, F1, _, e1, s1, turn m δ1 M1 w1, fun b M2 F2 H2 q g2 s2 => ?_⟩
  cases b with
  | false =>
    rw [if_neg Bool.false_ne_true]
    exact p.nx _ _ _ _ _ q (g1.trans g2) s2 (e1.mono g2.le)
  | true =>
    rw [if_pos rfl]
    refine ⟨fun σ' H' => ∃ m', m' < m ∧ ∃ δ' M' F', W m' δ' M' ∧ ERel X.K F' δ' σ' ∧ Sv X.K H' F' M' ∧ Go H F M H' F' M', fun σ' H' z => z, ?_⟩
    refine ⟨δ1, M2, F2, _, e1.mono g2.le, s2, q, ⟨?_, p.rt.go (g1.trans g2), p.nx.go (g1.trans g2), ?_⟩⟩
    · intro δ3 M3 F3 σ3 H3 ⟨m', hm, w3⟩ g3 s3 e3
      exact ⟨m', hm, δ3, M3, F3, w3, e3, s3, (g1.trans g2).trans g3⟩
    · intro δ3 M3 F3 σ3 H3 ⟨m', hm, w3⟩ g3 s3 e3
      exact ⟨m', hm, δ3, M3, F3, w3, e3, s3, (g1.trans g2).trans g3⟩
end
/-! += -/
def dIAdd : DR2
  | .int i, .int j, M, Q => Q (.int (i + j)) M
  | .str a, .str b, M, Q => a.length + b.length ≤ sizeLine ∧ Q (.str (a ++ b)) M
  | _, _, _, _ => False
def rIAdd : R2 := fun x y H Q => (rI0 (fun i j => .int (i + j))) x y H Q ∨ (∃ i j, x = .str i ∧ y = .str j ∧ i.length + j.length ≤ sizeLine ∧ Q (.str (i ++ j)) H)
theorem pip_add {X : Cx} : PIp X .Add rIAdd := fun pins s σ H x y v u Q I rx ry h => OpR.or iop_add iop_add_str pins s σ H x y v u Q I rx ry h
theorem pip_sub {X : Cx} : PIp X .Sub (rI0 fun i j => .int (i - j)) := fun pins s σ H x y v u Q I rx ry h => iop_sub pins s σ H x y v u Q I rx ry h
theorem rel_iadd {K : PySem.W.Frag} : Rel2 K rIAdd dIAdd := by
  intro x y vx vy H F M Qd Q rx ry s h po
  unfold dIAdd at h
  split at h
  · unfold Rp at rx ry
    exact .inl ⟨_, _, rx, ry, po.fin s h (by unfold Rp; rfl)⟩
  · unfold Rp at rx ry
    obtain ⟨hl, h⟩ := h
    exact .inr ⟨_, _, rx, ry, by rw [mkS_len, mkS_len]; exact hl, po.fin s h (by unfold Rp; rw [mkS_app])⟩
  · exact h.elim
/-! o[i] = e, o[i] += e -/
def dSetV (o i v : D) (M : Mu) (Q : Mu → Prop) : Prop := match o, i with
  | .ref a, .int k => match M a with
    | some (.lst es) => match ixN es.length k with
      | some j => Q (mset M a (.lst (es.set j v)))
      | none => False
    | _ => False
  | _, _ => False
def PostM (K : PySem.W.Frag) (H F : Hp) (M : Mu) (Qd : Mu → Prop) (Q : Hp → Prop) : Prop := ∀ M' F' H', Qd M' → Go H F M H' F' M' → Sv K H' F' M' → Q H'
theorem rel_setV {K : PySem.W.Frag} {o i v : D} {vo vi vv : V} {H F : Hp} {M : Mu} {Qd : Mu → Prop} {Q : Hp → Prop} (ro : Rp K F o vo) (ri : Rp K F i vi) (rv : Rp K F v vv) (s : Sv K H F M) (h : dSetV o i v M Qd) (po : PostM K H F M Qd Q) : rSetL vo vi vv H Q := by
  unfold dSetV at h
  split at h
  · unfold Rp at ro ri
    subst ro ri
    split at h
    · rename_i es q
      obtain ⟨ho, e2, xs, e3, r2⟩ := s.mu _ _ q
      subst e3
      split at h
      · rename_i j ej
        obtain ⟨s1, g1⟩ := s.wr (o' := .lst (es.set j v)) (ho := .lst (xs.set j vv)) q ⟨_, rfl, r2.set j rv⟩
        exact ⟨_, xs, _, j, rfl, rfl, e2, by rw [← r2.len]; exact ej, po _ _ _ h g1 s1⟩
      · exact h.elim
    · exact h.elim
  · exact h.elim
def dgSub (uo ui : DTE) : DTg := fun v δ M Q => uo δ M fun o M1 => ui δ M1 fun i M2 => dSetV o i v M2 fun M3 => Q δ M3
def dGetM : DR2 := fun o i M Q => match o, i with
  | .ref a, .int k => match M a with
    | some (.lst es) => match atI es k with
      | some d => Q d M
      | none => False
    | _ => False
  | _, _ => False
theorem rel_getM {K : PySem.W.Frag} : Rel2 K (rIxL K) dGetM := by
  intro x y vx vy H F M Qd Q rx ry s h po
  unfold dGetM at h
  split at h
  · unfold Rp at rx ry
    subst rx ry
    split at h
    · rename_i es q
      obtain ⟨ho, e2, xs, e3, r2⟩ := s.mu _ _ q
      subst e3
      split at h
      · rename_i d ed
        obtain ⟨v, e4, r4⟩ := atI_rel r2 ed
        exact ⟨_, xs, _, v, rfl, rfl, .inl (.inl e2), e4, po.fin s h r4⟩
      · exact h.elim
    · exact h.elim
  · exact h.elim
def dAuS (uo ui ue : DTE) (rd : DR2) : DTS := fun D δ M => uo δ M fun o M1 => ui δ M1 fun i M2 => dGetM o i M2 fun x M3 => ue δ M3 fun y M4 => rd x y M4 fun z M5 => dSetV o i z M5 fun M6 => D.nx δ M6
theorem get_list {X : Cx} : PGet X (rIxL X.K) := by
  intro pins s σ H x y v u Q I rx ry h
  obtain ⟨p, xs, i, z, rfl, rfl, hq, he, q⟩ := h
  cases rx
  obtain ⟨t, rfl⟩ := ry
  obtain ⟨its, r, pl, hz⟩ := I.list hq
  obtain ⟨j, h1, h2, h3, h4, h5⟩ := atI_get he
  obtain ⟨w, ew, rw'⟩ := r.get h2
  have hl := r.length
  have hn := line63
  have fin : EP X pins σ Q w s := ⟨z, H, I, rw', q⟩
  by_cases h0 : 0 ≤ i
  · have hj : i.toNat = j := by
      rw [seqIndex_of h0 h5] at h1
      exact Option.some.inj h1
    exact wpAny_getItem_list pl.isList h0 (by omega) (by rw [hj]; simpa using ew) fin
  · have hj : (i + (its.toArray.size : Int)).toNat = j := by
      rw [seqIndex_neg (by omega) h4] at h1
      rw [List.size_toArray, ← hl]
      exact Option.some.inj h1
    exact wpAny_getItem_list_neg pl.isList (by omega) (by rw [List.size_toArray] <;> omega) (by omega) (by rw [hj]; simpa using ew) fin
theorem relg_sub {K : PySem.W.Frag} {vs : List Nat} {uo ui : DTE} : RelG K vs (gSub (lift K uo) (lift K ui) rSetL) (dgSub uo ui) := fun d x δ σ σ0 H F M Qd Q r e s h po w => by
  refine ⟨δ, M, F, _, e, s, h, fun o M1 F1 vo H1 q1 g1 s1 r1 => ?_⟩
  refine ⟨δ, M1, F1, _, e.mono g1.le, s1, q1, fun i M2 F2 vi H2 q2 g2 s2 r2 => ?_⟩
  exact rel_setV (r1.mono g2.le) r2 (r.mono (g1.le.trans g2.le)) s2 q2 fun M3 F3 H3 q3 g3 s3 => po _ _ _ _ _ q3 (g1.trans (g2.trans g3)) s3 (e.mono (g1.le.trans (g2.le.trans g3.le))) w
section
variable {X : Cx} {o i e : Expr} {uo ui ue : DTE} {pos tpos : Pos}
theorem ds_setIx (ho : DE X o uo) (hi : DE X i ui) (he : DE X e ue) (ha : ∀ v, assign (.Subscript o i tpos) X.env v = (do
      let ov ← holding [v] (eval o X.env)
      let iv ← holding [v, ov] (eval i X.env)
      standAt tpos
      holding [v, ov, iv] (setItem ov iv v)
      release [v, ov, iv] []) := by intro _; rfl) (hs : swapsWithSole [.Subscript o i tpos] e pos.line X.env = pure false := by rfl) (hw : swappedStores [.Subscript o i tpos] e X.env = pure none := by rfl)
    (h1 : (assignEach [.Subscript o i tpos] X.env).map (·.2) = [assign (.Subscript o i tpos) X.env] := by rfl) : DS X (.Assign [.Subscript o i tpos] e pos) (dAs ue (dgSub uo ui)) := ds_asg (vs := []) (pg_sub ho hi set_list ha) relg_sub he hs hw h1
theorem ds_augIx {op : Operator} {ti : TIp} {rd : DR2} (hp : PIp X op ti) (hr : Rel2 X.K ti rd) (ho : DE X o uo) (hi : DE X i ui) (he : DE X e ue)
    (ha : ∀ ov iv new, augStore i ov iv new = (do holding [new, ov, iv] (setItem ov iv new); release [new, ov, iv] []; pure .next) := by intros; rfl) : DS X (.AugAssign (.Subscript o i tpos) op e pos) (dAuS uo ui ue rd) := PS.weak (ps_augS ho hi get_list he hp set_list ha) fun D σ H h => by
  obtain ⟨δ, M, F, Dd, hE, s, hu, p⟩ := h
  refine ⟨δ, M, F, _, hE, s, hu, fun od M1 F1 vo H1 q1 g1 s1 r1 => ?_⟩
  refine ⟨δ, M1, F1, _, hE.mono g1.le, s1, q1, fun id M2 F2 vi H2 q2 g2 s2 r2 => ?_⟩
  have ro := r1.mono g2.le
  have e2 := hE.mono (g1.le.trans g2.le)
  refine rel_getM _ _ _ _ _ _ _ _ _ ro r2 s2 q2 fun x M3 F3 vx H3 q3 g3 s3 r3 => ?_
  refine ⟨δ, M3, F3, _, e2.mono g3.le, s3, q3, fun y M4 F4 vy H4 q4 g4 s4 r4 => ?_⟩
  refine hr _ _ _ _ _ _ _ _ _ (r3.mono g4.le) r4 s4 q4 fun z M5 F5 vz H5 q5 g5 s5 r5 => ?_
  exact rel_setV (ro.mono (g3.le.trans (g4.le.trans g5.le))) (r2.mono (g3.le.trans (g4.le.trans g5.le))) r5 s5 q5 fun M6 F6 H6 q6 g6 s6 =>
    p.nx _ _ _ _ _ q6 (g1.trans (g2.trans (g3.trans (g4.trans (g5.trans g6))))) s6 (e2.mono (g3.le.trans (g4.le.trans (g5.le.trans g6.le))))
end
end DL

namespace DL
open PySem PySem.Spec PyProof.Rows L2 TL

/-! ### what is walked: its items, and what must stay true of what may change -/
abbrev DTI := DEnv → Mu → (List D → (Mu → Prop) → Mu → Prop) → Prop
def PostI (K : PySem.W.Frag) (H F : Hp) (M : Mu) (Rd : List D → (Mu → Prop) → Mu → Prop) (R : It → Hp → Prop) : Prop :=
  ∀ ds g M' F' H' J G Y, Rd ds g M' → Go H F M H' F' M' → Sv K H' F' M' → Walk J ds.length G Y →
    (∀ H2 F2 M2, Go H' F' M' H2 F2 M2 → Sv K H2 F2 M2 → g M2 → G H2) →
    (∀ i H1 F1 M1 x H2, i < ds.length → Go H' F' M' H1 F1 M1 → Sv K H1 F1 M1 → g M1 → Y i H1 x H2 → ∃ F2, Sv K H2 F2 M1 ∧ Go H1 F1 M1 H2 F2 M1 ∧ ∃ d, ds[i]? = some d ∧ Rp K F2 d x) → R J H'
def liftI (K : PySem.W.Frag) (u : DTI) : TI := fun σ H R => ∃ δ M F Rd, ERel K F δ σ ∧ Sv K H F M ∧ u δ M Rd ∧ PostI K H F M Rd R
abbrev DI (X : Cx) (tg iter : Expr) (u : DTI) : Prop := PI X tg iter (liftI X.K u)
theorem PI.weak {X : Cx} {tg e : Expr} {t t' : TI} (h : PI X tg e t) (i : ∀ σ H R, t' σ H R → t σ H R) : PI X tg e t' := ⟨fun pins s σ H R I q => h.run pins s σ H R I (i _ _ _ q)⟩
/-- range -/
def rngD (lo : Int) (n : Nat) : List D := (List.range n).map fun k => .int (lo + (k : Nat))
def diR1 (ua : DTA) : DTI := fun δ M R => ua δ M fun ds M1 => match ds with
  | [.int j] => -(2 ^ 62) ≤ j ∧ j < 2 ^ 62 ∧ R (rngD 0 j.toNat) (fun _ => True) M1
  | _ => False
def diR2 (ua : DTA) : DTI := fun δ M R => ua δ M fun ds M1 => match ds with
  | [.int i, .int j] => (-(2 ^ 62) ≤ i ∧ i < 2 ^ 62 ∧ -(2 ^ 62) ≤ j ∧ j < 2 ^ 62) ∧ R (rngD i (j - i).toNat) (fun _ => True) M1
  | _ => False
theorem rngD_len (lo : Int) (n : Nat) : (rngD lo n).length = n := by unfold rngD; rw [List.length_map, List.length_range]
theorem rngD_at {lo : Int} {n i : Nat} (h : i < n) : (rngD lo n)[i]? = some (.int (lo + (i : Nat))) := by
  unfold rngD
  rw [List.getElem?_map, List.getElem?_range h]
  rfl
theorem post_rng {K : PySem.W.Frag} {H F H1 F1 : Hp} {M M1 : Mu} {Rd : List D → (Mu → Prop) → Mu → Prop} {R : It → Hp → Prop} {lo : Int} {n : Nat} (po : PostI K H F M Rd R) (q : Rd (rngD lo n) (fun _ => True) M1) (g : Go H F M H1 F1 M1) (s : Sv K H1 F1 M1) : R (Itr lo n) H1 := by
  refine po (rngD lo n) _ M1 F1 H1 (Itr lo n) (fun _ => True) (YFn fun i => .int (lo + i)) q g s (by rw [rngD_len]; exact walk_range) (fun _ _ _ _ _ _ => trivial) fun i H2 F2 M2 x H3 hi g2 s2 _ y => ?_
  rw [rngD_len] at hi
  obtain ⟨e1, e2⟩ := y
  subst e1 e2
  exact ⟨F2, s2, Go.refl, _, rngD_at hi, by unfold Rp; rfl⟩
section
variable {X : Cx} {tg : Expr} {a b e : Expr} {ua : DTA} {ue : DTE} {p pos : Pos}
theorem di_r1 (hg : Gl X "range") (hm : X.mg "range" = none) (ha : DA X [a] ua) (hs : starEach [a] X.env = [(false, eval a X.env)] := by rfl) : DI X tg (.Call (.Name "range" p) [a] [] pos) (diR1 ua) := PI.weak (pi_range1 hg hm ha hs) fun σ H R h => by
  obtain ⟨δ, M, F, Rd, hE, s, hu, po⟩ := h
  refine ⟨δ, M, F, _, hE, s, hu, fun ds M1 F1 vs H1 q g s1 r => ?_⟩
  split at q
  · obtain ⟨v, e1, r1⟩ := r.one
    unfold Rp at r1
    subst r1
    exact ⟨_, e1, q.1, q.2.1, post_rng po q.2.2 g s1⟩
  · exact q.elim
theorem di_r2 (hg : Gl X "range") (hm : X.mg "range" = none) (ha : DA X [a, b] ua) (hs : starEach [a, b] X.env = [(false, eval a X.env), (false, eval b X.env)] := by rfl) (hs2 : starEach [b] X.env = [(false, eval b X.env)] := by rfl) : DI X tg (.Call (.Name "range" p) [a, b] [] pos) (diR2 ua) := PI.weak (pi_range2 hg hm ha hs hs2) fun σ H R h => by
  obtain ⟨δ, M, F, Rd, hE, s, hu, po⟩ := h
  refine ⟨δ, M, F, _, hE, s, hu, fun ds M1 F1 vs H1 q g s1 r => ?_⟩
  split at q
  · obtain ⟨v, u, e1, r1, r2⟩ := r.two
    unfold Rp at r1 r2
    subst r1 r2
    exact ⟨_, _, e1, q.1, post_rng po q.2 g s1⟩
  · exact q.elim
end
/-! a list, a tuple, a text -/
def iSeq (K : PySem.W.Frag) (tl : TE) : TI := fun σ H R => tl σ H fun x H1 => (∃ a, x = .ref a ∧ (((∃ xs, SqL K H1 a xs) ∧ R (Itl K a) H1) ∨ ((∃ xs, SqT K H1 a xs) ∧ R (Itt K a) H1))) ∨ ∃ z, x = .str z ∧ R (Its z) H1
theorem pi_seq {X : Cx} {tg l : Expr} {te : TE} (hl : PE X l te) : PI X tg l (iSeq X.K te) := by
  refine ⟨fun pins s σ H R I h => ?_⟩
  refine thn (hl.run pins s σ H _ I h) fun v s1 ⟨x, H1, I1, r1, q1⟩ => ?_
  rcases q1 with ⟨a, e, ⟨⟨xs, hq⟩, q⟩ | ⟨⟨xs, hq⟩, q⟩⟩ | ⟨z, e, q⟩
  · subst e
    cases r1
    obtain ⟨its, rv, p, hz⟩ := I1.list hq
    refine wpAny_pyIter_list p.isList ?_
    refine ⟨s1.heap.objs.size, [s1.heap.objs.size], _, _, H1, rfl, I1.kept (t' := s1.toks) fun b o e => Heap.get?_push_of_some _ e, turn_list a _, ⟨_, Heap.get?_push_size _ rfl, rfl, rfl⟩, fun b hb => ?_, q⟩
    have e : b = s1.heap.objs.size := by simpa using hb
    subst e
    exact I1.fpOk (Nat.le_refl _) (I1.hok.fresh (Nat.le_refl _))
  · subst e
    cases r1
    obtain ⟨its, rv, p, hz⟩ := I1.tuple hq
    refine wpAny_pyIter_tuple (show s1.heap.IsTuple a its.toArray from p) ?_
    refine ⟨s1.heap.objs.size, [s1.heap.objs.size], _, _, H1, rfl, I1.kept (t' := s1.toks) fun b o e => Heap.get?_push_of_some _ e, turn_tuple a _, ⟨_, Heap.get?_push_size _ rfl, rfl, rfl⟩, fun b hb => ?_, q⟩
    have e : b = s1.heap.objs.size := by simpa using hb
    subst e
    exact I1.fpOk (Nat.le_refl _) (I1.hok.fresh (Nat.le_refl _))
  · subst e
    obtain ⟨t, rfl⟩ := r1
    cases ha : z.cps.all (· < 128)
    · exact wpAny_pyIter_wide ha (pi_one (tk := s1.toks) I1 _ (turn_str _ z t "str_iterator" (.inr rfl)) ⟨_, Heap.get?_push_size _ rfl, rfl, rfl⟩ q)
    · exact wpAny_pyIter_ascii ha (pi_one (tk := s1.toks) I1 _ (turn_str _ z t "str_ascii_iterator" (.inl rfl)) ⟨_, Heap.get?_push_size _ rfl, rfl, rfl⟩ q)
/-- a list that may change: it must stand as it was at each turn -/
def diSeq (ue : DTE) : DTI := fun δ M R => ue δ M fun d M1 => match d with
  | .tup ds => R ds (fun _ => True) M1
  | .lst ds => R ds (fun _ => True) M1
  | .src ns => R (ns.map .int) (fun _ => True) M1
  | .str cs => R (cs.map fun c => .str [c]) (fun _ => True) M1
  | .ref a => match M1 a with
    | some (.lst ds) => R ds (fun M2 => M2 a = some (.lst ds)) M1
    | _ => False
  | _ => False
theorem di_seq {X : Cx} {tg e : Expr} {ue : DTE} (h : DE X e ue) : DI X tg e (diSeq ue) := PI.weak (pi_seq h) fun σ H R h => by
  obtain ⟨δ, M, F, Rd, hE, s, hu, po⟩ := h
  refine ⟨δ, M, F, _, hE, s, hu, fun d M1 F1 v H1 q g s1 r => ?_⟩
  have stay : ∀ {ds : List D} {xs : List V} {a : Addr} {g' : Mu → Prop}, Rd ds g' M1 → RpL X.K F1 ds xs → (∀ H2 F2 M2, Go H1 F1 M1 H2 F2 M2 → Sv X.K H2 F2 M2 → g' M2 → SqL X.K H2 a xs) → (∀ H2 F2 M2, Go H1 F1 M1 H2 F2 M2 → Sv X.K H2 F2 M2 → g' M2 → True) → SqL X.K H1 a xs → R (Itl X.K a) H1 := fun {ds xs a g'} q r hs _ h0 => by
    refine po ds g' M1 F1 H1 (Itl X.K a) (fun H => SqL X.K H a xs) (YAt xs) q g s1 (by rw [r.len]; exact walk_list) hs fun i H2 F2 M2 x H3 hi g2 s2 _ y => ?_
    obtain ⟨e1, e2⟩ := y
    subst e1
    obtain ⟨d, e3, r3⟩ := (r.mono g2.le).getV e2
    exact ⟨F2, s2, Go.refl, d, e3, r3⟩
  cases d with
  | tup ds =>
    unfold Rp at r
    obtain ⟨a, xs, e1, h1, r1⟩ := r
    subst e1
    refine .inl ⟨a, rfl, .inr ⟨⟨xs, s1.fh.sqT h1⟩, ?_⟩⟩
    refine po ds _ M1 F1 H1 (Itt X.K a) (fun H => SqT X.K H a xs) (YAt xs) q g s1 (by rw [r1.len]; exact walk_tup) (fun H2 F2 M2 g2 s2 _ => s2.fh.sqT (g2.le.sqT h1)) fun i H2 F2 M2 x H3 hi g2 s2 _ y => ?_
    obtain ⟨e1, e2⟩ := y
    subst e1
    obtain ⟨d, e3, r3⟩ := (r1.mono g2.le).getV e2
    exact ⟨F2, s2, Go.refl, d, e3, r3⟩
  | lst ds =>
    unfold Rp at r
    obtain ⟨a, xs, e1, h1, r1⟩ := r
    subst e1
    have hl : SqL X.K F1 a xs := .inl (.inl h1)
    exact .inl ⟨a, rfl, .inl ⟨⟨xs, s1.fh.sqL hl⟩, stay q r1 (fun H2 F2 M2 g2 s2 _ => s2.fh.sqL (g2.le.sqL hl)) (fun _ _ _ _ _ _ => trivial) (s1.fh.sqL hl)⟩⟩
  | src ns =>
    unfold Rp at r
    obtain ⟨a, e1, h1⟩ := r
    subst e1
    exact .inl ⟨a, rfl, .inl ⟨⟨_, s1.fh.sqL h1⟩, stay q RpL.ints (fun H2 F2 M2 g2 s2 _ => s2.fh.sqL (g2.le.sqL h1)) (fun _ _ _ _ _ _ => trivial) (s1.fh.sqL h1)⟩⟩
  | str cs =>
    unfold Rp at r
    subst r
    refine .inr ⟨_, rfl, ?_⟩
    refine po _ _ M1 F1 H1 (Its (mkS cs)) (fun _ => True) _ q g s1 (by rw [List.length_map]; exact walk_str) (fun _ _ _ _ _ _ => trivial) fun i H2 F2 M2 x H3 hi g2 s2 _ y => ?_
    obtain ⟨e1, c, e2, e3⟩ := y
    subst e1 e3
    refine ⟨F2, s2, Go.refl, .str [c], ?_, by unfold Rp; rfl⟩
    rw [List.getElem?_map]
    have e4 : cs[i]? = some c := by simpa [mkS] using e2
    rw [e4]
    rfl
  | ref a =>
    unfold Rp at r
    subst r
    have q' : (match M1 a with | some (.lst ds) => Rd ds (fun M2 => M2 a = some (.lst ds)) M1 | _ => False) := q
    split at q'
    · rename_i ds e
      obtain ⟨ho, e2, xs, e3, r2⟩ := s1.mu a _ e
      subst e3
      refine .inl ⟨a, rfl, .inl ⟨⟨xs, .inl (.inl e2)⟩, ?_⟩⟩
      have w : Walk (Itl X.K a) ds.length (fun H => ∃ ys, SqL X.K H a ys ∧ ys.length = ds.length) (fun i H x H' => H' = H ∧ ∀ ys, SqL X.K H a ys → ys[i]? = some x) :=
        ⟨fun i _ hi ⟨ys, h1, h2⟩ => ⟨ys, ys[i]'(by omega), h1, by simp [show i < ys.length by omega]⟩, fun _ ⟨ys, h1, h2⟩ => ⟨ys, h1, by omega⟩, fun _ _ _ _ _ _ y => y⟩
      refine po ds _ M1 F1 H1 (Itl X.K a) _ _ q' g s1 w (fun H2 F2 M2 g2 s2 e4 => ?_) fun i H2 F2 M2 x H3 hi g2 s2 e4 y => ?_
      · obtain ⟨ho, e5, ys, e6, r6⟩ := s2.mu a _ e4
        subst e6
        exact ⟨ys, .inl (.inl e5), r6.len.symm⟩
      · obtain ⟨ho, e5, ys, e6, r6⟩ := s2.mu a _ e4
        subst e6
        obtain ⟨e1, e7⟩ := y
        subst e1
        obtain ⟨d, e3, r3⟩ := r6.getV (e7 ys (.inl (.inl e5)))
        exact ⟨F2, s2, Go.refl, d, e3, r3⟩
    · exact q'.elim
  | _ => exact q.elim

/-! ### for -/
def dForGo (g : Mu → Prop) (tg : DTg) (b : DTS) (E : DEnds) : List D → DEnv → Mu → Prop
  | [], δ, M => g M ∧ E.nx δ M
  | x :: xs, δ, M => g M ∧ tg x δ M fun δ' M' => b { E with nx := dForGo g tg b E xs, ct := dForGo g tg b E xs, bk := E.nx } δ' M'
def dFor (di : DTI) (tg : DTg) (b : DTS) : DTS := fun D δ M => di δ M fun ds g M1 => dForGo g tg b D ds δ M1
theorem drop_at {α : Type} {l : List α} {i : Nat} {d : α} (h : l[i]? = some d) : l.drop i = d :: l.drop (i + 1) := by
  obtain ⟨h1, h2⟩ := List.getElem?_eq_some_iff.mp h
  rw [List.drop_eq_getElem_cons h1, h2]
theorem ds_for {X : Cx} {tg iter : Expr} {body : List Stmt} {di : DTI} {g : TG} {dg : DTg} {tb : DTS} {vs : List Nat} {pos : Pos} (hp : PassesOwn (model X.prog X.w) X.A X.env X.xe) (hc : X.calm = true) (hi : DI X tg iter di) (hg : PG X tg g) (hr : RelG X.K vs g dg) (hb : DSs X body tb)
    (hs : ∀ x, foldedSetIterable iter X.env x = pure x := by intro _; rfl) : DS X (.For tg iter body [] pos) (dFor di dg tb) := PS.weak (ps_for hp hc hi hg hb hs) fun D σ H h => by
  obtain ⟨δ, M, F, Dd, hE, s, hu, p⟩ := h
  refine ⟨δ, M, F, _, hE, s, hu, fun ds gd M1 F1 H1 J G Y q g1 s1 w hG hY => ?_⟩
  refine for_it w (fun i σ' H' => ∃ δ' M' F', dForGo gd dg tb Dd (ds.drop i) δ' M' ∧ ERel X.K F' δ' σ' ∧ Sv X.K H' F' M' ∧ Go H1 F1 M1 H' F' M') ⟨δ, M1, F1, q, hE.mono g1.le, s1, Go.refl⟩ ?_ ?_ ?_
  · rintro i σ' H' hi ⟨δ', M', F', q', e', s', g'⟩
    refine hG H' F' M' g' s' ?_
    cases hd : ds.drop i with
    | nil => rw [hd] at q'; exact q'.1
    | cons x xs => rw [hd] at q'; exact q'.1
  · rintro i x σ' H' H2 hi ⟨δ', M', F', q', e', s', g'⟩ y
    have hgd : gd M' := by
      cases hd : ds.drop i with
      | nil => rw [hd] at q'; exact q'.1
      | cons x xs => rw [hd] at q'; exact q'.1
    obtain ⟨F2, s2, g2, d, e2, r2⟩ := hY i H' F' M' x H2 hi g' s' hgd y
    rw [drop_at e2] at q'
    refine hr d x δ' σ' σ' H2 F2 M' _ _ r2 (e'.mono g2.le) s2 q'.2 (fun δ3 M3 F3 σ3 H3 q3 g3 s3 e3 _ => ?_) rfl
    have gg := (g'.trans g2).trans g3
    refine ⟨δ3, M3, F3, _, e3, s3, q3, ⟨?_, p.rt.go (g1.trans gg), p.nx.go (g1.trans gg), ?_⟩⟩
    · intro δ4 M4 F4 σ4 H4 q4 g4 s4 e4
      exact ⟨δ4, M4, F4, q4, e4, s4, gg.trans g4⟩
    · intro δ4 M4 F4 σ4 H4 q4 g4 s4 e4
      exact ⟨δ4, M4, F4, q4, e4, s4, gg.trans g4⟩
  · rintro σ' H' ⟨δ', M', F', q', e', s', g'⟩
    rw [List.drop_length] at q'
    exact p.nx _ _ _ _ _ q'.2 (g1.trans g') s' e'

/-! ### comprehensions -/
def dwipe (δ : DEnv) : List Nat → DEnv
  | [] => δ
  | v :: vs => (dwipe δ vs).set v none
theorem ERel.setN {K : PySem.W.Frag} {F : Hp} {δ : DEnv} {σ : L2.St} {i : Nat} (h : ERel K F δ σ) : ERel K F (δ.set i none) (σ.set i none) := by
  refine ⟨by rw [List.length_set, List.length_set]; exact h.1, fun j e hj => ?_⟩
  by_cases hji : i = j
  · subst hji
    by_cases hl : i < δ.length
    · rw [List.getElem?_set_self hl] at hj; cases hj
    · rw [List.getElem?_eq_none (by rw [List.length_set]; omega)] at hj; cases hj
  · rw [List.getElem?_set_ne hji] at hj ⊢
    exact h.2 j e hj
theorem ERel.wipe {K : PySem.W.Frag} {F : Hp} {δ : DEnv} {σ : L2.St} (h : ERel K F δ σ) : ∀ vs : List Nat, ERel K F (dwipe δ vs) (L2.wipe σ vs)
  | [] => h
  | v :: vs => (ERel.wipe h vs).setN
def dLcGo (g : Mu → Prop) (tg : DTg) (tt : DTT) (te : DTE) (δw : DEnv) : List D → List D → Mu → (List D → Mu → Prop) → Prop
  | [], acc, M, Q => g M ∧ Q acc M
  | x :: xs, acc, M, Q => g M ∧ tg x δw M fun δ' M' => tt δ' M' fun b M1 => match b with
    | true => te δ' M1 fun y M2 => acc.length < sizeLine ∧ dLcGo g tg tt te δw xs (acc ++ [y]) M2 Q
    | false => dLcGo g tg tt te δw xs acc M1 Q
def dLc (mu : Bool) (di : DTI) (tg : DTg) (tt : DTT) (te : DTE) (vs : List Nat) : DTE := fun δ M Q => di δ M fun ds g M1 => dLcGo g tg tt te (dwipe δ vs) ds [] M1 fun acc M2 => dNew mu acc M2 Q
def dYes : DTT := fun _ M Q => Q true M
abbrev DPs (X : Cx) (ifs : List Expr) (t : DTT) : Prop := PTs X ifs (liftT X.K t)
theorem dps_nil {X : Cx} : DPs X [] dYes := ⟨fun pins s σ H Q I h => by
  obtain ⟨δ, M, F, Qd, hE, sv, hu, p⟩ := h
  exact pts_nil.run pins s σ H Q I (p _ _ _ _ hu Go.refl sv)⟩
theorem dps_one {X : Cx} {c : Expr} {t : DTT} (h : DT X c t) : DPs X [c] t := pts_one h
theorem lc_rel {K : PySem.W.Frag} {mu : Bool} {di : DTI} {g : TG} {dg : DTg} {tt : DTT} {te : DTE} {vs : List Nat} (hr : RelG K vs g dg) : ∀ σ H Q, lift K (dLc mu di dg tt te vs) σ H Q → tLc (liftI K di) g (liftT K tt) (lift K te) vs σ H Q := fun σ H Q h => by
  obtain ⟨δ, M, F, Qd, hE, s, hu, p⟩ := h
  refine ⟨δ, M, F, _, hE, s, hu, fun ds gd M1 F1 H1 J G Y q g1 s1 w hG hY => ?_⟩
  intro D hD
  have fr := s1.fresh hD
  -- the list that is made: hidden
  have s1' : Sv K (upd H1 D (.lst [])) F1 M1 := by
    refine ⟨fun b o e => ?_, s1.fm, fun a o e => ?_⟩
    · rw [upd_ne (ne_of_none e fr.1)]; exact s1.fh b o e
    · obtain ⟨ho, e2, r2⟩ := s1.mu a o e
      exact ⟨ho, by rw [upd_ne (ne_of_none e2 hD)]; exact e2, r2⟩
  have g1' : Go H1 F1 M1 (upd H1 D (.lst [])) F1 M1 := ⟨Le.refl _, fun b o e m => ⟨by rw [upd_ne (ne_of_none e hD)]; exact e, m, fun z => z⟩⟩
  refine lc_it w (fun i H' => ∃ M' F' acc xs, dLcGo gd dg tt te (dwipe δ vs) (ds.drop i) acc M' (fun acc M2 => dNew mu acc M2 Qd) ∧ Sv K H' F' M' ∧ Go H1 F1 M1 H' F' M' ∧ H' D = some (.lst xs) ∧ M' D = none ∧ F' D = none ∧ RpL K F' acc xs)
    ⟨M1, F1, [], [], q, s1', g1', upd_same, fr.2, fr.1, RpL.nil⟩ ?_ ?_ ?_
  · rintro i H' hi ⟨M', F', acc, xs, q', s', g', eD, mD, fD, r⟩
    refine hG H' F' M' g' s' ?_
    cases hd : ds.drop i with
    | nil => rw [hd] at q'; exact q'.1
    | cons x xs => rw [hd] at q'; exact q'.1
  · rintro i x H' H2 hi ⟨M', F', acc, xs, q', s', g', eD, mD, fD, r⟩ y
    have hgd : gd M' := by
      cases hd : ds.drop i with
      | nil => rw [hd] at q'; exact q'.1
      | cons x xs => rw [hd] at q'; exact q'.1
    obtain ⟨F2, s2, g2, d, e2, r2⟩ := hY i H' F' M' x H2 hi g' s' hgd y
    rw [drop_at e2] at q'
    have ew : ERel K F2 (dwipe δ vs) (L2.wipe σ vs) := (hE.mono (g1.le.trans (g'.le.trans g2.le))).wipe vs
    refine hr d x _ _ (L2.wipe σ vs) H2 F2 M' _ _ r2 ew s2 q'.2 (fun δ3 M3 F3 σ3 H3 q3 g3 s3 e3 w3 => ⟨?_, ?_⟩) rfl
    · rw [w3]
      clear q q' hG hY
      refine List.ext_getElem? fun j => ?_
      by_cases hj : j ∈ vs
      · by_cases hl : j < σ.length
        · rw [wipe_in hj (by rw [wipe_length]; exact hl), wipe_in hj hl]
        · rw [List.getElem?_eq_none (by rw [wipe_length, wipe_length]; omega), List.getElem?_eq_none (by rw [wipe_length]; omega)]
      · rw [wipe_out hj]
    · refine ⟨δ3, M3, F3, _, e3, s3, q3, fun b M4 F4 H4 q4 g4 s4 => ?_⟩
      cases b with
      | false =>
        rw [if_neg Bool.false_ne_true]
        have gg := (g2.trans g3).trans g4
        obtain ⟨h1, h2, h3⟩ := gg.kp D _ eD mD
        exact ⟨M4, F4, acc, xs, q4, s4, g'.trans gg, h1, h2, h3 fD, r.mono gg.le⟩
      | true =>
        rw [if_pos rfl]
        refine ⟨δ3, M4, F4, _, e3.mono g4.le, s4, q4, fun z M5 F5 v H5 q5 g5 s5 r5 => ?_⟩
        have gg := ((g2.trans g3).trans g4).trans g5
        obtain ⟨h1, h2, h3⟩ := gg.kp D _ eD mD
        have rr := r.mono gg.le
        have hD5 : H1 D = none := hD
        have g6 := g'.trans gg
        refine ⟨xs, h1, by rw [← r.len]; exact q5.1, M5, F5, acc ++ [z], xs ++ [v], q5.2, ?_, ?_, upd_same, h2, h3 fD, rr.snoc r5⟩
        · refine ⟨fun b o e => ?_, s5.fm, fun a o e => ?_⟩
          · rw [upd_ne (fun z => by rw [z, h3 fD] at e; cases e)]; exact s5.fh b o e
          · obtain ⟨ho, e2, r2⟩ := s5.mu a o e
            exact ⟨ho, by rw [upd_ne (fun z => by rw [z, h2] at e; cases e)]; exact e2, r2⟩
        · refine ⟨g6.le, fun b o e m => ?_⟩
          obtain ⟨k1, k2, k3⟩ := g6.kp b o e m
          exact ⟨by rw [upd_ne (ne_of_none e hD5)]; exact k1, k2, k3⟩
  · rintro H' ⟨M', F', acc, xs, q', s', g', eD, mD, fD, r⟩
    rw [List.drop_length] at q'
    have po := p.go g1
    have q2 := q'.2
    have nD : ∀ b o, H1 b = some o → b ≠ D := fun b o e => ne_of_none e hD
    cases mu with
    | false =>
      have l : Le F' (upd F' D (.lst xs)) := Le.new fD
      refine po _ M' (upd F' D (.lst xs)) _ _ q2 ⟨g'.le.trans l, fun b o e m => ?_⟩ ⟨fun b o e => ?_, fun b o e => ?_, fun a o e => ?_⟩ ?_
      · obtain ⟨k1, k2, k3⟩ := g'.kp b o e m
        exact ⟨k1, k2, fun z => by rw [upd_ne (nD b o e)]; exact k3 z⟩
      · by_cases hb : b = D
        · subst hb; rw [upd_same] at e; cases e; exact eD
        · rw [upd_ne hb] at e; exact s'.fh b o e
      · by_cases hb : b = D
        · subst hb; exact mD
        · rw [upd_ne hb] at e; exact s'.fm b o e
      · obtain ⟨ho, e2, r2⟩ := s'.mu a o e
        exact ⟨ho, e2, r2.mono l⟩
      · unfold Rp
        exact ⟨D, xs, rfl, upd_same, r.mono l⟩
    | true =>
      refine po _ (mset M' D (.lst acc)) F' _ _ (q2 D mD) ⟨g'.le, fun b o e m => ?_⟩ ⟨s'.fh, fun b o e => ?_, fun a o e => ?_⟩ (by unfold Rp; rfl)
      · obtain ⟨k1, k2, k3⟩ := g'.kp b o e m
        exact ⟨k1, by rw [mset_ne (nD b o e)]; exact k2, k3⟩
      · rw [mset_ne (fun z => by rw [z, fD] at e; cases e)]; exact s'.fm b o e
      · by_cases ha : a = D
        · subst ha
          rw [mset_same] at e
          cases e
          exact ⟨_, eD, xs, rfl, r⟩
        · rw [mset_ne ha] at e
          exact s'.mu a o e
section
variable {X : Cx} {elt tg iter : Expr} {ifs : List Expr} {scope : Scope} {own : List (Str × Nat)} {pos : Pos} {di : DTI} {g : TG} {dg : DTg} {tt : DTT} {te : DTE}
theorem de_lc (mu : Bool) (hc : X.calm = true) (hN : X.N.Nodup) (hi : DI X tg iter di) (ok : BlkOk X.N X.env.scope scope own) (hr : RelG X.K (own.map (·.2)) g dg)
    (hg : ∀ (s : Shared) (H : Hp) (C : Addr) (cl : List (Str × Addr)) (fp : List Addr), PG (X.blk s H scope (compEnvC scope cl C X.env) fp) tg g) (ht : ∀ (s : Shared) (H : Hp) (C : Addr) (cl : List (Str × Addr)) (fp : List Addr), DPs (X.blk s H scope (compEnvC scope cl C X.env) fp) ifs tt)
    (he : ∀ (s : Shared) (H : Hp) (C : Addr) (cl : List (Str × Addr)) (fp : List Addr), DE (X.blk s H scope (compEnvC scope cl C X.env) fp) elt te) (hs : ∀ x, foldedSetIterable iter X.env x = pure x := by intro _; rfl) :
    DE X (.ListComp elt [⟨tg, iter, ifs, 0⟩] scope pos) (dLc mu di dg tt te (own.map (·.2))) := PE.weak (pe_lc hc hN hi ok hg ht he hs) (lc_rel hr)
theorem ds_setLc (mu : Bool) {i : Nat} {y : Str} {py : Pos} {spos : Pos} (hc : X.calm = true) (hN : X.N.Nodup) (hi : DI X tg iter di) (ok : BlkOk X.N X.env.scope scope own) (hr : RelG X.K (own.map (·.2)) g dg)
    (hg : ∀ (s : Shared) (H : Hp) (C : Addr) (cl : List (Str × Addr)) (fp : List Addr), PG (X.blk s H scope (compEnvC scope cl C X.env) fp) tg g) (ht : ∀ (s : Shared) (H : Hp) (C : Addr) (cl : List (Str × Addr)) (fp : List Addr), DPs (X.blk s H scope (compEnvC scope cl C X.env) fp) ifs tt)
    (he : ∀ (s : Shared) (H : Hp) (C : Addr) (cl : List (Str × Addr)) (fp : List Addr), DE (X.blk s H scope (compEnvC scope cl C X.env) fp) elt te)
    (hsw : swapsWith (.ListComp elt [⟨tg, iter, ifs, 0⟩] scope pos) (some (.Name y py)) spos.line X.env = pure true) (hy : X.N[i]? = some y := by rfl) (hyl : X.env.scope.names.lookup y = some .local := by rfl) (hs : ∀ x, foldedSetIterable iter X.env x = pure x := by intro _; rfl) :
    DS X (.Assign [.Name y py] (.ListComp elt [⟨tg, iter, ifs, 0⟩] scope pos) spos) (dAs (dLc mu di dg tt te (own.map (·.2))) (dgN i)) := PS.weak (ps_setLc hc hN hy hyl hsw hi ok hg ht he hs) fun D σ H h => by
  obtain ⟨δ, M, F, Dd, hE, s, hu, p⟩ := h
  exact lc_rel hr σ H _ ⟨δ, M, F, _, hE, s, hu, fun d M' F' v H' q g s' r => p.nx _ _ _ _ _ q g s' ((hE.mono g.le).set r)⟩
end

/-! ### defs -/
structure DX where
  cls : Addr
  fs : List (Str × D)
abbrev DXK := DX → Mu → Prop
abbrev DSp := List D → Mu → DK → DXK → Prop
def RpX (K : PySem.W.Frag) (F : Hp) (H : Hp) (M : Mu) (x : DX) (d : Option Addr) : Prop := match x.fs with
  | [] => d = none
  | fs => ∃ a vs, d = some a ∧ H a = some (.xd vs) ∧ M a = none ∧ fs.map (·.1) = vs.map (·.1) ∧ RpL K F (fs.map (·.2)) (vs.map (·.2))
def PostX (K : PySem.W.Frag) (H F : Hp) (M : Mu) (Ed : DXK) (E : XK) : Prop := ∀ x M' F' d H', Ed x M' → Go H F M H' F' M' → Sv K H' F' M' → RpX K F' H' M' x d → E (.ref x.cls) d H'
theorem PostX.go {K : PySem.W.Frag} {H F H1 F1 : Hp} {M M1 : Mu} {Ed : DXK} {E : XK} (p : PostX K H F M Ed E) (g : Go H F M H1 F1 M1) : PostX K H1 F1 M1 Ed E := fun x M' F' d H' q g' s r => p x M' F' d H' q (g.trans g') s r
abbrev dX0 : DXK := fun _ _ => False
theorem post0 {K : PySem.W.Frag} {H F : Hp} {M : Mu} {E : XK} : PostX K H F M dX0 E := fun _ _ _ _ _ q _ _ _ => q.elim
def liftSp (K : PySem.W.Frag) (sp : DSp) : Sp := fun vs H Q E => ∃ ds M F Qd Ed, RpL K F ds vs ∧ Sv K H F M ∧ sp ds M Qd Ed ∧ Post K H F M Qd Q ∧ PostX K H F M Ed E
/-- a call of a def whose promise is sp; ds: the defaults that fill up -/
def dCall (sp : DSp) (dds : List D) (E : DXK) (ua : DTA) : DTE := fun δ M Q => ua δ M fun ds M1 => sp (ds ++ dds) M1 Q E
section
variable {X : Cx} {CX : CXT} {k : Nat} {f : Addr} {fd : FuncData} {ps : List Str} {sp : DSp} {dvs : List V} {dds : List D} {ds : List Value} {x : Str} {p pos : Pos} {e : Expr} {es : List Expr} {ua : DTA}
theorem call_rel (hd : ∀ F, RpL X.K F dds dvs) : ∀ σ H Q, lift X.K (dCall sp dds dX0 ua) σ H Q → tCall (liftSp X.K sp) dvs E0 (liftA X.K ua) σ H Q := fun σ H Q h => by
  obtain ⟨δ, M, F, Qd, hE, s, hu, p⟩ := h
  exact ⟨δ, M, F, _, hE, s, hu, fun ds M1 F1 vs H1 q g s1 r => ⟨_, M1, F1, Qd, dX0, r.app (hd F1), s1, q, p.go g, post0⟩⟩
/-- f(e, ..), nothing is raised -/
theorem de_call (F : FnOk X.prog X.w X.K X.mg X.base CX0 k f fd ps (liftSp X.K sp)) (hr : Room k X.A) (hm : X.mg x = some (.ref f)) (hk : PySem.W.keepIn X.K (.ref f) = true) (hb : Binds X.K fd ps ds) (hd : Vals dvs ds) (hdd : ∀ F, RpL X.K F dds dvs)
    (ha : DA X (e :: es) ua) (hg : Gl X x := by rfl) (hdb : (x == ("__debug__" : Str)) = false := by decide) (he : starEach (e :: es) X.env = (false, eval e X.env) :: starEach es X.env := by rfl) (hpl : (backTo pos (starEach es X.env)).any (·.1) = false := by rfl) :
    DE X (.Call (.Name x p) (e :: es) [] pos) (dCall sp dds dX0 ua) := PE.weak (pe_call F hr hg hm hk hb hd pass0 ha hdb he hpl) (call_rel hdd)
theorem de_call0 (F : FnOk X.prog X.w X.K X.mg X.base CX0 k f fd ps (liftSp X.K sp)) (hr : Room k X.A) (hm : X.mg x = some (.ref f)) (hk : PySem.W.keepIn X.K (.ref f) = true) (hb : Binds X.K fd ps ds) (hd : Vals dvs ds) (hdd : ∀ F, RpL X.K F dds dvs)
    (hg : Gl X x := by rfl) (hdb : (x == ("__debug__" : Str)) = false := by decide) :
    DE X (.Call (.Name x p) [] [] pos) (dCall sp dds dX0 dNil) := PE.weak (pe_call0 F hr hg hm hk hb hd pass0 hdb) fun σ H Q h => by
  obtain ⟨δ, M, F, Qd, hE, s, hu, p⟩ := call_rel hdd σ H Q h
  exact p _ _ _ _ _ hu Go.refl s RpL.nil
end
/-- what a def's body is to reach -/
def dEnd (Q : DK) : DEnds := { nx := fun _ M => Wq Q .non M, rt := Wq Q }
def dstart (n : Nat) (ds : List D) : DEnv := ds.map some ++ List.replicate (n - ds.length) none
/-- THE RULE: a def that raises nothing, by its body's reading t -/
theorem dfn {P : Program} {w : World} {K : PySem.W.Frag} {mg : Str → Option Value} {base : Heap} {x qual : Str} {params : Arguments} {body : List Stmt} {scope : Scope} {dvs : List V} {kws : List (Str × V)} {f : Addr} {fd : FuncData} {N ps : List Str} {k : Nat} {sp : DSp} {t : DTS}
    (Fd : FunD K x qual params body scope dvs kws f fd) (S : FnScope N ps scope) (len : ∀ ds M Q E, sp ds M Q E → ds.length = ps.length)
    (hb : ∀ (cdv : Value) (A : Around) (outer : List Env) (s : Shared) (H : Hp) (E : XK), Room k (A.deeper (envOfC qual scope s.heap.objs.size f cdv)) → DSs (cxOf CX0 P w K mg base N qual scope f cdv A outer s H E).nox body t)
    (hs : ∀ ds M Q E, sp ds M Q E → t (dEnd Q) (dstart N.length ds) M) : FnOk P w K mg base CX0 (k + 1) f fd ps (liftSp K sp) := by
  refine Fd.ok S (fun vs H Q E h => ?_) (fun cdv A outer s H vs Q E hr h => ⟨liftS K t, PSs.nox (hb cdv A outer s H E hr), ?_⟩)
  · obtain ⟨ds, M, F, Qd, Ed, r, _, h, _⟩ := h
    rw [← r.len]
    exact len _ _ _ _ h
  · obtain ⟨ds, M, F, Qd, Ed, r, sv, h, po, px⟩ := h
    refine ⟨dstart N.length ds, M, F, dEnd Qd, ?_, sv, hs ds M Qd Ed h, ⟨?_, po.wq, fun _ _ _ _ _ q => q.elim, fun _ _ _ _ _ q => q.elim⟩⟩
    · exact ERel.start r
    · intro δ' M' F' σ' H' q g s' e
      exact po.wq _ _ _ _ _ q g s' (by unfold Rp; rfl)
end DL

namespace DL
open PySem PySem.Spec PyProof.Rows L2 TL

/-! ### defs and constants of the module by their names -/
/-- the def x stands there, as the text says -/
def DefAt (K : PySem.W.Frag) (mg : Str → Option Value) (x : Str) (st : Stmt) : Prop := ∃ f fd, FunD K x x (defArgs st) (defBody st) (defScope st) [] [] f fd ∧ mg x = some (.ref f)
/-- the def x may be called with this promise -/
def Cal (P : Program) (w : World) (K : PySem.W.Frag) (mg : Str → Option Value) (base : Heap) (k : Nat) (x : Str) (ps : List Str) (sp : DSp) : Prop :=
  ∃ f fd, FnOk P w K mg base CX0 k f fd ps (liftSp K sp) ∧ mg x = some (.ref f) ∧ PySem.W.keepIn K (.ref f) = true ∧ Binds K fd ps []
theorem Cal.mono {P : Program} {w : World} {K : PySem.W.Frag} {mg : Str → Option Value} {base : Heap} {j k : Nat} {x : Str} {ps : List Str} {sp : DSp} (c : Cal P w K mg base j x ps sp) (h : j ≤ k) : Cal P w K mg base k x ps sp := by
  obtain ⟨f, fd, F, m, kp, b⟩ := c
  exact ⟨f, fd, F.mono h, m, kp, b⟩
/-- a weaker promise -/
theorem Cal.imp {P : Program} {w : World} {K : PySem.W.Frag} {mg : Str → Option Value} {base : Heap} {k : Nat} {x : Str} {ps : List Str} {sp sp' : DSp} (c : Cal P w K mg base k x ps sp) (h : ∀ ds M Q E, sp' ds M Q E → sp ds M Q E) : Cal P w K mg base k x ps sp' := by
  obtain ⟨f, fd, F, m, kp, b⟩ := c
  refine ⟨f, fd, F.imp fun vs H Q E q => ?_, m, kp, b⟩
  obtain ⟨ds, M, F, Qd, Ed, r, s, q, p1, p2⟩ := q
  exact ⟨ds, M, F, Qd, Ed, r, s, h _ _ _ _ q, p1, p2⟩
section
variable {X : Cx} {k : Nat} {ps : List Str} {sp : DSp} {x : Str} {p pos : Pos} {e : Expr} {es : List Expr} {ua : DTA}
theorem de_cal (C : Cal X.prog X.w X.K X.mg X.base k x ps sp) (hr : Room k X.A) (ha : DA X (e :: es) ua) (hg : Gl X x := by rfl) (hdb : (x == ("__debug__" : Str)) = false := by decide)
    (he : starEach (e :: es) X.env = (false, eval e X.env) :: starEach es X.env := by rfl) (hpl : (backTo pos (starEach es X.env)).any (·.1) = false := by rfl) : DE X (.Call (.Name x p) (e :: es) [] pos) (dCall sp [] dX0 ua) := by
  obtain ⟨f, fd, F, m, kp, b⟩ := C
  exact de_call F hr m kp b .nil (fun _ => RpL.nil) ha hg hdb he hpl
theorem de_cal0 (C : Cal X.prog X.w X.K X.mg X.base k x ps sp) (hr : Room k X.A) (hg : Gl X x := by rfl) (hdb : (x == ("__debug__" : Str)) = false := by decide) : DE X (.Call (.Name x p) [] [] pos) (dCall sp [] dX0 dNil) := by
  obtain ⟨f, fd, F, m, kp, b⟩ := C
  exact de_call0 F hr m kp b .nil (fun _ => RpL.nil) hg hdb
end
/-- THE RULE -/
theorem cal_of {P : Program} {w : World} {K : PySem.W.Frag} {mg : Str → Option Value} {base : Heap} {x : Str} {st : Stmt} {N ps : List Str} {k : Nat} {sp : DSp} {t : DTS} (d : DefAt K mg x st) (S : FnScope N ps (defScope st))
    (len : ∀ ds M Q E, sp ds M Q E → ds.length = ps.length)
    (hbind : ∀ (kV doc pm : Value) (an : Option Addr) (cdv ct : Value) (us : List Value), us.length = ps.length → bindArgs (PySem.W.fnOf x x (defArgs st) (defBody st) (defScope st) .none kV doc pm an cdv ct) ⟨us, []⟩ = pure (ps.zip us))
    (hb : ∀ (f : Addr) (cdv : Value) (A : Around) (outer : List Env) (s : Shared) (H : Hp) (E : XK), Room k (A.deeper (envOfC x (defScope st) s.heap.objs.size f cdv)) → DSs (cxOf CX0 P w K mg base N x (defScope st) f cdv A outer s H E).nox (defBody st) t)
    (hs : ∀ ds M Q E, sp ds M Q E → t (dEnd Q) (dstart N.length ds) M) : Cal P w K mg base (k + 1) x ps sp := by
  obtain ⟨f, fd, F, m⟩ := d
  exact ⟨f, fd, dfn F S len (hb f) hs, m, F.kp, F.bindsN hbind⟩
/-- a constant of the module -/
def GC (K : PySem.W.Frag) (mg : Str → Option Value) (x : Str) (d : D) : Prop := ∃ u v, mg x = some u ∧ RelV v u ∧ ∀ F, Rp K F d v
theorem de_gc {X : Cx} {x : Str} {pos : Pos} {d : D} (c : GC X.K X.mg x d) (hg : Gl X x := by rfl) (hd : (x == ("__debug__" : Str)) = false := by decide) : DE X (.Name x pos) (dC d) := by
  obtain ⟨u, v, m, r, rp⟩ := c
  exact de_glob hg m r rp hd
/-- an entry of a dict of the module -/
def GD (K : PySem.W.Frag) (mg : Str → Option Value) (w : World) (x key : Str) (d : D) : Prop := ∃ a v, mg x = some (.ref a) ∧ KDct K w a key v ∧ ∀ F, Rp K F d v
theorem de_gd {X : Cx} {x key : Str} {pos p kp : Pos} {j : Nat} {d : D} (c : GD X.K X.mg X.w x key d) (hg : Gl X x := by rfl) (hd : (x == ("__debug__" : Str)) = false := by decide) (hs : PlainIx (.Constant (.str key) j kp) := by intro _ _; rfl) :
    DE X (.Subscript (.Name x p) (.Constant (.str key) j kp) pos) (dC d) := by
  obtain ⟨a, v, m, kd, rp⟩ := c
  refine PE.weak (pe_ix ix_kdict (pe_glob (v := .ref a) hg m rfl hd) pe_str hs) fun σ H Q h => ?_
  obtain ⟨δ, M, F, Qd, hE, s, hu, po⟩ := h
  exact ⟨a, key, v, rfl, rfl, kd, po.fin s hu (rp F)⟩
theorem gc_str {K : PySem.W.Frag} {mg : Str → Option Value} {x z : Str} {cs : List Nat} {t : Tok} (h : mg x = some (.str z t)) (e : z = mkS cs) : GC K mg x (.str cs) := ⟨_, .str z, h, ⟨t, rfl⟩, fun F => by unfold Rp; rw [e]⟩
/-! ### bit_length -/
def dBits (uo : DTE) : DTE := fun δ M Q => uo δ M fun d M1 => match d with
  | .int i => Q (.int (Builtin.Int.intBits i : Nat)) M1
  | _ => False
theorem de_bits {X : Cx} {o : Expr} {uo : DTE} {apos pos : Pos} (ho : DE X o uo) (hbase : attributeBase o "bit_length" X.env (eval o X.env) = eval o X.env := by rfl) (hline : (apos.endLine == pos.line) = true := by rfl) : DE X (.Call (.Attribute o "bit_length" apos) [] [] pos) (dBits uo) := PE.weak (pe_bits ho hbase hline) fun σ H Q h => by
  obtain ⟨δ, M, F, Qd, hE, s, hu, po⟩ := h
  refine ⟨δ, M, F, _, hE, s, hu, fun d M1 F1 v H1 q g s1 r => ?_⟩
  cases d <;> first | exact False.elim q | skip
  unfold Rp at r
  subst r
  exact ⟨_, rfl, po _ _ _ _ _ q g s1 (by unfold Rp; rfl)⟩
/-! ### e.replace of written texts, where a token has been given out -/
open CwR PySem.StrLaws
def dRepl (uo : DTE) (y z : List Nat) : DTE := fun δ M Q => uo δ M fun d M1 => match d with
  | .str cs => cs.length + (cs.length + 1) * z.length ≤ 16777216 ∧ Q (.str (replL y z cs)) M1
  | _ => False
abbrev DET (X : Cx) (e : Expr) (u : DTE) : Prop := PET X e (lift X.K u)
abbrev DSsT (X : Cx) (s : List Stmt) (u : DTS) : Prop := PSsT X s (liftS X.K u)
theorem PET.weak {X : Cx} {e : Expr} {t t' : TE} (h : PET X e t) (i : ∀ σ H Q, t' σ H Q → t σ H Q) : PET X e t' := fun pins s σ H Q h0 I q => h pins s σ H Q h0 I (i _ _ _ q)
theorem PST.weak {X : Cx} {e : Stmt} {t t' : TS} (h : PST X e t) (i : ∀ D σ H, t' D σ H → t D σ H) : PST X e t' := fun pins s σ H D h0 I q => h pins s σ H D h0 I (i _ _ _ q)
theorem det_repl {X : Cx} {o : Expr} {uo : DTE} {j k : Nat} {c0 c1 apos pos : Pos} {y z : Str} (ys zs : List Nat) (ho : DE X o uo) (hy : y = mkS ys := by decide +kernel) (hz : z = mkS zs := by decide +kernel) (hne : 1 ≤ ys.length := by decide) (hyz : (y == z) = false := by decide +kernel)
    (hst : starEach [.Constant (.str y) j c0, .Constant (.str z) k c1] X.env = [(false, eval (.Constant (.str y) j c0) X.env), (false, eval (.Constant (.str z) k c1) X.env)] := by rfl)
    (hbase : attributeBase o "replace" X.env (eval o X.env) = eval o X.env := by rfl) (hline : (apos.endLine == pos.line) = true := by rfl) :
    DET X (.Call (.Attribute o "replace" apos) [.Constant (.str y) j c0, .Constant (.str z) k c1] [] pos) (dRepl uo ys zs) := PET.weak (pet_replC ho hyz hst hbase hline) fun σ H Q h => by
  obtain ⟨δ, M, F, Qd, hE, s, hu, po⟩ := h
  refine ⟨δ, M, F, _, hE, s, hu, fun d M1 F1 v H1 q g s1 r => ?_⟩
  cases d <;> first | exact False.elim q | skip
  unfold Rp at r
  subst r hy hz
  refine ⟨_, rfl, by rw [mkS_len, mkS_len]; exact q.1, po _ _ _ _ _ q.2 g s1 ?_⟩
  unfold Rp
  congr 1
  refine ext_tl ?_
  have e := replace_list (x := mkS (by assumption)) (y := mkS ys) (z := mkS zs) (by rw [mkS_len]; exact hne)
  exact e
theorem dst_ret {X : Cx} {e : Expr} {ue : DTE} {pos : Pos} (he : DET X e ue) : PST X (.Return (some e) pos) (liftS X.K (dRt ue)) := PST.weak (pst_ret he) fun D σ H h => by
  obtain ⟨δ, M, F, Dd, hE, s, hu, p⟩ := h
  exact ⟨δ, M, F, _, hE, s, hu, p.rt⟩
theorem dsst_one {X : Cx} {st : Stmt} {t : DTS} (h : PST X st (liftS X.K t)) : DSsT X [st] t := fun pins s σ H D h0 I q => psst_one h pins s σ H D h0 I q
/-- if a == 8: ..: behind the test a token has been given out -/
theorem ds_ifT {X : Cx} {a : Expr} {i : Int} {j : Nat} {cp pos pos' : Pos} {body : List Stmt} {ua : DTE} {t : DTS} (hu : X.A.units + 64 < cLine) (ha : DE X a ua) (hb : DSsT X body t) : DS X (.If (.Compare a [.Eq] [.Constant (.int i) j cp] pos') body [] pos) (dIfS (dTest (dOp dEq ua (dC (.int i)))) t dNx) := by
  have hc : DT X (.Compare a [.Eq] [.Constant (.int i) j cp] pos') (dTest (dOp dEq ua (dC (.int i)))) := dt_eq hu ha de_int
  refine ⟨fun pins s σ H D I h => ?_⟩
  obtain ⟨δ, M, F, Dd, hE, sv, hu', p⟩ := h
  have h2 : liftT X.K (dTest (dOp dEq ua (dC (.int i)))) σ H (fun b H1 => if b = true then liftS X.K t D σ H1 else liftS X.K dNx D σ H1) := by
    refine ⟨δ, M, F, _, hE, sv, hu', fun d M' F' H' q g s' => ?_⟩
    cases d with
    | true => exact ⟨δ, M', F', Dd, hE.mono g.le, s', q, p.go g⟩
    | false => exact ⟨δ, M', F', Dd, hE.mono g.le, s', q, p.go g⟩
  have h3 := bin2 rel_eq _ _ _ (lift_test h2)
  refine wpAny_If (thn (Q := fun b s1 => 1 ≤ s1.toks ∧ TP X pins σ (fun b H1 => if b = true then liftS X.K t D σ H1 else liftS X.K dNx D σ H1) b s1) ?_ fun d s1 q => ?_)
  · refine wpAny_isTrue_Compare1 (thn (ha.run pins s σ H _ I h3) fun v s1 ⟨x, H1, I1, r1, q1⟩ => ?_) (nomark _)
    obtain ⟨δ2, M2, F2, Qd2, hE2, sv2, hu2, p2⟩ := q1
    have q2 := p2.fin (d := .int i) (v := .int i) sv2 hu2 (by unfold Rp; rfl)
    refine wpAny_Constant_int ?_
    refine wpAny_mono (PySem.wpAny_toks_of (n := 1) (by show 1 ≤ s1.toks + 1; omega) (op_eqAll hu pins _ σ H1 x (.int i) v _ _ (I1.tok _) r1 ⟨_, rfl⟩ q2)) (fun c s3 ⟨hk, z, H3, I3, r3, k, e, q3⟩ => ?_) fun _ _ z => z.2
    subst e
    cases r3
    exact wpAny_truthy_bool ⟨hk, H3, I3, q3⟩
  · obtain ⟨hk, H1, I1, q1⟩ := q
    cases d with
    | true =>
      rw [if_pos rfl] at q1
      exact hb pins s1 σ H1 D hk I1 q1
    | false =>
      rw [if_neg Bool.false_ne_true] at q1
      exact dss_nil.run pins s1 σ H1 D I1 q1
end DL

namespace DL
open PySem PySem.Spec PyProof.Rows L2 TL

/-! ### for, comprehensions: by a word of what is left -/
theorem for_inv {g : Mu → Prop} {tg : DTg} {b : DTS} {E : DEnds} (I : List D → DEnv → Mu → Prop) (hg : ∀ xs δ M, I xs δ M → g M)
    (hs : ∀ x xs δ M (N : DEnv → Mu → Prop), I (x :: xs) δ M → (∀ δ' M', I xs δ' M' → N δ' M') → tg x δ M fun δ' M' => b { E with nx := N, ct := N, bk := E.nx } δ' M')
    (he : ∀ δ M, I [] δ M → E.nx δ M) : ∀ (ds : List D) (δ : DEnv) (M : Mu), I ds δ M → dForGo g tg b E ds δ M
  | [], δ, M, h => ⟨hg _ _ _ h, he _ _ h⟩
  | x :: xs, δ, M, h => ⟨hg _ _ _ h, hs x xs δ M _ h fun δ' M' h' => for_inv I hg hs he xs δ' M' h'⟩
theorem lc_inv {g : Mu → Prop} {tg : DTg} {tt : DTT} {te : DTE} {δw : DEnv} {Q : List D → Mu → Prop} (I : List D → List D → Mu → Prop) (hg : ∀ xs acc M, I xs acc M → g M)
    (hs : ∀ x xs acc M (N : List D → Mu → Prop), I (x :: xs) acc M → (∀ acc' M', I xs acc' M' → N acc' M') → tg x δw M fun δ' M' => tt δ' M' fun b M1 => match b with
      | true => te δ' M1 fun y M2 => acc.length < sizeLine ∧ N (acc ++ [y]) M2
      | false => N acc M1)
    (he : ∀ acc M, I [] acc M → Q acc M) : ∀ (ds acc : List D) (M : Mu), I ds acc M → dLcGo g tg tt te δw ds acc M Q
  | [], acc, M, h => ⟨hg _ _ _ h, he _ _ h⟩
  | x :: xs, acc, M, h => ⟨hg _ _ _ h, hs x xs acc M (fun acc M => dLcGo g tg tt te δw xs acc M Q) h fun acc' M' h' => lc_inv I hg hs he xs acc' M' h'⟩
/-- a comprehension without tests, whose element is the value f x of the item and changes nothing -/
theorem lc_map {g : Mu → Prop} {tg : DTg} {te : DTE} {δw : DEnv} {Q : List D → Mu → Prop} (f : D → D) {M : Mu} (hg : g M) : ∀ (ds acc : List D), acc.length + ds.length ≤ sizeLine →
    (∀ x ∈ ds, ∀ R : DK, R (f x) M → tg x δw M fun δ' M' => te δ' M' R) → Q (acc ++ ds.map f) M → dLcGo g tg dYes te δw ds acc M Q
  | [], acc, _, _, h => ⟨hg, by rw [List.map_nil, List.append_nil] at h; exact h⟩
  | x :: xs, acc, hl, hs, h => by
    rw [List.length_cons] at hl
    refine ⟨hg, hs x (List.mem_cons_self ..) (fun y M2 => acc.length < sizeLine ∧ dLcGo g tg dYes te δw xs (acc ++ [y]) M2 Q) ⟨by omega, ?_⟩⟩
    refine lc_map f hg xs (acc ++ [f x]) (by rw [List.length_append, List.length_singleton]; omega) (fun y hy => hs y (List.mem_cons_of_mem _ hy)) ?_
    rw [List.append_assoc]
    exact h
theorem sz1000 {n : Nat} (h : n ≤ 1000000) : n ≤ sizeLine := Nat.le_trans h (by rw [sizeLine_eq]; decide)
theorem szlt {n : Nat} (h : n < 1000000) : n < sizeLine := Nat.lt_of_lt_of_le h (by rw [sizeLine_eq]; decide)
theorem mul_fit {i j : Int} (a b : Nat) (ha : i.natAbs < 2 ^ a) (hb : j.natAbs < 2 ^ b) (h : a + b ≤ 134217728 := by decide) : CMulX i j := mulx_ok ha hb h
theorem nlt_pow {i : Int} {k : Nat} (h1 : -(2 ^ k : Nat) < i) (h2 : i < (2 ^ k : Nat)) : i.natAbs < 2 ^ k := by omega
theorem div_fit {j : Int} (k : Nat) (h0 : j ≠ 0) (h : j.natAbs < 2 ^ k) (hk : 0 < k := by decide) (h9 : k ≤ 9000 := by decide) : CDivX j := ⟨h0, Nat.lt_of_lt_of_le (PySem.Flt.log2_lt_of hk h) h9⟩
theorem fmod_pos {i j : Int} (h : 0 < j) : i.fmod j = i % j := Int.fmod_eq_emod_of_nonneg i (by omega)
theorem fdiv_pos {i j : Int} (h : 0 < j) : i.fdiv j = i / j := Int.fdiv_eq_ediv_of_nonneg i (by omega)
theorem atI_zero {α : Type} {x : α} {xs : List α} : atI (x :: xs) 0 = some x := atI_nat (xs := x :: xs) (j := 0) rfl
theorem atI_one {α : Type} {x y : α} {xs : List α} : atI (x :: y :: xs) 1 = some y := atI_nat (xs := x :: y :: xs) (j := 1) rfl
theorem atI_two {α : Type} {x y z : α} {xs : List α} : atI (x :: y :: z :: xs) 2 = some z := atI_nat (xs := x :: y :: z :: xs) (j := 2) rfl
theorem ixN_nat {n : Nat} {j : Nat} (h : j < n) : ixN n (j : Int) = some j := by
  unfold ixN
  rw [if_pos (by omega), if_pos (by omega)]
  rfl
theorem dseq_ref {M : Mu} {a : Addr} {ds : List D} (h : M a = some (.lst ds)) : dseq M (.ref a) = some ds := by
  show (match M a with | some (.lst ds) => some ds | _ => none) = some ds
  rw [h]
theorem dits_ref {M : Mu} {a : Addr} {ds : List D} (h : M a = some (.lst ds)) : dits M (.ref a) = some ds := dseq_ref h
theorem tyNm_ref {M : Mu} {a : Addr} {ds : List D} (h : M a = some (.lst ds)) : tyNm M (.ref a) = some "list" := by
  show (match M a with | some (.lst _) => some "list" | some (.dic _) => some "dict" | none => none) = some "list"
  rw [h]
end DL

namespace DL
open PySem PySem.Spec PyProof.Rows L2 TL

/-! ### stepping through readings, rule by rule (the tactic of that name stands behind them) -/
def kB (Q : Bool → Mu → Prop) : DK := fun d M => match d with
  | .bl b => Q b M
  | _ => False
def kT (Q : Bool → Mu → Prop) : DK := fun d M => dTruB M d fun b => Q b M
def kP (Q : Option Int → Mu → Prop) : DK := fun d M => match d with
  | .int i => Q (some i) M
  | _ => False
def kI (R : List D → (Mu → Prop) → Mu → Prop) : DK := fun d M1 => match d with
  | .tup ds => R ds (fun _ => True) M1
  | .lst ds => R ds (fun _ => True) M1
  | .src ns => R (ns.map .int) (fun _ => True) M1
  | .str cs => R (cs.map fun c => .str [c]) (fun _ => True) M1
  | .ref a => match M1 a with
    | some (.lst ds) => R ds (fun M2 => M2 a = some (.lst ds)) M1
    | _ => False
  | _ => False
def kR1 (R : List D → (Mu → Prop) → Mu → Prop) : List D → Mu → Prop := fun ds M1 => match ds with
  | [.int j] => -(2 ^ 62) ≤ j ∧ j < 2 ^ 62 ∧ R (rngD 0 j.toNat) (fun _ => True) M1
  | _ => False
def kR2 (R : List D → (Mu → Prop) → Mu → Prop) : List D → Mu → Prop := fun ds M1 => match ds with
  | [.int i, .int j] => (-(2 ^ 62) ≤ i ∧ i < 2 ^ 62 ∧ -(2 ^ 62) ≤ j ∧ j < 2 ^ 62) ∧ R (rngD i (j - i).toNat) (fun _ => True) M1
  | _ => False
def kS {α : Type} (b : Bool) (x y : α) (P : α → Prop) : Prop := P (if b = true then x else y)
section
variable {δ : DEnv} {M : Mu} {Q : DK} {QT : Bool → Mu → Prop} {QA : List D → Mu → Prop} {QE : DEnv → Mu → Prop} {D0 : DEnds} {d x y : D} {u ua ub ue uo ui : DTE} {us ur : DTA} {t t1 t2 : DTS} {c c1 c2 : DTT} {g : DTg} {i j : Nat} {n m : Int} {a b : Addr} {es fs : List D} {cs ds' : List Nat} {mu : Bool}
theorem r_sq (h : t1 { nx := t2 D0, rt := D0.rt, bk := D0.bk, ct := D0.ct } δ M) : dSq t1 t2 D0 δ M := h
theorem r_nx (h : D0.nx δ M) : dNx D0 δ M := h
theorem r_bk (h : D0.bk δ M) : dBk D0 δ M := h
theorem r_ct (h : D0.ct δ M) : dCt D0 δ M := h
theorem r_rt (h : u δ M D0.rt) : dRt u D0 δ M := h
theorem r_rtN (h : D0.rt .non M) : dRtN D0 δ M := h
theorem r_ex (h : u δ M fun _ M1 => D0.nx δ M1) : dEx u D0 δ M := h
theorem r_as (h : u δ M fun d M1 => g d δ M1 D0.nx) : dAs u g D0 δ M := h
theorem r_if (h : c δ M fun b M1 => (b = true → t1 D0 δ M1) ∧ (b = false → t2 D0 δ M1)) : dIfS c t1 t2 D0 δ M := by
  unfold dIfS
  revert h
  exact cast (congrArg (fun z => (c δ M z → _)) (funext fun b => funext fun M1 => by cases b <;> simp)) id
theorem r_ifT (h : c δ M fun b M1 => match b with
  | true => t1 D0 δ M1
  | false => t2 D0 δ M1) : dIfS c t1 t2 D0 δ M := h
theorem r_dgN {δ' : DEnv} (e : δ.set i (some d) = δ') (h : QE δ' M) : dgN i d δ M QE := by unfold dgN; rw [e]; exact h
theorem r_dgSub (h : uo δ M fun o M1 => ui δ M1 fun i M2 => dSetV o i d M2 fun M3 => QE δ M3) : dgSub uo ui d δ M QE := h
theorem r_dgT {ts : List DTg} (hl : es.length = ts.length) (h : dgAll ts es δ M QE) : dgT ts (.tup es) δ M QE := ⟨hl, h⟩
theorem r_dga0 (h : QE δ M) : dgAll [] [] δ M QE := h
theorem r_dga1 {ts : List DTg} (h : g d δ M fun δ' M' => dgAll ts es δ' M' QE) : dgAll (g :: ts) (d :: es) δ M QE := h
theorem r_auS {rd : DR2} (h : uo δ M fun o M1 => ui δ M1 fun i M2 => dGetM o i M2 fun x M3 => ue δ M3 fun y M4 => rd x y M4 fun z M5 => dSetV o i z M5 fun M6 => D0.nx δ M6) : dAuS uo ui ue rd D0 δ M := h
theorem r_setV {k : Int} (h : M a = some (.lst es)) (hk : ixN es.length k = some j) {Q : Mu → Prop} (q : Q (mset M a (.lst (es.set j d)))) : dSetV (.ref a) (.int k) d M Q := by
  unfold dSetV; simp only [h, hk]; exact q
theorem r_getM (h : M a = some (.lst es)) (hk : atI es n = some d) (q : Q d M) : dGetM (.ref a) (.int n) M Q := by
  unfold dGetM; simp only [h, hk]; exact q
theorem r_au {rd : DR2} (e : δ[i]? = some (some x)) (h : u δ M fun y M1 => rd x y M1 fun z M2 => D0.nx (δ.set i (some z)) M2) : dAu i rd u D0 δ M := by
  unfold dAu; rw [e]; exact h
def kPar (i j : Nat) (δ : DEnv) (D0 : DEnds) : List D → Mu → Prop := fun ds M1 => match ds with
  | [v, w] => D0.nx ((δ.set i (some v)).set j (some w)) M1
  | _ => False
theorem r_par (h : us δ M (kPar i j δ D0)) : dPar i j us D0 δ M := h
theorem r_kPar {v w : D} {δ' : DEnv} (e : (δ.set i (some v)).set j (some w) = δ') (h : D0.nx δ' M) : kPar i j δ D0 [v, w] M := by
  unfold kPar; simp only [e]; exact h
/-! expressions -/
theorem r_var (e : δ[i]? = some (some d)) (q : Q d M) : dVar i δ M Q := by unfold dVar; rw [e]; exact q
theorem r_c (q : Q d M) : dC d δ M Q := q
theorem r_op {rd : DR2} (h : ua δ M fun x M1 => ub δ M1 fun y M2 => rd x y M2 Q) : dOp rd ua ub δ M Q := h
theorem r_un {rd : DUn} (h : ua δ M fun x M1 => rd x M1 Q) : dUn rd ua δ M Q := h
theorem r_neg (q : Q (.int (-n)) M) : dNeg (.int n) M Q := q
theorem r_addI (q : Q (.int (n + m)) M) : dAdd mu (.int n) (.int m) M Q := q
theorem r_addS {p q : List Nat} (h : p.length + q.length ≤ sizeLine ∧ Q (.str (p ++ q)) M) : dAdd mu (.str p) (.str q) M Q := h
theorem r_addT {p q : List D} (h : p.length + q.length ≤ sizeLine ∧ Q (.tup (p ++ q)) M) : dAdd mu (.tup p) (.tup q) M Q := h
theorem r_addL {p q : List D} (h : p.length + q.length ≤ sizeLine ∧ dNew mu (p ++ q) M Q) : dAdd mu (.lst p) (.lst q) M Q := h
theorem r_subI (q : Q (.int (n - m)) M) : dSub (.int n) (.int m) M Q := q
theorem r_mulI (h : CMulX n m ∧ Q (.int (n * m)) M) : dMul mu (.int n) (.int m) M Q := h
theorem r_fdiv (h : CDivX m ∧ Q (.int (n.fdiv m)) M) : dFdiv (.int n) (.int m) M Q := h
theorem r_mod (h : m ≠ 0 ∧ Q (.int (n.fmod m)) M) : dMod (.int n) (.int m) M Q := h
theorem r_pow (h : CPow n m ∧ Q (.int (n ^ m.toNat)) M) : dPow (.int n) (.int m) M Q := h
theorem r_shl (h : CShl n m ∧ Q (.int (n * 2 ^ m.toNat)) M) : dShl (.int n) (.int m) M Q := h
theorem r_eqI (q : Q (.bl (decide (n = m))) M) : dEq (.int n) (.int m) M Q := q
theorem r_eqS {p q : List Nat} (h : Q (.bl (decide (p = q))) M) : dEq (.str p) (.str q) M Q := h
theorem r_eqB {p q : Bool} (h : Q (.bl (decide (p = q))) M) : dEq (.bl p) (.bl q) M Q := h
theorem r_neI (q : Q (.bl (!decide (n = m))) M) : dNe (.int n) (.int m) M Q := q
theorem r_neS {p q : List Nat} (h : Q (.bl (!decide (p = q))) M) : dNe (.str p) (.str q) M Q := h
theorem r_neB {p q : Bool} (h : Q (.bl (!decide (p = q))) M) : dNe (.bl p) (.bl q) M Q := h
theorem r_ltI (q : Q (.bl (decide (n < m))) M) : dLt (.int n) (.int m) M Q := q
theorem r_gtI (q : Q (.bl (decide (m < n))) M) : dGt (.int n) (.int m) M Q := q
theorem r_leI (q : Q (.bl (decide (n ≤ m))) M) : dLe (.int n) (.int m) M Q := q
theorem r_geI (q : Q (.bl (decide (m ≤ n))) M) : dGe (.int n) (.int m) M Q := q
theorem r_isN (q : Q (.bl (DL.isNon x)) M) : dIsN x .non M Q := ⟨rfl, q⟩
theorem r_notN (q : Q (.bl (!DL.isNon x)) M) : dNotN x .non M Q := ⟨rfl, q⟩
theorem r_inS {neg : Bool} {z : Nat} (q : Q (.bl (if neg then !decide (z ∈ cs) else decide (z ∈ cs))) M) : dInB neg (.str [z]) (.str cs) M Q := q
theorem r_idxR (h : M a = some (.lst es)) (hk : atI es n = some d) (q : Q d M) : dIdx (.ref a) (.int n) M Q := by
  unfold dIdx; simp only [dits, dseq, h, Option.bind_some, hk]; exact q
theorem r_idxL (hk : atI es n = some d) (q : Q d M) : dIdx (.lst es) (.int n) M Q := by
  unfold dIdx; simp only [dits, dseq, Option.bind_some, hk]; exact q
theorem r_idxT (hk : atI es n = some d) (q : Q d M) : dIdx (.tup es) (.int n) M Q := by
  unfold dIdx; simp only [dits, Option.bind_some, hk]; exact q
theorem r_idxSrc {ns : List Int} (hk : atI (ns.map D.int) n = some d) (q : Q d M) : dIdx (.src ns) (.int n) M Q := by
  unfold dIdx; simp only [dits, Option.bind_some, hk]; exact q
theorem r_idxS {z : Nat} (hk : atI cs n = some z) (hl : cs.length ≤ sizeLine) (q : Q (.str [z]) M) : dIdx (.str cs) (.int n) M Q := by
  unfold dIdx; simp only [hk]; exact ⟨hl, q⟩
/-! tests -/
theorem r_test (h : u δ M (kB QT)) : dTest u δ M QT := h
theorem r_kB {b : Bool} (q : QT b M) : kB QT (.bl b) M := q
theorem r_tru (h : u δ M (kT QT)) : dTru u δ M QT := h
theorem r_kTb {b : Bool} (q : QT b M) : kT QT (.bl b) M := q
theorem r_kTi (q : QT (n != 0) M) : kT QT (.int n) M := q
theorem r_kTn (q : QT false M) : kT QT .non M := q
theorem r_kTl (q : QT (!es.isEmpty) M) : kT QT (.lst es) M := q
theorem r_kTt (q : QT (!es.isEmpty) M) : kT QT (.tup es) M := q
theorem r_kTs (q : cs.length ≤ sizeLine ∧ QT (!cs.isEmpty) M) : kT QT (.str cs) M := q
theorem r_not (h : c δ M fun b M1 => QT (!b) M1) : dNot c δ M QT := h
theorem r_and (h : c1 δ M fun b M1 => (b = true → c2 δ M1 QT) ∧ (b = false → QT false M1)) : dAnd c1 c2 δ M QT := by
  unfold dAnd
  revert h
  exact cast (congrArg (fun z => (c1 δ M z → _)) (funext fun b => funext fun M1 => by cases b <;> simp)) id
theorem r_or (h : c1 δ M fun b M1 => (b = true → QT true M1) ∧ (b = false → c2 δ M1 QT)) : dOr c1 c2 δ M QT := by
  unfold dOr
  revert h
  exact cast (congrArg (fun z => (c1 δ M z → _)) (funext fun b => funext fun M1 => by cases b <;> simp)) id
theorem r_dif (h : c δ M fun b M1 => (b = true → ua δ M1 Q) ∧ (b = false → ub δ M1 Q)) : dIf c ua ub δ M Q := by
  unfold dIf
  revert h
  exact cast (congrArg (fun z => (c δ M z → _)) (funext fun b => funext fun M1 => by cases b <;> simp)) id
theorem r_andV (h : ua δ M (kB fun b M1 => (b = true → ub δ M1 Q) ∧ (b = false → Q (.bl false) M1))) : dAndV ua ub δ M Q := by
  unfold dAndV
  revert h
  refine cast (congrArg (fun z => (ua δ M z → _)) (funext fun d => funext fun M1 => ?_)) id
  cases d <;> try rfl
  rename_i b
  cases b <;> simp [kB]
theorem r_orV (h : ua δ M (kB fun b M1 => (b = true → Q (.bl true) M1) ∧ (b = false → ub δ M1 Q))) : dOrV ua ub δ M Q := by
  unfold dOrV
  revert h
  refine cast (congrArg (fun z => (ua δ M z → _)) (funext fun d => funext fun M1 => ?_)) id
  cases d <;> try rfl
  rename_i b
  cases b <;> simp [kB]
theorem r_notV (h : u δ M (kB fun b M1 => Q (.bl !b) M1)) : dNotV u δ M Q := h
theorem r_yes (h : QT true M) : dYes δ M QT := h
/-! rows -/
theorem r_nil (q : QA [] M) : dNil δ M QA := q
theorem r_cons (h : ua δ M fun d M1 => ur δ M1 fun ds M2 => QA (d :: ds) M2) : dCons ua ur δ M QA := h
theorem r_tup (h : us δ M fun ds M1 => ds.length ≤ sizeLine ∧ Q (.tup ds) M1) : dTup us δ M Q := h
theorem r_lst (h : us δ M fun ds M1 => ds.length ≤ sizeLine ∧ dNew mu ds M1 Q) : dLst mu us δ M Q := h
theorem r_newF (q : Q (.lst es) M) : dNew false es M Q := q
theorem r_newT (q : ∀ p, M p = none → Q (.ref p) (mset M p (.lst es))) : dNew true es M Q := q
theorem r_cb {rd : DRC} (h : us δ M fun ds M1 => rd ds M1 Q) : dCB rd us δ M Q := h
theorem r_lenS (h : cs.length ≤ sizeLine ∧ Q (.int cs.length) M) : dLen [.str cs] M Q := h
theorem r_lenL (h : Q (.int es.length) M) : dLen [.lst es] M Q := h
theorem r_lenT (h : Q (.int es.length) M) : dLen [.tup es] M Q := h
theorem r_lenSrc {ns : List Int} (h : Q (.int ns.length) M) : dLen [.src ns] M Q := by
  unfold dLen; simp only [dits, List.length_map]; exact h
theorem r_lenR (e : M a = some (.lst es)) (h : Q (.int es.length) M) : dLen [.ref a] M Q := by
  unfold dLen; simp only [dits, dseq, e]; exact h
theorem r_abs (h : Q (.int (n.natAbs : Int)) M) : dAbs [.int n] M Q := h
theorem r_min2 (h : Q (.int (if m < n then m else n)) M) : dMin2 [.int n, .int m] M Q := h
theorem r_max2 (h : Q (.int (if m > n then m else n)) M) : dMax2 [.int n, .int m] M Q := h
theorem r_intI (h : Q (.int n) M) : dInt [.int n] M Q := h
theorem r_str (h : n.natAbs.log2 < 1920 ∧ Q (.str (numI n)) M) : dStr [.int n] M Q := h
theorem r_tupT (h : Q (.tup es) M) : dTupOf [.tup es] M Q := h
theorem r_tupL (h : Q (.tup es) M) : dTupOf [.lst es] M Q := h
theorem r_tupR (e : M a = some (.lst es)) (h : Q (.tup es) M) : dTupOf [.ref a] M Q := by
  unfold dTupOf; simp only [dlis, dseq, e]; exact h
theorem r_divmod (h : CDivP n m ∧ Q (.tup [.int (n / m), .int (n % m)]) M) : dDivmod [.int n, .int m] M Q := h
theorem r_isi {T S : String} {b : Bool} (h : tyNm M d = some S) (hb : kitB S T = some b) (q : Q (.bl b) M) : dIsi [d, .ty T] M Q := by
  unfold dIsi; simp only [h, Option.bind_some, hb]; exact q
theorem r_sum {ns : List Int} (e : dseq M d = some es) (hi : intsOf es = some ns) (q : Q (.int ns.sum) M) : dSum [d] M Q := by
  unfold dSum; simp only [e, Option.bind_some, hi]; exact q
theorem r_all {bs : List Bool} (e : dseq M d = some es) (hi : blsOf es = some bs) (q : Q (.bl (bs.all id)) M) : dAll [d] M Q := by
  unfold dAll; simp only [e, Option.bind_some, hi]; exact q
theorem r_any {bs : List Bool} (e : dseq M d = some es) (hi : blsOf es = some bs) (q : Q (.bl (bs.any id)) M) : dAny [d] M Q := by
  unfold dAny; simp only [e, Option.bind_some, hi]; exact q
theorem r_sl {ul uh : DTO} (h : u δ M fun x M1 => ul δ M1 fun lo M2 => uh δ M2 fun hi M3 => dSlV mu x lo hi M3 Q) : dSl mu u ul uh δ M Q := h
theorem r_noP {QO : Option Int → Mu → Prop} (h : QO none M) : dNoP δ M QO := h
theorem r_part {QO : Option Int → Mu → Prop} (h : u δ M (kP QO)) : dPart u δ M QO := h
theorem r_kP {QO : Option Int → Mu → Prop} (h : QO (some n) M) : kP QO (.int n) M := h
theorem r_slS {lo hi : Option Int} (h : cs.length ≤ sizeLine ∧ Q (.str (cutL cs lo hi)) M) : dSlV mu (.str cs) lo hi M Q := h
theorem r_slT {lo hi : Option Int} (h : Q (.tup (cutL es lo hi)) M) : dSlV mu (.tup es) lo hi M Q := h
theorem r_slL {lo hi : Option Int} (h : dNew mu (cutL es lo hi) M Q) : dSlV mu (.lst es) lo hi M Q := h
theorem r_slSrc {ns : List Int} {lo hi : Option Int} (h : dNew mu (cutL (ns.map D.int) lo hi) M Q) : dSlV mu (.src ns) lo hi M Q := h
theorem r_slR {lo hi : Option Int} (e : M a = some (.lst es)) (h : dNew mu (cutL es lo hi) M Q) : dSlV mu (.ref a) lo hi M Q := by
  unfold dSlV; simp only [dlis, dseq, e]; exact h
theorem r_bm {T : String} {rd : DM} (h : uo δ M fun x M1 => tyNm M1 x = some T ∧ us δ M1 fun ds M2 => rd x ds M2 Q) : dBM T rd uo us δ M Q := h
theorem r_tyS {P : Prop} (h : P) : tyNm M (.str cs) = some "str" ∧ P := ⟨rfl, h⟩
theorem r_tyR {P : Prop} (e : M a = some (.lst es)) (h : P) : tyNm M (.ref a) = some "list" ∧ P := ⟨tyNm_ref e, h⟩
theorem r_append (e : M a = some (.lst es)) (hl : es.length < sizeLine) (h : Q .non (mset M a (.lst (es ++ [d])))) : dAppend (.ref a) [d] M Q := by
  unfold dAppend; simp only [e]; exact ⟨hl, h⟩
theorem r_split {z : List Nat} (h0 : z ≠ []) (h1 : z.all (· < 256) = true) (hl : cs.length + 2 ≤ sizeLine) (h : dNew mu ((spl z 0 [] cs).map .str) M Q) : dSplit mu (.str cs) [.str z] M Q := ⟨h0, hl, h1, h⟩
theorem r_join {ys : List (List Nat)} (e : dits M d = some es) (hs : strsOf es = some ys) (hl : (ys.map (·.length)).sum + ys.length * cs.length ≤ 16777216) (h : Q (.str (joinL cs ys)) M) : dJoin (.str cs) [d] M Q := by
  unfold dJoin; simp only [e, Option.bind_some, hs]; exact ⟨hl, h⟩
theorem r_starts {z : List Nat} (h : Q (.bl (Txt.startswith (mkS cs) (mkS z))) M) : dStarts (.str cs) [.str z] M Q := h
theorem r_count {z : List Nat} (h : Q (.int (Txt.count (mkS cs) (mkS z))) M) : dCount (.str cs) [.str z] M Q := h
theorem r_bits (h : uo δ M fun d M1 => ∃ n, d = .int n ∧ Q (.int (Builtin.Int.intBits n : Nat)) M1) : dBits uo δ M Q := by
  unfold dBits
  revert h
  refine cast (congrArg (fun z => (uo δ M z → _)) (funext fun d => funext fun M1 => ?_)) id
  cases d <;> simp
/-! calls, loops -/
theorem r_call {sp : DSp} {E : DXK} (h : us δ M fun ds M1 => sp ds M1 Q E) : dCall sp [] E us δ M Q := by
  unfold dCall
  revert h
  exact cast (congrArg (fun z => (us δ M z → _)) (funext fun ds => funext fun M1 => by rw [List.append_nil])) id
theorem r_for {di : DTI} (h : di δ M fun ds g1 M1 => dForGo g1 g t D0 ds δ M1) : dFor di g t D0 δ M := h
theorem r_seq {R : List D → (Mu → Prop) → Mu → Prop} (h : ue δ M (kI R)) : diSeq ue δ M R := h
theorem r_kIt {R : List D → (Mu → Prop) → Mu → Prop} (h : R es (fun _ => True) M) : kI R (.tup es) M := h
theorem r_kIl {R : List D → (Mu → Prop) → Mu → Prop} (h : R es (fun _ => True) M) : kI R (.lst es) M := h
theorem r_kIs {R : List D → (Mu → Prop) → Mu → Prop} (h : R (cs.map fun c => .str [c]) (fun _ => True) M) : kI R (.str cs) M := h
theorem r_kIsrc {ns : List Int} {R : List D → (Mu → Prop) → Mu → Prop} (h : R (ns.map .int) (fun _ => True) M) : kI R (.src ns) M := h
theorem r_kIr {R : List D → (Mu → Prop) → Mu → Prop} (e : M a = some (.lst es)) (h : R es (fun M2 => M2 a = some (.lst es)) M) : kI R (.ref a) M := by
  unfold kI; simp only [e]; exact h
theorem r_r1 {R : List D → (Mu → Prop) → Mu → Prop} (h : us δ M (kR1 R)) : diR1 us δ M R := h
theorem r_kR1 {R : List D → (Mu → Prop) → Mu → Prop} (h1 : -(2 ^ 62) ≤ n) (h2 : n < 2 ^ 62) (h : R (rngD 0 n.toNat) (fun _ => True) M) : kR1 R [.int n] M := ⟨h1, h2, h⟩
theorem r_r2 {R : List D → (Mu → Prop) → Mu → Prop} (h : us δ M (kR2 R)) : diR2 us δ M R := h
theorem r_kR2 {R : List D → (Mu → Prop) → Mu → Prop} (h0 : -(2 ^ 62) ≤ n ∧ n < 2 ^ 62 ∧ -(2 ^ 62) ≤ m ∧ m < 2 ^ 62) (h : R (rngD n (m - n).toNat) (fun _ => True) M) : kR2 R [.int n, .int m] M := ⟨h0, h⟩
theorem r_lc {di : DTI} {vs : List Nat} (h : di δ M fun ds g1 M1 => dLcGo g1 g c ue (dwipe δ vs) ds [] M1 fun acc M2 => dNew mu acc M2 Q) : dLc mu di g c ue vs δ M Q := h
/-! what may change -/
theorem sub_new {p : Addr} {o : DO} (h : M p = none) : Sub M (mset M p o) := fun b u e => by
  rw [mset_ne (fun z => by rw [z, h] at e; cases e)]; exact e
theorem ne_new {p q : Addr} {o : DO} (h : M p = some o) (e : M q = none) : p ≠ q := fun z => by rw [z, e] at h; cases h
theorem mset_swap {p q : Addr} {o o' : DO} (h : p ≠ q) : mset (mset M p o) q o' = mset (mset M q o') p o := by
  funext b
  unfold mset
  by_cases h1 : b = q
  · subst h1; rw [if_pos rfl, if_neg (fun z => h z.symm), if_pos rfl]
  · rw [if_neg h1]
    by_cases h2 : b = p
    · rw [if_pos h2, if_pos h2]
    · rw [if_neg h2, if_neg h2, if_neg h1]
theorem lit_len {α : Type} {xs : List α} (n : Nat) (h : xs.length = n) (hn : n ≤ 1000000) : xs.length ≤ sizeLine := sz1000 (h ▸ hn)
theorem lit0 {α : Type} {P : Prop} (h : P) : ([] : List α).length ≤ sizeLine ∧ P := ⟨lit_len 0 rfl (by decide), h⟩
theorem lit1 {α : Type} {a : α} {P : Prop} (h : P) : [a].length ≤ sizeLine ∧ P := ⟨lit_len 1 rfl (by decide), h⟩
theorem lit2 {α : Type} {a b : α} {P : Prop} (h : P) : [a, b].length ≤ sizeLine ∧ P := ⟨lit_len 2 rfl (by decide), h⟩
theorem lit3 {α : Type} {a b c : α} {P : Prop} (h : P) : [a, b, c].length ≤ sizeLine ∧ P := ⟨lit_len 3 rfl (by decide), h⟩
theorem lit4 {α : Type} {a b c d : α} {P : Prop} (h : P) : [a, b, c, d].length ≤ sizeLine ∧ P := ⟨lit_len 4 rfl (by decide), h⟩
theorem lit5 {α : Type} {a b c d e : α} {P : Prop} (h : P) : [a, b, c, d, e].length ≤ sizeLine ∧ P := ⟨lit_len 5 rfl (by decide), h⟩
theorem lit6 {α : Type} {a b c d e f : α} {P : Prop} (h : P) : [a, b, c, d, e, f].length ≤ sizeLine ∧ P := ⟨lit_len 6 rfl (by decide), h⟩
theorem lit7 {α : Type} {a b c d e f g : α} {P : Prop} (h : P) : [a, b, c, d, e, f, g].length ≤ sizeLine ∧ P := ⟨lit_len 7 rfl (by decide), h⟩
end
/-! a middle word -/
theorem via {u : DTE} {δ : DEnv} {M : Mu} {Q : DK} (P : DK) (h1 : ∀ Q' : DK, (∀ d M', P d M' → Q' d M') → u δ M Q') (h2 : ∀ d M', P d M' → Q d M') : u δ M Q := h1 Q h2
theorem viaS {t : DTS} {D0 : DEnds} {δ : DEnv} {M : Mu} (P : DEnv → Mu → Prop) (h1 : ∀ N : DEnv → Mu → Prop, (∀ δ' M', P δ' M' → N δ' M') → t { nx := N, rt := D0.rt, bk := D0.bk, ct := D0.ct } δ M) (h2 : ∀ δ' M', P δ' M' → D0.nx δ' M') : t D0 δ M := h1 D0.nx h2
end DL

namespace DL
open PySem PySem.Spec PyProof.Rows L2 TL
local macro_rules | `(tactic| walk_at "st1") => `(tactic| first
  | with_reducible refine r_sq ?_ | with_reducible refine r_nx ?_ | with_reducible refine r_rt ?_ | with_reducible refine r_rtN ?_ | with_reducible refine r_ex ?_ | with_reducible refine r_as ?_ | with_reducible refine r_bk ?_ | with_reducible refine r_ct ?_
  | ((with_reducible apply r_var); exact rfl) | with_reducible refine r_c ?_ | with_reducible refine r_op ?_ | with_reducible refine r_un ?_ | with_reducible refine r_neg ?_
  | ((with_reducible refine r_dgN rfl ?_); (try simp only [List.set]))
  | with_reducible refine r_dgSub ?_ | with_reducible refine r_dgT rfl ?_ | with_reducible refine r_dga0 ?_ | with_reducible refine r_dga1 ?_ | with_reducible refine r_auS ?_ | ((with_reducible apply r_au); exact rfl)
  | with_reducible refine r_par ?_ | ((with_reducible refine r_kPar rfl ?_); (try simp only [List.set]))
  | with_reducible refine r_addI ?_ | with_reducible refine r_addS ?_ | with_reducible refine r_addT ?_ | with_reducible refine r_addL ?_ | with_reducible refine r_subI ?_ | with_reducible refine r_mulI ?_ | with_reducible refine r_fdiv ?_ | with_reducible refine r_mod ?_ | with_reducible refine r_pow ?_ | with_reducible refine r_shl ?_
  | with_reducible refine r_eqI ?_ | with_reducible refine r_eqS ?_ | with_reducible refine r_eqB ?_ | with_reducible refine r_neI ?_ | with_reducible refine r_neS ?_ | with_reducible refine r_neB ?_ | with_reducible refine r_ltI ?_ | with_reducible refine r_gtI ?_ | with_reducible refine r_leI ?_ | with_reducible refine r_geI ?_ | with_reducible refine r_isN ?_ | with_reducible refine r_notN ?_ | with_reducible refine r_inS ?_
  | with_reducible refine r_test ?_ | with_reducible refine r_kB ?_ | with_reducible refine r_tru ?_ | with_reducible refine r_kTb ?_ | with_reducible refine r_kTi ?_ | with_reducible refine r_kTn ?_ | with_reducible refine r_kTl ?_ | with_reducible refine r_kTt ?_ | with_reducible refine r_kTs ?_ | with_reducible refine r_not ?_ | with_reducible refine r_notV ?_ | with_reducible refine r_yes ?_
  | with_reducible refine r_nil ?_ | with_reducible refine r_cons ?_ | with_reducible refine r_tup ?_ | with_reducible refine r_lst ?_ | with_reducible refine r_newF ?_ | with_reducible refine r_cb ?_
  | with_reducible refine r_lenS ?_ | with_reducible refine r_lenL ?_ | with_reducible refine r_lenT ?_ | with_reducible refine r_lenSrc ?_ | with_reducible refine r_abs ?_ | with_reducible refine r_min2 ?_ | with_reducible refine r_max2 ?_ | with_reducible refine r_intI ?_ | with_reducible refine r_str ?_ | with_reducible refine r_tupT ?_ | with_reducible refine r_tupL ?_ | with_reducible refine r_divmod ?_
  | with_reducible refine r_sl ?_ | with_reducible refine r_noP ?_ | with_reducible refine r_part ?_ | with_reducible refine r_kP ?_ | with_reducible refine r_slS ?_ | with_reducible refine r_slT ?_ | with_reducible refine r_slL ?_ | with_reducible refine r_slSrc ?_
  | with_reducible refine r_bm ?_ | with_reducible refine r_tyS ?_ | with_reducible refine r_starts ?_ | with_reducible refine r_count ?_ | with_reducible refine r_call ?_ | with_reducible refine r_for ?_ | with_reducible refine r_seq ?_ | with_reducible refine r_kIt ?_ | with_reducible refine r_kIl ?_ | with_reducible refine r_kIs ?_ | with_reducible refine r_kIsrc ?_ | with_reducible refine r_r1 ?_ | with_reducible refine r_r2 ?_ | with_reducible refine r_lc ?_
  | with_reducible refine lit0 ?_ | with_reducible refine lit1 ?_ | with_reducible refine lit2 ?_ | with_reducible refine lit3 ?_ | with_reducible refine lit4 ?_ | with_reducible refine lit5 ?_ | with_reducible refine lit6 ?_ | with_reducible refine lit7 ?_
  | fail)
local macro_rules | `(tactic| walk_at "st") => `(tactic| repeat (first | walk_at "st1" | dsimp only))
local macro_rules | `(tactic| walk_at "go") => `(tactic| (simp only [dstart, dEnd, List.map_cons, List.map_nil, List.length_cons, List.length_nil, Nat.reduceAdd, Nat.reduceSub, Nat.zero_add, List.replicate, List.cons_append, List.nil_append]; walk_at "st"))

/-! ### the law's source of numbers -/
/-- a source: k more picks may be made -/
def Src (k : Nat) (o : DO) : Prop := ∃ a b c : Int, o = .lst [.int a, .int b, .int c] ∧ 0 ≤ a ∧ a < 2 ^ 400 ∧ 0 ≤ b ∧ b < 2147483647 ∧ 0 ≤ c ∧ c + k ≤ 2 ^ 60
theorem Src.less {j k : Nat} {o : DO} (h : Src k o) (l : j ≤ k) : Src j o := by
  obtain ⟨a, b, c, e, h1, h2, h3, h4, h5, h6⟩ := h
  exact ⟨a, b, c, e, h1, h2, h3, h4, h5, by omega⟩
def sp_law_pick : DSp := fun ds M Q _ => ∃ a m o k, ds = [.ref a, .int m] ∧ M a = some o ∧ Src (k + 1) o ∧ 0 < m ∧ m < 2 ^ 1000 ∧ ∀ r o', 0 ≤ r → r < m → Src k o' → Q (.int r) (mset M a o')
def t_law_pick : DTS := (dSq (dIfS (dTest (dOp dGt (dOp dIdx (dVar 0) (dC (.int 0))) (dC (.int 0)))) (dSq (dAs (dOp dMod (dCB dInt (dCons (dOp dIdx (dVar 0) (dC (.int 0))) dNil)) (dVar 1)) (dgN 2)) (dSq (dAs (dOp dFdiv (dOp dIdx (dVar 0) (dC (.int 0))) (dVar 1)) (dgSub (dVar 0) (dC (.int 0)))) (dRt (dVar 2)))) dNx) (dSq (dAuS (dVar 0) (dC (.int 2)) (dC (.int 1)) dIAdd) (dSq (dAs (dOp dMod (dCB dInt (dCons (dOp (dAdd false) (dOp (dMul false) (dOp dIdx (dVar 0) (dC (.int 1))) (dC (.int 48271))) (dOp (dMul false) (dOp dIdx (dVar 0) (dC (.int 2))) (dC (.int 90001)))) dNil)) (dC (.int 2147483647))) (dgSub (dVar 0) (dC (.int 1)))) (dRt (dOp dMod (dOp dFdiv (dOp dMod (dCB dInt (dCons (dOp (dAdd false) (dOp (dMul false) (dOp dIdx (dVar 0) (dC (.int 1))) (dC (.int 16807))) (dOp (dMul false) (dOp dIdx (dVar 0) (dC (.int 2))) (dC (.int 5701)))) dNil)) (dC (.int 2147483629))) (dC (.int 8))) (dVar 1))))))
theorem len_law_pick : ∀ ds M Q E, sp_law_pick ds M Q E → ds.length = 2 := by
  intro ds M Q E h
  obtain ⟨a, m, o, k, rfl, _⟩ := h
  rfl
theorem sem_law_pick (ds : List D) (M : Mu) (Q : DK) (E : DXK) (h : sp_law_pick ds M Q E) : t_law_pick (dEnd Q) (dstart 3 ds) M := by
  obtain ⟨p, m, o, k, rfl, hM, ⟨a, b, c, rfl, a0, a1, b0, b1, c0, c1⟩, m0, m1, h⟩ := h
  unfold t_law_pick
  walk_at "go"
  refine r_if ?_
  walk_at "st"
  refine r_idxR hM atI_zero ?_
  walk_at "st"
  refine ⟨fun ha => ?_, fun ha => ?_⟩
  · have ha := of_decide_eq_true ha
    walk_at "st"
    refine r_idxR hM atI_zero ?_
    walk_at "st"
    refine ⟨by omega, ?_⟩
    walk_at "st"
    refine r_idxR hM atI_zero ?_
    walk_at "st"
    refine ⟨div_fit 1000 (by omega) (by omega), ?_⟩
    walk_at "st"
    refine r_setV hM (j := 0) rfl ?_
    walk_at "st"
    refine Wq.now (h _ _ ?_ ?_ ⟨_, b, c, rfl, ?_, ?_, b0, b1, c0, by omega⟩)
    · rw [fmod_pos m0]; exact Int.emod_nonneg _ (by omega)
    · rw [fmod_pos m0]; exact Int.emod_lt_of_pos _ m0
    · rw [fdiv_pos m0]; exact Int.ediv_nonneg a0 (by omega)
    · rw [fdiv_pos m0]; exact Int.lt_of_le_of_lt (Int.ediv_le_self _ a0) a1
  · clear ha
    walk_at "st"
    refine r_getM hM atI_two ?_
    walk_at "st"
    refine r_setV hM (j := 2) rfl ?_
    walk_at "st"
    refine r_idxR mset_same atI_one ?_
    walk_at "st"
    refine ⟨mul_fit 32 32 (by omega) (by decide), ?_⟩
    walk_at "st"
    refine r_idxR mset_same atI_two ?_
    walk_at "st"
    refine ⟨mul_fit 64 32 (by omega) (by decide), ?_⟩
    walk_at "st"
    refine ⟨by decide, ?_⟩
    have p1 : (0 : Int) < 2147483647 := by decide
    have p2 : (0 : Int) < 2147483629 := by decide
    have p3 : (0 : Int) < 8 := by decide
    rw [fmod_pos p1]
    walk_at "st"
    refine r_setV mset_same (j := 1) rfl ?_
    rw [mset_mset]
    walk_at "st"
    refine r_idxR mset_same atI_one ?_
    walk_at "st"
    refine ⟨mul_fit 32 32 (by omega) (by decide), ?_⟩
    walk_at "st"
    refine r_idxR mset_same atI_two ?_
    walk_at "st"
    refine ⟨mul_fit 64 32 (by omega) (by decide), ?_⟩
    walk_at "st"
    refine ⟨by decide, ?_⟩
    rw [fmod_pos p2]
    walk_at "st"
    refine ⟨div_fit 4 (by decide) (by decide), ?_⟩
    walk_at "st"
    refine ⟨by omega, ?_⟩
    rw [fmod_pos m0]
    refine Wq.now (h _ _ (Int.emod_nonneg _ (by omega)) (Int.emod_lt_of_pos _ m0) ⟨a, _, _, rfl, a0, a1, Int.emod_nonneg _ (by omega), Int.emod_lt_of_pos _ p1, by omega, by omega⟩)
/-! one of a list of things -/
def sp_law_one : DSp := fun ds M Q _ => ∃ a xs o k, ds = [.ref a, .lst xs] ∧ M a = some o ∧ Src (k + 1) o ∧ 0 < xs.length ∧ xs.length < 2 ^ 60 ∧ ∀ x o', x ∈ xs → Src k o' → Q x (mset M a o')
def t_law_one : DTS := (dRt (dOp dIdx (dVar 1) (dCall sp_law_pick [] dX0 (dCons (dVar 0) (dCons (dCB dLen (dCons (dVar 1) dNil)) dNil)))))
theorem len_law_one : ∀ ds M Q E, sp_law_one ds M Q E → ds.length = 2 := by
  intro ds M Q E h
  obtain ⟨a, m, o, k, rfl, _⟩ := h
  rfl
theorem sem_law_one (ds : List D) (M : Mu) (Q : DK) (E : DXK) (h : sp_law_one ds M Q E) : t_law_one (dEnd Q) (dstart 2 ds) M := by
  obtain ⟨p, xs, o, k, rfl, hM, hS, l0, l1, h⟩ := h
  unfold t_law_one
  walk_at "go"
  refine ⟨p, _, o, k, rfl, hM, hS, by omega, by omega, fun r o' r0 r1 s' => ?_⟩
  obtain ⟨j, rfl⟩ := Int.eq_ofNat_of_zero_le r0
  have hj : j < xs.length := by omega
  refine r_idxL (atI_nat (xs := xs) (j := j) (List.getElem?_eq_getElem hj)) ?_
  exact Wq.now (h _ _ (List.getElem_mem hj) s')
/-! the source -/
def sp_law_source : DSp := fun ds M Q _ => ∃ ns at', ds = [.src ns, .int at'] ∧ 0 ≤ at' ∧ at' < 1000000 ∧ ∀ p o, M p = none → Src (2 ^ 59) o → Q (.ref p) (mset M p o)
def t_law_source : DTS := (dSq (dAs (dIf (dTest (dOp dLt (dVar 1) (dCB dLen (dCons (dVar 0) dNil)))) (dCB dInt (dCons (dOp dIdx (dVar 0) (dVar 1)) dNil)) (dOp (dAdd false) (dOp (dMul false) (dC (.int 41)) (dCB dSum (dCons (dLc false (diSeq (dSl false (dVar 0) dNoP (dPart (dC (.int 6))))) (dgN 5) dYes (dOp dMod (dCB dInt (dCons (dVar 5) dNil)) (dC (.int 999979))) [5]) dNil))) (dC (.int 29)))) (dgN 2)) (dSq (dAs (dOp dMod (dCB dAbs (dCons (dVar 2) dNil)) (dOp (dMul false) (dOp dPow (dC (.int 10)) (dC (.int 60))) (dOp dPow (dC (.int 10)) (dC (.int 60))))) (dgN 3)) (dSq (dAs (dOp dMod (dCB dInt (dCons (dOp (dAdd false) (dOp (dAdd false) (dOp (dAdd false) (dOp (dMul false) (dC (.int 2)) (dVar 3)) (dIf (dTest (dOp dLt (dVar 2) (dC (.int 0)))) (dC (.int 1)) (dC (.int 0)))) (dOp (dMul false) (dVar 1) (dC (.int 130043)))) (dC (.int 70099))) dNil)) (dC (.int 2147483629))) (dgN 4)) (dRt (dLst true (dCons (dIf (dTest (dOp dGe (dVar 3) (dOp dPow (dC (.int 10)) (dC (.int 18))))) (dVar 3) (dC (.int 0))) (dCons (dOp dMod (dCB dInt (dCons (dOp (dMul false) (dOp (dAdd false) (dVar 4) (dC (.int 7019))) (dOp (dAdd false) (dVar 4) (dC (.int 80021)))) dNil)) (dC (.int 2147483629))) (dCons (dVar 1) dNil))))))))
theorem len_law_source : ∀ ds M Q E, sp_law_source ds M Q E → ds.length = 2 := by
  intro ds M Q E h
  obtain ⟨a, m, rfl, _⟩ := h
  rfl
theorem cutL_none_nat {α : Type} {xs : List α} {n : Nat} : cutL xs none (some (n : Int)) = xs.take n := by
  unfold cutL
  rw [HT.sIx_none, HT.sIx_nat, List.drop_zero, Nat.sub_zero]
  by_cases h : n ≤ xs.length
  · rw [Nat.min_eq_left h]
  · rw [Nat.min_eq_right (by omega), List.take_of_length_le (Nat.le_refl _), List.take_of_length_le (by omega)]
theorem sum_bd {B : Nat} : ∀ ns : List Int, (∀ n ∈ ns, 0 ≤ n ∧ n < B) → 0 ≤ ns.sum ∧ ns.sum ≤ (ns.length * B : Nat)
  | [], _ => by simp
  | n :: ns, h => by
    obtain ⟨h1, h2⟩ := sum_bd ns fun m hm => h m (List.mem_cons_of_mem _ hm)
    obtain ⟨h3, h4⟩ := h n (List.mem_cons_self ..)
    rw [List.sum_cons, List.length_cons, Nat.succ_mul]
    omega
theorem sem_law_source (ds : List D) (M : Mu) (Q : DK) (E : DXK) (h : sp_law_source ds M Q E) : t_law_source (dEnd Q) (dstart 6 ds) M := by
  obtain ⟨ns, at', rfl, a0, a1, h⟩ := h
  unfold t_law_source
  walk_at "go"
  have tail : ∀ cell : Int, (dSq (dAs (dOp dMod (dCB dAbs (dCons (dVar 2) dNil)) (dOp (dMul false) (dOp dPow (dC (.int 10)) (dC (.int 60))) (dOp dPow (dC (.int 10)) (dC (.int 60))))) (dgN 3)) (dSq (dAs (dOp dMod (dCB dInt (dCons (dOp (dAdd false) (dOp (dAdd false) (dOp (dAdd false) (dOp (dMul false) (dC (.int 2)) (dVar 3)) (dIf (dTest (dOp dLt (dVar 2) (dC (.int 0)))) (dC (.int 1)) (dC (.int 0)))) (dOp (dMul false) (dVar 1) (dC (.int 130043)))) (dC (.int 70099))) dNil)) (dC (.int 2147483629))) (dgN 4)) (dRt (dLst true (dCons (dIf (dTest (dOp dGe (dVar 3) (dOp dPow (dC (.int 10)) (dC (.int 18))))) (dVar 3) (dC (.int 0))) (dCons (dOp dMod (dCB dInt (dCons (dOp (dMul false) (dOp (dAdd false) (dVar 4) (dC (.int 7019))) (dOp (dAdd false) (dVar 4) (dC (.int 80021)))) dNil)) (dC (.int 2147483629))) (dCons (dVar 1) dNil))))))) { nx := fun x M => Wq Q D.non M, rt := Wq Q } [some (.src ns), some (.int at'), some (.int cell), none, none, none] M := by
    intro cell
    walk_at "st"
    refine ⟨⟨by decide, by decide, by decide⟩, ?_⟩
    walk_at "st"
    refine ⟨⟨by decide, by decide, by decide⟩, ?_⟩
    walk_at "st"
    refine ⟨mul_fit 200 200 (by decide +kernel) (by decide +kernel), ?_⟩
    walk_at "st"
    refine ⟨by decide +kernel, ?_⟩
    have hs0 : 0 ≤ Int.fmod (cell.natAbs : Int) (10 ^ Int.toNat 60 * 10 ^ Int.toNat 60) := by
      rw [fmod_pos (by decide +kernel)]; exact Int.emod_nonneg _ (by decide +kernel)
    have hs1 : Int.fmod (cell.natAbs : Int) (10 ^ Int.toNat 60 * 10 ^ Int.toNat 60) < 2 ^ 400 := by
      rw [fmod_pos (by decide +kernel)]; exact Int.lt_trans (Int.emod_lt_of_pos _ (by decide +kernel)) (by decide +kernel)
    generalize Int.fmod (cell.natAbs : Int) (10 ^ Int.toNat 60 * 10 ^ Int.toNat 60) = size at hs0 hs1 ⊢
    walk_at "st"
    refine ⟨mul_fit 2 400 (by decide) (by omega), ?_⟩
    walk_at "st"
    refine r_dif ?_
    walk_at "st"
    have rest : ∀ e : Int, (dSq (dAs (dOp dMod (dCB dInt (dCons (dOp (dAdd false) (dOp (dAdd false) (dC (.int (2 * size + e))) (dOp (dMul false) (dVar 1) (dC (.int 130043)))) (dC (.int 70099))) dNil)) (dC (.int 2147483629))) (dgN 4)) (dRt (dLst true (dCons (dIf (dTest (dOp dGe (dVar 3) (dOp dPow (dC (.int 10)) (dC (.int 18))))) (dVar 3) (dC (.int 0))) (dCons (dOp dMod (dCB dInt (dCons (dOp (dMul false) (dOp (dAdd false) (dVar 4) (dC (.int 7019))) (dOp (dAdd false) (dVar 4) (dC (.int 80021)))) dNil)) (dC (.int 2147483629))) (dCons (dVar 1) dNil)))))) { nx := fun x M => Wq Q D.non M, rt := Wq Q } [some (.src ns), some (.int at'), some (.int cell), some (.int size), none, none] M := by
      intro e
      walk_at "st"
      refine ⟨mul_fit 32 32 (by omega) (by decide), ?_⟩
      walk_at "st"
      refine ⟨by decide, ?_⟩
      rw [fmod_pos (j := 2147483629) (by decide)]
      have hz0 : 0 ≤ (2 * size + e + at' * 130043 + 70099) % 2147483629 := Int.emod_nonneg _ (by decide)
      have hz1 : (2 * size + e + at' * 130043 + 70099) % 2147483629 < 2147483629 := Int.emod_lt_of_pos _ (by decide)
      generalize (2 * size + e + at' * 130043 + 70099) % 2147483629 = small at hz0 hz1 ⊢
      walk_at "st"
      refine r_dif ?_
      walk_at "st"
      refine ⟨⟨by decide, by decide, by decide⟩, ?_⟩
      walk_at "st"
      have fin : ∀ a : Int, 0 ≤ a → a < 2 ^ 400 → (dCons (dOp dMod (dCB dInt (dCons (dOp (dMul false) (dOp (dAdd false) (dVar 4) (dC (.int 7019))) (dOp (dAdd false) (dVar 4) (dC (.int 80021)))) dNil)) (dC (.int 2147483629))) (dCons (dVar 1) dNil)) [some (.src ns), some (.int at'), some (.int cell), some (.int size), some (.int small), none] M fun ds M2 => (D.int a :: ds).length ≤ sizeLine ∧ dNew true (D.int a :: ds) M2 (Wq Q) := by
        intro a h0 h1
        walk_at "st"
        refine ⟨mul_fit 40 40 (by omega) (by omega), ?_⟩
        walk_at "st"
        refine ⟨by decide, ?_⟩
        walk_at "st"
        refine r_newT fun p hp => Wq.now (h p _ hp ⟨a, _, at', rfl, h0, h1, ?_, ?_, a0, by omega⟩)
        · rw [fmod_pos (by decide)]; exact Int.emod_nonneg _ (by decide)
        · rw [fmod_pos (by decide)]; exact Int.lt_trans (Int.emod_lt_of_pos _ (by decide)) (by decide)
      refine ⟨fun _ => ?_, fun _ => ?_⟩
      · walk_at "st1"
        exact fin _ hs0 hs1
      · walk_at "st1"
        exact fin _ (by decide) (by decide +kernel)
    refine ⟨fun _ => ?_, fun _ => ?_⟩
    · exact rest 1
    · exact rest 0
  refine r_dif ?_
  walk_at "st"
  refine ⟨fun hl => ?_, fun hl => ?_⟩
  · have hl := of_decide_eq_true hl
    obtain ⟨j, rfl⟩ := Int.eq_ofNat_of_zero_le a0
    have hj : j < ns.length := by omega
    walk_at "st"
    refine r_idxSrc (atI_nat (xs := ns.map D.int) (j := j) (by rw [List.getElem?_map, List.getElem?_eq_getElem hj]; rfl)) ?_
    walk_at "st1"
    walk_at "st1"
    exact tail _
  · clear hl
    walk_at "st"
    rw [show (6 : Int) = ((6 : Nat) : Int) from rfl, cutL_none_nat]
    have hl6 : ((ns.map D.int).take 6).length ≤ 6 := by rw [List.length_take]; omega
    refine lc_map (fun d => match d with
      | .int i => .int (i.fmod 999979)
      | d => d) trivial _ _ (by rw [List.length_nil, Nat.zero_add]; exact sz1000 (by omega)) (fun x hx R hR => ?_) ?_
    · obtain ⟨n, _, rfl⟩ := List.mem_map.mp (List.mem_of_mem_take hx)
      simp only [dwipe, List.set]
      walk_at "st"
      exact ⟨by decide, hR⟩
    · rw [List.nil_append, ← List.map_take, List.map_map]
      walk_at "st"
      refine r_sum (es := ((ns.take 6).map fun i => i.fmod 999979).map D.int) (by rw [List.map_map]; rfl) (intsOf_map _) ?_
      have hb := sum_bd (B := 999979) ((ns.take 6).map fun i => i.fmod 999979) (fun n hn => by
        obtain ⟨m, _, rfl⟩ := List.mem_map.mp hn
        rw [fmod_pos (by decide)]
        exact ⟨Int.emod_nonneg _ (by decide), Int.emod_lt_of_pos _ (by decide)⟩)
      have hl7 : ((ns.take 6).map fun i => i.fmod 999979).length ≤ 6 := by rw [List.length_map, List.length_take]; omega
      have hl8 := Nat.mul_le_mul_right 999979 hl7
      walk_at "st"
      refine ⟨mul_fit 32 64 (by decide) (by omega), ?_⟩
      walk_at "st1"
      walk_at "st1"
      walk_at "st1"
      exact tail _
/-! sameness -/
/-- x looks as the data d does -/
def Vw (M : Mu) (x d : D) : Prop := x = d ∨ ∃ a es, x = .ref a ∧ d = .lst es ∧ M a = some (.lst es)
/-- plain data, not deeper than n -/
def Pl : Nat → D → Prop
  | _, .non => True
  | _, .bl _ => True
  | _, .int _ => True
  | _, .str _ => True
  | n + 1, .tup ds => ds.length ≤ 1000000 ∧ ∀ d ∈ ds, Pl n d
  | n + 1, .lst ds => ds.length ≤ 1000000 ∧ ∀ d ∈ ds, Pl n d
  | _, _ => False
def spS : Nat → DSp
  | 0 => fun _ _ _ _ => False
  | n + 1 => fun ds M Q _ => ∃ x y d, ds = [x, y] ∧ Vw M x d ∧ Vw M y d ∧ Pl n d ∧ Q (.bl true) M
def t_law_same (n : Nat) : DTS := (dSq (dIfS (dOr (dTest (dOp dIsN (dVar 1) (dC .non))) (dTest (dOp dIsN (dVar 0) (dC .non)))) (dRt (dAndV (dOp dIsN (dVar 1) (dC .non)) (dOp dIsN (dVar 0) (dC .non)))) dNx) (dSq (dIfS (dOr (dTru (dCB dIsi (dCons (dVar 1) (dCons (dC (.ty "bool")) dNil)))) (dTru (dCB dIsi (dCons (dVar 0) (dCons (dC (.ty "bool")) dNil))))) (dRt (dAndV (dCB dIsi (dCons (dVar 1) (dCons (dC (.ty "bool")) dNil))) (dAndV (dCB dIsi (dCons (dVar 0) (dCons (dC (.ty "bool")) dNil))) (dOp dEq (dVar 0) (dVar 1))))) dNx) (dSq (dIfS (dTru (dCB dIsi (dCons (dVar 1) (dCons (dC (.ty "int")) dNil)))) (dRt (dAndV (dCB dIsi (dCons (dVar 0) (dCons (dC (.ty "int")) dNil))) (dOp dEq (dVar 0) (dVar 1)))) dNx) (dSq (dIfS (dTru (dCB dIsi (dCons (dVar 1) (dCons (dC (.ty "str")) dNil)))) (dRt (dAndV (dCB dIsi (dCons (dVar 0) (dCons (dC (.ty "str")) dNil))) (dOp dEq (dVar 0) (dVar 1)))) dNx) (dSq (dIfS (dAnd (dTru (dCB dIsi (dCons (dVar 1) (dCons (dC (.ty "tuple")) dNil)))) (dNot (dTru (dCB dIsi (dCons (dVar 0) (dCons (dC (.ty "tuple")) dNil)))))) (dRt (dC (.bl false))) dNx) (dSq (dIfS (dAnd (dTru (dCB dIsi (dCons (dVar 1) (dCons (dC (.ty "list")) dNil)))) (dNot (dTru (dCB dIsi (dCons (dVar 0) (dCons (dC (.ty "list")) dNil)))))) (dRt (dC (.bl false))) dNx) (dSq (dIfS (dTest (dOp dNe (dCB dLen (dCons (dVar 0) dNil)) (dCB dLen (dCons (dVar 1) dNil)))) (dRt (dC (.bl false))) dNx) (dRt (dCB dAll (dCons (dLc false (diR1 (dCons (dCB dLen (dCons (dVar 1) dNil)) dNil)) (dgN 2) dYes (dCall (spS n) [] dX0 (dCons (dOp dIdx (dVar 0) (dVar 2)) (dCons (dOp dIdx (dVar 1) (dVar 2)) dNil))) [2]) dNil))))))))))
theorem len_law_same : ∀ n ds M Q E, spS n ds M Q E → ds.length = 2
  | 0, _, _, _, _, h => h.elim
  | n + 1, ds, M, Q, E, h => by
    obtain ⟨x, y, d, rfl, _⟩ := h
    rfl
theorem r_lenG {M : Mu} {d : D} {es : List D} {Q : DK} (e : dits M d = some es) (q : Q (.int es.length) M) : dLen [d] M Q := by
  unfold dLen
  cases d with
  | str cs => cases e
  | _ => simp only [e]; exact q
theorem r_idxG {M : Mu} {d z : D} {es : List D} {n : Int} {Q : DK} (e : dits M d = some es) (hk : atI es n = some z) (q : Q z M) : dIdx d (.int n) M Q := by
  unfold dIdx
  cases d with
  | str cs => cases e
  | _ => simp only [e, Option.bind_some, hk]; exact q
theorem same_seq {n : Nat} {M : Mu} {Q : DK} {x y : D} {ds : List D} {S : String} (hx : dits M x = some ds) (hy : dits M y = some ds) (nx : DL.isNon x = false) (ny : DL.isNon y = false) (tx : tyNm M x = some S) (ty : tyNm M y = some S) (hS : S = "tuple" ∨ S = "list")
    (hl : ds.length ≤ 1000000) (hp : ∀ d ∈ ds, ∀ Q E, Q (.bl true) M → spS n [d, d] M Q E) (h : Q (.bl true) M) : t_law_same n (dEnd Q) (dstart 3 [x, y]) M := by
  have k1 : kitB S "bool" = some false := by rcases hS with rfl | rfl <;> decide +kernel
  have k2 : kitB S "int" = some false := by rcases hS with rfl | rfl <;> decide +kernel
  have k3 : kitB S "str" = some false := by rcases hS with rfl | rfl <;> decide +kernel
  obtain ⟨k4, e4⟩ : ∃ b, kitB S "tuple" = some b := by rcases hS with rfl | rfl <;> exact ⟨_, rfl⟩
  obtain ⟨k5, e5⟩ : ∃ b, kitB S "list" = some b := by rcases hS with rfl | rfl <;> exact ⟨_, rfl⟩
  unfold t_law_same
  walk_at "go"
  refine r_if (r_or ?_)
  walk_at "st"
  rw [ny]
  refine ⟨fun z => (Bool.noConfusion z), fun _ => ?_⟩
  walk_at "st"
  rw [nx]
  refine ⟨fun z => (Bool.noConfusion z), fun _ => ?_⟩
  walk_at "st"
  refine r_if (r_or ?_)
  walk_at "st"
  refine r_isi ty k1 ?_
  walk_at "st"
  refine ⟨fun z => (Bool.noConfusion z), fun _ => ?_⟩
  walk_at "st"
  refine r_isi tx k1 ?_
  walk_at "st"
  refine ⟨fun z => (Bool.noConfusion z), fun _ => ?_⟩
  walk_at "st"
  refine r_if ?_
  walk_at "st"
  refine r_isi ty k2 ?_
  walk_at "st"
  refine ⟨fun z => (Bool.noConfusion z), fun _ => ?_⟩
  walk_at "st"
  refine r_if ?_
  walk_at "st"
  refine r_isi ty k3 ?_
  walk_at "st"
  refine ⟨fun z => (Bool.noConfusion z), fun _ => ?_⟩
  walk_at "st"
  refine r_if (r_and ?_)
  walk_at "st"
  refine r_isi ty e4 ?_
  walk_at "st"
  have rest : (dSq (dIfS (dAnd (dTru (dCB dIsi (dCons (dVar 1) (dCons (dC (.ty "list")) dNil)))) (dNot (dTru (dCB dIsi (dCons (dVar 0) (dCons (dC (.ty "list")) dNil)))))) (dRt (dC (.bl false))) dNx) (dSq (dIfS (dTest (dOp dNe (dCB dLen (dCons (dVar 0) dNil)) (dCB dLen (dCons (dVar 1) dNil)))) (dRt (dC (.bl false))) dNx) (dRt (dCB dAll (dCons (dLc false (diR1 (dCons (dCB dLen (dCons (dVar 1) dNil)) dNil)) (dgN 2) dYes (dCall (spS n) [] dX0 (dCons (dOp dIdx (dVar 0) (dVar 2)) (dCons (dOp dIdx (dVar 1) (dVar 2)) dNil))) [2]) dNil))))) { nx := fun x M => Wq Q D.non M, rt := Wq Q } [some x, some y, none] M := by
    walk_at "st"
    have rest2 : (dSq (dIfS (dTest (dOp dNe (dCB dLen (dCons (dVar 0) dNil)) (dCB dLen (dCons (dVar 1) dNil)))) (dRt (dC (.bl false))) dNx) (dRt (dCB dAll (dCons (dLc false (diR1 (dCons (dCB dLen (dCons (dVar 1) dNil)) dNil)) (dgN 2) dYes (dCall (spS n) [] dX0 (dCons (dOp dIdx (dVar 0) (dVar 2)) (dCons (dOp dIdx (dVar 1) (dVar 2)) dNil))) [2]) dNil)))) { nx := fun x M => Wq Q D.non M, rt := Wq Q } [some x, some y, none] M := by
      walk_at "st"
      refine r_if ?_
      walk_at "st"
      refine r_lenG hx ?_
      walk_at "st"
      refine r_lenG hy ?_
      walk_at "st"
      refine ⟨fun z => by simp at z, fun _ => ?_⟩
      walk_at "st"
      refine r_lenG hy ?_
      walk_at "st"
      refine r_kR1 (by omega) (by omega) ?_
      rw [Int.toNat_natCast]
      refine lc_map (fun _ => .bl true) trivial _ _ (by rw [rngD_len, List.length_nil, Nat.zero_add]; exact sz1000 hl) (fun z hz R hR => ?_) ?_
      · obtain ⟨j, hj, rfl⟩ := List.mem_map.mp hz
        rw [List.mem_range] at hj
        rw [Int.zero_add]
        simp only [dwipe, List.set]
        walk_at "st"
        have hg := atI_nat (xs := ds) (j := j) (List.getElem?_eq_getElem hj)
        refine r_idxG hx hg ?_
        walk_at "st"
        refine r_idxG hy hg ?_
        walk_at "st"
        exact hp _ (List.getElem_mem hj) _ _ hR
      · walk_at "st"
        refine r_all (bs := List.replicate ds.length true) (es := List.replicate ds.length (.bl true)) ?_ ?_ ?_
        · rw [List.nil_append, List.map_const', rngD_len]; rfl
        · rw [← List.map_replicate, blsOf_map]
        · refine Wq.now ?_
          have : (List.replicate ds.length true).all id = true := by
            rw [List.all_eq_true]
            intro b hb
            exact (List.eq_of_mem_replicate hb)
          rw [this]
          exact h
    refine r_if (r_and ?_)
    walk_at "st"
    refine r_isi ty e5 ?_
    walk_at "st"
    refine ⟨fun z => ?_, fun z => ?_⟩
    · subst z
      walk_at "st"
      refine r_isi tx e5 ?_
      walk_at "st"
      refine ⟨fun z => (Bool.noConfusion z), fun _ => ?_⟩
      exact rest2
    · exact ⟨fun z => (Bool.noConfusion z), fun _ => rest2⟩
  refine ⟨fun z => ?_, fun z => ?_⟩
  · subst z
    walk_at "st"
    refine r_isi tx e4 ?_
    walk_at "st"
    refine ⟨fun z => (Bool.noConfusion z), fun _ => ?_⟩
    exact rest
  · exact ⟨fun z => (Bool.noConfusion z), fun _ => rest⟩
theorem sem_law_same (n : Nat) (ds : List D) (M : Mu) (Q : DK) (E : DXK) (h : spS (n + 1) ds M Q E) : t_law_same n (dEnd Q) (dstart 3 ds) M := by
  obtain ⟨x, y, d, rfl, hx, hy, hp, h⟩ := h
  have seq : ∀ es : List D, (d = .tup es ∨ d = .lst es) → es.length ≤ 1000000 → (∀ e ∈ es, ∀ Q E, Q (.bl true) M → spS n [e, e] M Q E) → t_law_same n (dEnd Q) (dstart 3 [x, y]) M := by
    intro es hd hl hq
    rcases hd with rfl | rfl
    · rcases hx with rfl | ⟨a, fs, _, hz, _⟩
      · rcases hy with rfl | ⟨a, fs, _, hz, _⟩
        · exact same_seq rfl rfl rfl rfl rfl rfl (.inl rfl) hl hq h
        · cases hz
      · cases hz
    · have two : ∀ z, Vw M z (.lst es) → dits M z = some es ∧ DL.isNon z = false ∧ tyNm M z = some "list" := by
        intro z hz
        rcases hz with rfl | ⟨a, fs, rfl, hz, e⟩
        · exact ⟨rfl, rfl, rfl⟩
        · cases hz
          exact ⟨dits_ref e, rfl, tyNm_ref e⟩
      obtain ⟨a1, a2, a3⟩ := two x hx
      obtain ⟨b1, b2, b3⟩ := two y hy
      exact same_seq a1 b1 a2 b2 a3 b3 (.inr rfl) hl hq h
  have atom : (∀ ds, d ≠ .lst ds) → x = d ∧ y = d := fun hd => by
    refine ⟨?_, ?_⟩
    · rcases hx with rfl | ⟨a, fs, _, hz, _⟩
      · rfl
      · exact absurd hz (hd _)
    · rcases hy with rfl | ⟨a, fs, _, hz, _⟩
      · rfl
      · exact absurd hz (hd _)
  cases d with
  | non =>
    obtain ⟨rfl, rfl⟩ := atom (fun _ z => by cases z)
    unfold t_law_same
    walk_at "go"
    refine r_if (r_or ?_)
    walk_at "st"
    refine ⟨fun _ => ?_, fun z => (Bool.noConfusion z)⟩
    refine ⟨fun _ => ?_, fun z => (Bool.noConfusion z)⟩
    walk_at "st"
    refine r_andV ?_
    walk_at "st"
    refine ⟨fun _ => ?_, fun z => (Bool.noConfusion z)⟩
    walk_at "st"
    exact Wq.now h
  | bl b =>
    obtain ⟨rfl, rfl⟩ := atom (fun _ z => by cases z)
    unfold t_law_same
    walk_at "go"
    refine r_if (r_or ?_)
    walk_at "st"
    refine ⟨fun z => (Bool.noConfusion z), fun _ => ?_⟩
    walk_at "st"
    refine ⟨fun z => (Bool.noConfusion z), fun _ => ?_⟩
    walk_at "st"
    refine r_if (r_or ?_)
    walk_at "st"
    refine r_isi (S := "bool") (b := true) rfl (by decide +kernel) ?_
    walk_at "st"
    refine ⟨fun _ => ?_, fun z => (Bool.noConfusion z)⟩
    refine ⟨fun _ => ?_, fun z => (Bool.noConfusion z)⟩
    walk_at "st"
    refine r_andV ?_
    walk_at "st"
    refine r_isi (S := "bool") (b := true) rfl (by decide +kernel) ?_
    walk_at "st"
    refine ⟨fun _ => ?_, fun z => (Bool.noConfusion z)⟩
    refine r_andV ?_
    walk_at "st"
    refine r_isi (S := "bool") (b := true) rfl (by decide +kernel) ?_
    walk_at "st"
    refine ⟨fun _ => ?_, fun z => (Bool.noConfusion z)⟩
    walk_at "st"
    rw [decide_eq_true rfl]
    exact Wq.now h
  | int i =>
    obtain ⟨rfl, rfl⟩ := atom (fun _ z => by cases z)
    unfold t_law_same
    walk_at "go"
    refine r_if (r_or ?_)
    walk_at "st"
    refine ⟨fun z => (Bool.noConfusion z), fun _ => ?_⟩
    walk_at "st"
    refine ⟨fun z => (Bool.noConfusion z), fun _ => ?_⟩
    walk_at "st"
    refine r_if (r_or ?_)
    walk_at "st"
    refine r_isi (S := "int") (b := false) rfl (by decide +kernel) ?_
    walk_at "st"
    refine ⟨fun z => (Bool.noConfusion z), fun _ => ?_⟩
    walk_at "st"
    refine r_isi (S := "int") (b := false) rfl (by decide +kernel) ?_
    walk_at "st"
    refine ⟨fun z => (Bool.noConfusion z), fun _ => ?_⟩
    walk_at "st"
    refine r_if ?_
    walk_at "st"
    refine r_isi (S := "int") (b := true) rfl (by decide +kernel) ?_
    walk_at "st"
    refine ⟨fun _ => ?_, fun z => (Bool.noConfusion z)⟩
    walk_at "st"
    refine r_andV ?_
    walk_at "st"
    refine r_isi (S := "int") (b := true) rfl (by decide +kernel) ?_
    walk_at "st"
    refine ⟨fun _ => ?_, fun z => (Bool.noConfusion z)⟩
    walk_at "st"
    rw [decide_eq_true rfl]
    exact Wq.now h
  | str i =>
    obtain ⟨rfl, rfl⟩ := atom (fun _ z => by cases z)
    unfold t_law_same
    walk_at "go"
    refine r_if (r_or ?_)
    walk_at "st"
    refine ⟨fun z => (Bool.noConfusion z), fun _ => ?_⟩
    walk_at "st"
    refine ⟨fun z => (Bool.noConfusion z), fun _ => ?_⟩
    walk_at "st"
    refine r_if (r_or ?_)
    walk_at "st"
    refine r_isi (S := "str") (b := false) rfl (by decide +kernel) ?_
    walk_at "st"
    refine ⟨fun z => (Bool.noConfusion z), fun _ => ?_⟩
    walk_at "st"
    refine r_isi (S := "str") (b := false) rfl (by decide +kernel) ?_
    walk_at "st"
    refine ⟨fun z => (Bool.noConfusion z), fun _ => ?_⟩
    walk_at "st"
    refine r_if ?_
    walk_at "st"
    refine r_isi (S := "str") (b := false) rfl (by decide +kernel) ?_
    walk_at "st"
    refine ⟨fun z => (Bool.noConfusion z), fun _ => ?_⟩
    walk_at "st"
    refine r_if ?_
    walk_at "st"
    refine r_isi (S := "str") (b := true) rfl (by decide +kernel) ?_
    walk_at "st"
    refine ⟨fun _ => ?_, fun z => (Bool.noConfusion z)⟩
    walk_at "st"
    refine r_andV ?_
    walk_at "st"
    refine r_isi (S := "str") (b := true) rfl (by decide +kernel) ?_
    walk_at "st"
    refine ⟨fun _ => ?_, fun z => (Bool.noConfusion z)⟩
    walk_at "st"
    rw [decide_eq_true rfl]
    exact Wq.now h
  | tup es =>
    cases n with
    | zero => exact hp.elim
    | succ m => exact seq es (.inl rfl) hp.1 fun e he Q E q => ⟨e, e, e, rfl, .inl rfl, .inl rfl, hp.2 e he, q⟩
  | lst es =>
    cases n with
    | zero => exact hp.elim
    | succ m => exact seq es (.inr rfl) hp.1 fun e he Q E q => ⟨e, e, e, rfl, .inl rfl, .inl rfl, hp.2 e he, q⟩
  | src _ => cases n <;> exact hp.elim
  | ref _ => cases n <;> exact hp.elim
  | ty _ => cases n <;> exact hp.elim
def sp_law_same : DSp := spS 9
/-! a def that promises nothing -/
theorem cal_no {P : Program} {w : World} {K : PySem.W.Frag} {mg : Str → Option Value} {base : Heap} {x : Str} {st : Stmt} {N ps : List Str} (d : DefAt K mg x st) (S : FnScope N ps (defScope st))
    (hbind : ∀ (kV doc pm : Value) (an : Option Addr) (cdv ct : Value) (us : List Value), us.length = ps.length → bindArgs (PySem.W.fnOf x x (defArgs st) (defBody st) (defScope st) .none kV doc pm an cdv ct) ⟨us, []⟩ = pure (ps.zip us)) :
    Cal P w K mg base 0 x ps (fun _ _ _ _ => False) := by
  obtain ⟨f, fd, F, m⟩ := d
  refine ⟨f, fd, ⟨fun vs H Q E h => ?_, fun A outer s H args us vs Q E hr he hb hv h => ?_⟩, m, F.kp, ?_⟩
  · obtain ⟨ds, M, F, Qd, Ed, r, s, h, _⟩ := h
    exact h.elim
  · obtain ⟨ds, M, F, Qd, Ed, r, s, h, _⟩ := h
    exact h.elim
  · exact F.bindsN hbind
end DL

namespace DL
open PySem PySem.Spec PyProof.Rows L2 TL

/-! ### from the head's facts to the data layer -/
def mkD (x : Str) (st : Stmt) : He.DefD := ⟨(x, none), x, x, defArgs st, defBody st, defScope st, [], []⟩
section
variable {K : PySem.W.Frag} {h : Heap} {mg : Str → Option Value} {w : World} {fa : List He.Fa} {fn : List He.DefD} {x : Str}
theorem defAt_of (X : K.In h) (G : h.Ns mainGlobals mg) (c : He.SaysD fa fn K) {st : Stmt} (i j : Nat) (h1 : fn[i]? = some (mkD x st)) (h2 : fa[j]? = some (.glo x)) : DefAt K mg x st := by
  obtain ⟨fd, F⟩ := c.def_ i h1
  exact ⟨_, fd, F, He.glo_ok X G (c.fact j h2)⟩
theorem free_of (X : K.In h) (G : h.Ns mainGlobals mg) (c : He.SaysD fa fn K) (j : Nat) (h2 : fa[j]? = some (.free x)) : mg x = none := He.free_ok X G (c.fact j h2)
theorem gcS_of (X : K.In h) (G : h.Ns mainGlobals mg) (c : He.SaysD fa fn K) (j : Nat) {z : Str} {cs : List Nat} (h2 : fa[j]? = some (.str x z)) (e : z = mkS cs) : GC K mg x (.str cs) := by
  obtain ⟨t, e2⟩ := He.str_ok X G (c.fact j h2)
  exact gc_str e2 e
theorem gcI_of (X : K.In h) (G : h.Ns mainGlobals mg) (c : He.SaysD fa fn K) (j : Nat) {i : Int} (h2 : fa[j]? = some (.int x i)) : GC K mg x (.int i) := by
  obtain ⟨t, e2⟩ := He.int_ok X G (c.fact j h2)
  exact ⟨_, .int i, e2, ⟨t, rfl⟩, fun F => by unfold Rp; rfl⟩
theorem gdI_of (X : K.In h) (G : h.Ns mainGlobals mg) {ts : List He.Tab} (c : He.SaysT fa fn ts w K) (j i : Nat) {key : Str} {n : Int} {t : He.Tab} (h2 : fa[j]? = some (.glo x)) (h3 : ts[i]? = some t) (ht : t.1 K = He.ga K x) {kvs : List (Str × He.Dv)} (hv : He.valsB K (He.ga K x) kvs = true) (hm : (key, He.Dv.int n) ∈ kvs) : GD K mg w x key (.int n) := by
  obtain ⟨es, m, hd⟩ := c.tab i h3
  rw [ht] at hd
  obtain ⟨u, e, r⟩ := He.valsB_ok hv hm
  refine ⟨_, .int n, He.glo_ok X G (c.d.fact j h2), ⟨es, m, u, hd.at_, hd.lit, e, r⟩, fun F => by unfold Rp; rfl⟩
end
/-- the law's own def: from its script to True -/
theorem law_sp {K : PySem.W.Frag} {sp : DSp} (h : ∀ ns M Q E, Q (.bl true) M → sp [.src ns] M Q E) (H : Hp) (a : Addr) (ns : List Int) (hS : SqL K H a (ns.map V.int)) : liftSp K sp [.ref a] H (fun v _ => v = .bl true) fun _ _ _ => False := by
  refine ⟨[.src ns], fun _ => none, H, fun d _ => d = .bl true, fun _ _ => False, ?_, ⟨Le.refl H, fun _ _ _ => rfl, fun _ _ e => by cases e⟩, h _ _ _ _ rfl, ?_, fun _ _ _ _ _ q _ _ _ => q.elim⟩
  · refine RpL.cons ?_ RpL.nil
    unfold Rp
    exact ⟨a, rfl, hS⟩
  · intro d M' F' v H' q g s r
    subst q
    unfold Rp at r
    exact r
/-- sameness, to a depth -/
theorem cal_same {P : Program} {w : World} {K : PySem.W.Frag} {mg : Str → Option Value} {base : Heap} {st : Stmt} {N : List Str} (d : DefAt K mg "_law_same" st) (S : FnScope N ["answer", "due"] (defScope st)) (hN : N.length = 3)
    (hb : ∀ (n k : Nat), Cal P w K mg base k "_law_same" ["answer", "due"] (spS n) → ∀ (f : Addr) (cdv : Value) (A : Around) (outer : List Env) (s : Shared) (H : Hp) (E : XK), Room k (A.deeper (envOfC "_law_same" (defScope st) s.heap.objs.size f cdv)) → DSs (cxOf CX0 P w K mg base N "_law_same" (defScope st) f cdv A outer s H E).nox (defBody st) (t_law_same n))
    (hbind : ∀ (kV doc pm : Value) (an : Option Addr) (cdv ct : Value) (us : List Value), us.length = 2 → bindArgs (PySem.W.fnOf "_law_same" "_law_same" (defArgs st) (defBody st) (defScope st) .none kV doc pm an cdv ct) ⟨us, []⟩ = pure ((["answer", "due"] : List Str).zip us)) :
    ∀ n, Cal P w K mg base n "_law_same" ["answer", "due"] (spS n)
  | 0 => cal_no d S hbind
  | n + 1 => cal_of d S (len_law_same (n + 1)) hbind (hb n n (cal_same d S hN hb hbind n)) fun ds M Q E h => by
    rw [hN]
    exact sem_law_same n ds M Q E h
end DL

namespace DL
open PySem PySem.Spec PyProof.Rows L2 TL
/-! ### a tuple of texts of the module -/
def strsB : List Value → List Str → Bool
  | [], [] => true
  | .str a _ :: vs, b :: bs => decide (a = b) && strsB vs bs
  | _, _ => false
def tupB (K : PySem.W.Frag) (a : Addr) (zs : List Str) : Bool := match K.lookup a with
  | some ⟨.type c, _, .seq its _, _⟩ => decide (c = "tuple") && (decide (its.size ≤ 1000) && strsB its.toList zs)
  | _ => false
theorem strsB_ok : ∀ {vs : List Value} {zs : List Str}, strsB vs zs = true → Vals (zs.map V.str) vs
  | [], [], _ => .nil
  | v :: vs, [], h => by cases v <;> cases h
  | [], z :: zs, h => by cases h
  | v :: vs, z :: zs, h => by
    cases v with
    | str a t =>
      obtain ⟨h1, h2⟩ := He.ba h
      have h1 : a = z := of_decide_eq_true h1
      subst h1
      exact .cons ⟨t, rfl⟩ (strsB_ok h2)
    | _ => cases h
theorem rpl_strs {K : PySem.W.Frag} {F : Hp} : ∀ {zs : List Str} {cs : List (List Nat)}, zs = cs.map mkS → RpL K F (cs.map D.str) (zs.map V.str)
  | _, [], e => by subst e; exact RpL.nil
  | _, c :: cs, e => by
    subst e
    exact RpL.cons (by unfold Rp; rfl) (rpl_strs rfl)
theorem gcT_of {K : PySem.W.Frag} {h : Heap} {mg : Str → Option Value} {fa : List He.Fa} {fn : List He.DefD} {x : Str} (X : K.In h) (G : h.Ns mainGlobals mg) (c : He.SaysD fa fn K) (j : Nat) {zs : List Str} {cs : List (List Nat)} (h2 : fa[j]? = some (.glo x)) (ht : tupB K (He.ga K x) zs = true) (e : zs = cs.map mkS) : GC K mg x (.tup (cs.map D.str)) := by
  refine ⟨_, .ref (He.ga K x), He.glo_ok X G (c.fact j h2), rfl, fun F => ?_⟩
  unfold Rp
  refine ⟨_, zs.map V.str, rfl, .inr ?_, rpl_strs e⟩
  unfold tupB at ht
  split at ht
  · next cl _ its n _ e2 =>
    obtain ⟨h3, h4⟩ := He.ba ht
    obtain ⟨h5, h6⟩ := He.ba h4
    have h3 : cl = "tuple" := of_decide_eq_true h3
    subst h3
    exact ⟨_, its, _, e2, rfl, rfl, sz1000 (Nat.le_trans (of_decide_eq_true h5) (by decide)), strsB_ok h6⟩
  · cases ht
end DL

namespace DL
open PySem PySem.Spec PyProof.Rows L2 TL
/-! ### texts: slices, joined texts, lines -/
theorem cutL_nat_none {α : Type} {xs : List α} {n : Nat} : cutL xs (some (n : Int)) none = xs.drop n := by
  unfold cutL
  rw [HT.sIx_none, HT.sIx_nat]
  by_cases h : n ≤ xs.length
  · rw [Nat.min_eq_left h, List.take_of_length_le (by rw [List.length_drop]; omega)]
  · rw [Nat.min_eq_right (by omega), List.drop_of_length_le (Nat.le_refl _), List.drop_of_length_le (by omega), List.take_nil]
theorem cutL_none_neg1 {α : Type} {xs : List α} : cutL xs none (some (-1)) = xs.dropLast := by
  unfold cutL
  rw [HT.sIx_none, List.drop_zero, Nat.sub_zero, List.dropLast_eq_take]
  congr 1
  show (if (-1 : Int) < 0 then ((-1 : Int) + (xs.length : Int)).toNat else min (-1 : Int).toNat xs.length) = _
  rw [if_pos (by decide)]
  omega
theorem join_flat (p : List Nat) : ∀ ps : List (List Nat), joinL [32] (p :: ps) = p ++ (ps.map (32 :: ·)).flatten := by
  intro ps
  induction ps generalizing p with
  | nil => simp [joinL]
  | cons q r ih =>
    show p ++ ([32] ++ joinL [32] (q :: r)) = _
    rw [ih q]
    simp
theorem join_nil : ∀ ps : List (List Nat), joinL [] ps = ps.flatten := by
  intro ps
  induction ps with
  | nil => rfl
  | cons p r ih =>
    cases r with
    | nil => simp [joinL]
    | cons q r =>
      show p ++ ([] ++ joinL [] (q :: r)) = _
      rw [ih]
      simp
theorem join_snoc {S : List Nat} : ∀ {ps : List (List Nat)} {q : List Nat}, ps ≠ [] → joinL S (ps ++ [q]) = joinL S ps ++ (S ++ q)
  | [], _, h => absurd rfl h
  | [p], q, _ => rfl
  | p :: p2 :: r, q, _ => by
    show p ++ (S ++ joinL S ((p2 :: r) ++ [q])) = p ++ (S ++ joinL S (p2 :: r)) ++ (S ++ q)
    rw [join_snoc (by simp)]
    simp
theorem join_free {c : Nat} {S : List Nat} (hS : c ∉ S) : ∀ {ps : List (List Nat)}, (∀ w ∈ ps, c ∉ w) → c ∉ joinL S ps
  | [], _ => by simp [joinL]
  | [p], h => h p (List.mem_cons_self ..)
  | p :: q :: r, h => by
    show c ∉ p ++ (S ++ joinL S (q :: r))
    have i := join_free hS (ps := q :: r) fun w hw => h w (List.mem_cons_of_mem _ hw)
    have j := h p (List.mem_cons_self ..)
    simp [List.mem_append, hS, i, j]
def textOf (ls : List (List Nat)) : List Nat := (ls.map (· ++ [10])).flatten
theorem textOf_cons (l : List Nat) (ls : List (List Nat)) : textOf (l :: ls) = l ++ (10 :: textOf ls) := by
  unfold textOf
  rw [List.map_cons, List.flatten_cons]
  simp
theorem textOf_app (a b : List (List Nat)) : textOf (a ++ b) = textOf a ++ textOf b := by
  unfold textOf
  rw [List.map_append, List.flatten_append]
theorem spl_text : ∀ (ls : List (List Nat)) (r : List Nat), (∀ l ∈ ls, 10 ∉ l) → spl [10] 0 [] (textOf ls ++ r) = ls ++ spl [10] 0 [] r
  | [], r, _ => rfl
  | l :: ls, r, h => by
    rw [textOf_cons, List.append_assoc]
    have := spl_part1 (s := 10) (S := []) (acc := []) (rest := textOf ls ++ r) (h l (List.mem_cons_self ..))
    rw [show l ++ (10 :: textOf ls ++ r) = l ++ ([10] ++ (textOf ls ++ r)) by simp]
    rw [this, List.nil_append, spl_text ls r fun z hz => h z (List.mem_cons_of_mem _ hz)]
    rfl
theorem spl_text0 (ls : List (List Nat)) (h : ∀ l ∈ ls, 10 ∉ l) : spl [10] 0 [] (textOf ls) = ls ++ [[]] := by
  have := spl_text ls [] h
  rw [List.append_nil, spl_nil] at this
  exact this
theorem text_len {B : Nat} : ∀ ls : List (List Nat), (∀ l ∈ ls, l.length ≤ B) → (textOf ls).length ≤ (B + 1) * ls.length
  | [], _ => by simp [textOf]
  | l :: ls, h => by
    rw [textOf_cons, List.length_append, List.length_cons, List.length_cons, Nat.mul_succ]
    have := text_len ls fun z hz => h z (List.mem_cons_of_mem _ hz)
    have := h l (List.mem_cons_self ..)
    omega
theorem sum_lens (L : List (List Nat)) : (L.map (·.length)).sum = L.flatten.length := List.length_flatten.symm
theorem sum_len {B : Nat} : ∀ ps : List (List Nat), (∀ p ∈ ps, p.length ≤ B) → (ps.map (·.length)).sum ≤ B * ps.length
  | [], _ => by simp
  | p :: r, h => by
    rw [List.map_cons, List.sum_cons, List.length_cons, Nat.mul_succ]
    have := sum_len r fun q hq => h q (List.mem_cons_of_mem _ hq)
    have := h p (List.mem_cons_self ..)
    omega
theorem spl_bd (S : List Nat) : ∀ (l : List Nat) (k : Nat) (acc : List Nat), (∀ p ∈ spl S k acc l, p.length ≤ acc.length + l.length) ∧ (spl S k acc l).length ≤ l.length + 1
  | [], k, acc => by rw [spl_nil]; simp
  | c :: r, k + 1, acc => by
    obtain ⟨h1, h2⟩ := spl_bd S r k acc
    show (∀ p ∈ spl S k acc r, _) ∧ (spl S k acc r).length ≤ _
    refine ⟨fun p hp => ?_, ?_⟩
    · have := h1 p hp; rw [List.length_cons]; omega
    · rw [List.length_cons]; omega
  | c :: r, 0, acc => by
    cases h : pre S (c :: r) with
    | true =>
      rw [spl_hit h]
      obtain ⟨h1, h2⟩ := spl_bd S r (S.length - 1) []
      refine ⟨fun p hp => ?_, ?_⟩
      · rcases List.mem_cons.mp hp with rfl | hp
        · omega
        · have := h1 p hp; rw [List.length_cons]; simp at this; omega
      · rw [List.length_cons, List.length_cons]; omega
    | false =>
      rw [spl_miss h]
      obtain ⟨h1, h2⟩ := spl_bd S r 0 (acc ++ [c])
      refine ⟨fun p hp => ?_, ?_⟩
      · have := h1 p hp; rw [List.length_append] at this; simp at this ⊢; omega
      · rw [List.length_cons]; omega
/-- the first of the parts stands at the head -/
theorem spl_first {s : Nat} : ∀ (l acc : List Nat), (∃ w, spl [s] 0 acc l = [acc ++ w] ∧ l = w ∧ s ∉ w) ∨ ∃ w r, l = w ++ (s :: r) ∧ s ∉ w ∧ spl [s] 0 acc l = (acc ++ w) :: spl [s] 0 [] r
  | [], acc => .inl ⟨[], by rw [spl_nil, List.append_nil], rfl, by simp⟩
  | c :: r, acc => by
    by_cases h : c = s
    · subst h
      refine .inr ⟨[], r, rfl, by simp, ?_⟩
      rw [spl_hit (by unfold pre; simp), List.append_nil, show [c].length - 1 = 0 from rfl]
    · have hm : pre [s] (c :: r) = false := pre_of_head [] r h
      rw [spl_miss hm]
      rcases spl_first r (acc ++ [c]) with ⟨w, e, e2, e3⟩ | ⟨w, q, e, e2, e3⟩
      · exact .inl ⟨c :: w, by rw [e]; simp, by rw [e2], by simp [e3]; exact fun z => h z.symm⟩
      · exact .inr ⟨c :: w, q, by rw [e]; rfl, by simp [e2]; exact fun z => h z.symm, by rw [e3]; simp⟩
theorem spl_ne (S : List Nat) (l acc : List Nat) (k : Nat) : spl S k acc l ≠ [] := by
  induction l generalizing k acc with
  | nil => rw [spl_nil]; simp
  | cons c r ih =>
    cases k with
    | zero =>
      cases h : pre S (c :: r) with
      | true => rw [spl_hit h]; simp
      | false => rw [spl_miss h]; exact ih _ _
    | succ k => exact ih _ _
theorem starts_pre {a b : List Nat} (hb : b ≠ []) : Txt.startswith (mkS a) (mkS b) = decide (a.take b.length = b) := by
  have h := at_iff (x := mkS a) (y := mkS b) hb 0
  have e : PySem.StrLaws.At (mkS a) (mkS b) (mkS a).length 0 ↔ Txt.startswith (mkS a) (mkS b) = true := by
    unfold Txt.startswith
    rw [Bool.and_eq_true, decide_eq_true_iff]
    exact Iff.rfl
  rw [Bool.eq_iff_iff, ← e, h, decide_eq_true_iff]
  unfold pre
  rw [beq_iff_eq]
  exact Iff.rfl
theorem numI_nat (n : Nat) : numI (n : Int) = numL n := tl_num n
theorem numI_free {c : Nat} (h : c ≠ 45 ∧ (c < 48 ∨ 57 < c)) (i : Int) : c ∉ numI i := int_text_free' c h i
theorem numI_len {n k : Nat} (hk : 0 < k) (h : n < 10 ^ k) : (numI (n : Int)).length ≤ k := by rw [numI_nat]; exact numL_len hk h
theorem rng_mem {n : Nat} {x : D} (h : x ∈ rngD 0 n) : ∃ j : Nat, j < n ∧ x = .int (j : Int) := by
  obtain ⟨j, hj, rfl⟩ := List.mem_map.mp h
  rw [List.mem_range] at hj
  exact ⟨j, hj, by rw [Int.zero_add]⟩
theorem rng_map (n : Nat) (f : D → D) : (rngD 0 n).map f = (List.range n).map fun j => f (.int ((j : Nat) : Int)) := by
  unfold rngD
  rw [List.map_map]
  refine List.map_congr_left fun j _ => ?_
  show f (.int (0 + (j : Int))) = _
  rw [Int.zero_add]
/-! ### plain data -/
theorem pl_up : ∀ (n : Nat) (d : D), Pl n d → Pl (n + 1) d
  | _, .non, _ => True.intro
  | _, .bl _, _ => True.intro
  | _, .int _, _ => True.intro
  | _, .str _, _ => True.intro
  | 0, .tup _, h => h.elim
  | 0, .lst _, h => h.elim
  | n + 1, .tup ds, h => ⟨h.1, fun d hd => pl_up n d (h.2 d hd)⟩
  | n + 1, .lst ds, h => ⟨h.1, fun d hd => pl_up n d (h.2 d hd)⟩
  | n, .src _, h => by cases n <;> exact h.elim
  | n, .ref _, h => by cases n <;> exact h.elim
  | n, .ty _, h => by cases n <;> exact h.elim
theorem pl_le {m n : Nat} {d : D} (h : Pl m d) (l : m ≤ n) : Pl n d := by
  induction l with
  | refl => exact h
  | step _ ih => exact pl_up _ _ ih
theorem same_of {M : Mu} {x y : D} {Q : DK} {E : DXK} (d : D) (hx : Vw M x d) (hy : Vw M y d) (hp : Pl 8 d) (h : Q (.bl true) M) : sp_law_same [x, y] M Q E := ⟨x, y, d, rfl, hx, hy, hp, h⟩
/-! ### more rules -/
section
variable {δ : DEnv} {M : Mu} {Q : DK} {D0 : DEnds} {c : DTT} {b : DTS} {mu : Bool} {x y : D} {as bs : List D} {a : Addr} {cs : List Nat}
theorem r_while (W : Nat → DEnv → Mu → Prop) (m : Nat) (h0 : W m δ M) (h : ∀ m δ M, W m δ M → c δ M fun k M1 => (k = true → b { nx := fun δ' M' => ∃ m', m' < m ∧ W m' δ' M', rt := D0.rt, ct := fun δ' M' => ∃ m', m' < m ∧ W m' δ' M', bk := D0.nx } δ M1) ∧ (k = false → D0.nx δ M1)) : dWhile c b D0 δ M := by
  refine ⟨W, ⟨m, h0⟩, fun m δ M hw => ?_⟩
  refine cast (congrArg (fun z => c δ M z) (funext fun k => funext fun M1 => ?_)) (h m δ M hw)
  cases k <;> simp
theorem r_addG (hx : dseq M x = some as) (hy : dseq M y = some bs) (hl : as.length + bs.length ≤ sizeLine) (q : dNew mu (as ++ bs) M Q) : dAdd mu x y M Q := by
  unfold dAdd
  cases x <;> first | cases hx; done | skip
  all_goals cases y <;> first | cases hy; done | skip
  all_goals simp only [hx, hy]; exact ⟨hl, q⟩
theorem dseq_sub {M' : Mu} (s : Sub M M') (h : dseq M x = some as) : dseq M' x = some as := by
  cases x with
  | ref a =>
    have h : (match M a with
      | some (.lst ds) => some ds
      | _ => none) = some as := h
    show (match M' a with
      | some (.lst ds) => some ds
      | _ => none) = some as
    cases e : M a with
    | none => rw [e] at h; cases h
    | some o =>
      rw [e] at h
      rw [s a o e]
      exact h
  | lst ds => exact h
  | _ => cases h
theorem r_inT {neg : Bool} (q : Q (.bl (if neg then !inD (.str cs) as else inD (.str cs) as)) M) (h : as.all flatD = true) : dInB neg (.str cs) (.tup as) M Q := by
  unfold dInB
  match cs with
  | [] => exact ⟨rfl, h, q⟩
  | [c] => exact ⟨rfl, h, q⟩
  | c :: d :: r => exact ⟨rfl, h, q⟩
theorem inD_strs (w : List Nat) (ks : List (List Nat)) : inD (.str w) (ks.map .str) = decide (w ∈ ks) := by
  unfold inD
  rw [List.any_map, Bool.eq_iff_iff, List.any_eq_true, decide_eq_true_iff]
  constructor
  · rintro ⟨k, hk, e⟩
    have : k = w := of_decide_eq_true e
    exact this ▸ hk
  · intro h
    exact ⟨w, h, decide_eq_true rfl⟩
theorem r_extend {d : D} (e : M a = some (.lst as)) (h : dseq M d = some bs) (hl : as.length + bs.length ≤ sizeLine) (q : Q .non (mset M a (.lst (as ++ bs)))) : dExtend (.ref a) [d] M Q := by
  unfold dExtend
  simp only [e, h]
  exact ⟨hl, q⟩
theorem r_lenQ {d : D} (e : dseq M d = some as) (q : Q (.int as.length) M) : dLen [d] M Q := r_lenG (by cases d <;> first | exact e | cases e) q
theorem r_idxQ {d z : D} {n : Int} (e : dseq M d = some as) (hk : atI as n = some z) (q : Q z M) : dIdx d (.int n) M Q := r_idxG (by cases d <;> first | exact e | cases e) hk q
theorem r_tupQ {d : D} (e : dseq M d = some as) (q : Q (.tup as) M) : dTupOf [d] M Q := by
  unfold dTupOf
  cases d with
  | tup _ => cases e
  | ref a => simp only [dlis, e]; exact q
  | lst _ => simp only [dlis, e]; exact q
  | _ => cases e
theorem r_kIQ {R : List D → (Mu → Prop) → Mu → Prop} (h : dseq M x = some as) (q : ∀ g : Mu → Prop, g M → R as g M) : kI R x M := by
  cases x with
  | lst ds =>
    cases h
    exact q _ trivial
  | ref a =>
    have h : (match M a with
      | some (.lst ds) => some ds
      | _ => none) = some as := h
    cases e : M a with
    | none => rw [e] at h; cases h
    | some o =>
      rw [e] at h
      cases o with
      | lst ds =>
        cases h
        exact r_kIr e (q _ e)
      | dic _ => cases h
  | _ => cases h
theorem atI_str {L : List (List Nat)} {j : Nat} (h : j < L.length) : atI (L.map D.str) (j : Int) = some (.str (L[j]'h)) := atI_nat (by rw [List.getElem?_map, List.getElem?_eq_getElem h]; rfl)
theorem atI_last {α : Type} {xs : List α} {x : α} (h : xs.getLast? = some x) : atI xs (-1) = some x := by
  have hl : 0 < xs.length := by
    cases xs with
    | nil => cases h
    | cons _ _ => simp
  have e : ixN xs.length (-1) = some (xs.length - 1) := by
    unfold ixN
    rw [if_neg (by decide), if_pos (by omega)]
    congr 1
    omega
  unfold atI
  rw [e, Option.bind_some, ← List.getLast?_eq_getElem?]
  exact h
end
end DL

namespace DL
open PySem PySem.Spec PyProof.Rows L2 TL
/-! ### a - b of two bools -/
def b2I (p : Bool) : Int := if p = true then 1 else 0
def dSubB : DR2
  | .bl p, .bl q, M, Q => Q (.int (b2I p - b2I q)) M
  | _, _, _, _ => False
def rSubB : R2 := fun x y H Q => ∃ p q, x = .bl p ∧ y = .bl q ∧ Q (.int (b2I p - b2I q)) H
theorem op_subB {X : Cx} : OpR X (binaryOp .Sub) rSubB := by
  intro pins s σ H x y v u Q I rx ry h
  obtain ⟨p, q, rfl, rfl, h⟩ := h
  obtain rfl : v = Value.bool p := rx
  obtain rfl : u = Value.bool q := ry
  exact PyProof.Rows.sub_bool ⟨.int (b2I p - b2I q), H, I.tok _, ⟨_, rfl⟩, h⟩
theorem rel_subB {K : PySem.W.Frag} : Rel2 K rSubB dSubB := by
  intro x y vx vy H F M Qd Q rx ry s q po
  cases x <;> first | exact False.elim q | skip
  cases y <;> first | exact False.elim q | skip
  unfold Rp at rx ry
  subst rx ry
  exact ⟨_, _, rfl, rfl, po _ _ _ _ _ q Go.refl s (by unfold Rp; rfl)⟩
theorem de_subB {X : Cx} {a b : Expr} {ua ub : DTE} {pos : Pos} (ha : DE X a ua) (hb : DE X b ub) : DE X (.BinOp a .Sub b pos) (dOp dSubB ua ub) := de_op op_subB rel_subB ha hb
theorem r_subB {p q : Bool} {M : Mu} {Q : DK} (h : Q (.int (b2I p - b2I q)) M) : dSubB (.bl p) (.bl q) M Q := h
/-! ### range(i, j, -1) -/
def rngDn (hi : Int) (n : Nat) : List D := (List.range n).map fun k => .int (hi + (k : Nat) * (-1))
def kR3 (R : List D → (Mu → Prop) → Mu → Prop) : List D → Mu → Prop := fun ds M1 => match ds with
  | [.int i, .int j, .int (-1)] => (-(2 ^ 62) ≤ i ∧ i < 2 ^ 62 ∧ -(2 ^ 62) ≤ j ∧ j < 2 ^ 62) ∧ R (rngDn i (i - j).toNat) (fun _ => True) M1
  | _ => False
def diR3 (ua : DTA) : DTI := fun δ M R => ua δ M (kR3 R)
theorem rngDn_len (lo : Int) (n : Nat) : (rngDn lo n).length = n := by unfold rngDn; rw [List.length_map, List.length_range]
theorem rngDn_at {lo : Int} {n i : Nat} (h : i < n) : (rngDn lo n)[i]? = some (.int (lo + (i : Nat) * (-1))) := by
  unfold rngDn
  rw [List.getElem?_map, List.getElem?_range h]
  rfl
theorem di_r3 {X : Cx} {tg a b c : Expr} {ua : DTA} {p pos : Pos} (hg : Gl X "range") (hm : X.mg "range" = none) (ha : DA X [a, b, c] ua)
    (hs : starEach [a, b, c] X.env = (false, eval a X.env) :: starEach [b, c] X.env := by rfl) (hpl : (backTo pos (starEach [b, c] X.env)).any (·.1) = false := by rfl) :
    DI X tg (.Call (.Name "range" p) [a, b, c] [] pos) (diR3 ua) := PI.weak (pi_range3 hg hm ha hs hpl) fun σ H R h => by
  obtain ⟨δ, M, F, Rd, hE, s, hu, po⟩ := h
  refine ⟨δ, M, F, _, hE, s, hu, fun ds M1 F1 vs H1 q g s1 r => ?_⟩
  unfold kR3 at q
  split at q
  · next i j =>
    obtain ⟨⟨b1, b2, b3, b4⟩, q⟩ := q
    unfold RpL at r
    obtain ⟨x1, r1, rfl, h1, r⟩ := r
    unfold RpL at r
    obtain ⟨x2, r2, rfl, h2, r⟩ := r
    unfold RpL at r
    obtain ⟨x3, r3, rfl, h3, r⟩ := r
    unfold RpL at r
    subst r
    unfold Rp at h1 h2 h3
    subst h1 h2 h3
    refine ⟨i, j, -1, (i - j).toNat, rfl, RgC.neg b1 b2 b3 b4, ?_⟩
    refine po (rngDn i (i - j).toNat) _ M1 F1 H1 (Itc i (-1) (i - j).toNat) (fun _ => True) (YFn fun k => .int (i + (k : Nat) * (-1))) q g s1 (by rw [rngDn_len]; exact walk_rangeC) (fun _ _ _ _ _ _ => trivial) fun k H2 F2 M2 x H3 hi g2 s2 _ y => ?_
    rw [rngDn_len] at hi
    obtain ⟨e1, e2⟩ := y
    subst e1 e2
    exact ⟨F2, s2, Go.refl, _, rngDn_at hi, by unfold Rp; rfl⟩
  · exact q.elim
theorem r_r3 {δ : DEnv} {M : Mu} {us : DTA} {R : List D → (Mu → Prop) → Mu → Prop} (h : us δ M (kR3 R)) : diR3 us δ M R := h
theorem r_kR3 {n m : Int} {M : Mu} {R : List D → (Mu → Prop) → Mu → Prop} (h0 : -(2 ^ 62) ≤ n ∧ n < 2 ^ 62 ∧ -(2 ^ 62) ≤ m ∧ m < 2 ^ 62) (h : R (rngDn n (n - m).toNat) (fun _ => True) M) : kR3 R [.int n, .int m, .int (-1)] M := ⟨h0, h⟩
/-! ### reversed(x), x a tuple -/
def kRv (R : List D → (Mu → Prop) → Mu → Prop) : DK := fun d M1 => match d with
  | .tup ds => R ds.reverse (fun _ => True) M1
  | _ => False
def diRev (ue : DTE) : DTI := fun δ M R => ue δ M (kRv R)
theorem walk_revT {K : PySem.W.Frag} {a : Addr} {xs : List V} : Walk (RT.ItvT K a xs.length) xs.length (fun H => SqT K H a xs) (fun i H x H' => H' = H ∧ xs[xs.length - 1 - i]? = some x) :=
  ⟨fun i _ hi q => ⟨hi, xs, xs[xs.length - 1 - i]'(by omega), q, by simp [show xs.length - 1 - i < xs.length by omega]⟩, fun _ _ => Nat.le_refl _, fun _ _ _ _ _ q y => ⟨y.1, y.2 xs q⟩⟩
theorem di_rev {X : Cx} {tg e : Expr} {ue : DTE} {p pos : Pos} (hg : Gl X "reversed") (hm : X.mg "reversed" = none) (he : DE X e ue) (hs : starEach [e] X.env = (false, eval e X.env) :: starEach [] X.env := by rfl) : DI X tg (.Call (.Name "reversed" p) [e] [] pos) (diRev ue) := PI.weak (RT.pi_revA hg hm he hs) fun σ H R h => by
  obtain ⟨δ, M, F, Rd, hE, s, hu, po⟩ := h
  refine ⟨δ, M, F, _, hE, s, hu, fun d M1 F1 v H1 q g s1 r => ?_⟩
  unfold kRv at q
  cases d with
  | tup ds =>
    unfold Rp at r
    obtain ⟨a, xs, rfl, h1, r1⟩ := r
    refine ⟨a, xs, rfl, .inr ⟨s1.fh.sqT h1, ?_⟩⟩
    refine po ds.reverse _ M1 F1 H1 (RT.ItvT X.K a xs.length) (fun H => SqT X.K H a xs) (fun i H x H' => H' = H ∧ xs[xs.length - 1 - i]? = some x) q g s1 (by rw [List.length_reverse, r1.len]; exact walk_revT) (fun H2 F2 M2 g2 s2 _ => s2.fh.sqT (g2.le.sqT h1)) fun i H2 F2 M2 x H3 hi g2 s2 _ y => ?_
    obtain ⟨e1, e2⟩ := y
    subst e1
    rw [List.length_reverse, r1.len] at hi
    obtain ⟨d, e3, r3⟩ := (r1.mono g2.le).getV e2
    refine ⟨F2, s2, Go.refl, d, ?_, r3⟩
    rw [List.getElem?_reverse (by rw [r1.len]; exact hi), r1.len]
    exact e3
  | _ => exact False.elim q
theorem r_rev {δ : DEnv} {M : Mu} {ue : DTE} {R : List D → (Mu → Prop) → Mu → Prop} (h : ue δ M (kRv R)) : diRev ue δ M R := h
theorem r_kRv {es : List D} {M : Mu} {R : List D → (Mu → Prop) → Mu → Prop} (h : R es.reverse (fun _ => True) M) : kRv R (.tup es) M := h
/-! ### sizes -/
def Bt (k : Nat) (i : Int) : Prop := i.natAbs < 2 ^ k
theorem bt_mul {a b : Nat} {i j : Int} (h1 : Bt a i) (h2 : Bt b j) : Bt (a + b) (i * j) := by
  unfold Bt at *
  rw [Int.natAbs_mul, Nat.pow_add]
  exact Nat.mul_lt_mul'' h1 h2
theorem bt_up {a b : Nat} {i : Int} (h : Bt a i) (l : a ≤ b) : Bt b i := Nat.lt_of_lt_of_le h (Nat.pow_le_pow_right (by decide) l)
theorem bt_add {a b : Nat} {i j : Int} (h1 : Bt a i) (h2 : Bt b j) : Bt (a + b + 1) (i + j) := by
  have h3 := bt_up h1 (Nat.le_add_right a b)
  have h4 := bt_up h2 (Nat.le_add_left b a)
  unfold Bt at *
  rw [Nat.pow_succ]
  omega
theorem bt_neg {a : Nat} {i : Int} (h : Bt a i) : Bt a (-i) := by unfold Bt at *; rw [Int.natAbs_neg]; exact h
theorem bt_sub {a b : Nat} {i j : Int} (h1 : Bt a i) (h2 : Bt b j) : Bt (a + b + 1) (i - j) := by rw [Int.sub_eq_add_neg]; exact bt_add h1 (bt_neg h2)
theorem bt_abs {a : Nat} {i : Int} (h : Bt a i) : Bt a (i.natAbs : Int) := by unfold Bt at *; exact h
theorem bt_lit {i : Int} (k : Nat) (h : i.natAbs < 2 ^ k) : Bt k i := h
theorem bt_fdiv {a : Nat} {i j : Int} (h : Bt a i) : Bt a (i.fdiv j) := Nat.lt_of_le_of_lt (PySem.natAbs_fdiv_le i j) h
theorem cm_ok {a b : Nat} {i j : Int} (h1 : Bt a i) (h2 : Bt b j) (h : a + b ≤ 134217728) : CMulX i j := mulx_ok h1 h2 h
theorem cd_ok {a : Nat} {j : Int} (h0 : j ≠ 0) (h : Bt a j) (hk : a ≤ 8999) : CDivX j := ⟨h0, Nat.lt_of_lt_of_le (PySem.Flt.log2_lt_of (k := a + 1) (by omega) (bt_up h (Nat.le_succ a))) (by omega)⟩
end DL

namespace K64
open PySem PySem.Spec PyProof.Rows L2 TL DL
local macro_rules | `(tactic| walk_at "st1") => `(tactic| first
  | with_reducible refine r_sq ?_ | with_reducible refine r_nx ?_ | with_reducible refine r_rt ?_ | with_reducible refine r_rtN ?_ | with_reducible refine r_ex ?_ | with_reducible refine r_as ?_ | with_reducible refine r_bk ?_ | with_reducible refine r_ct ?_
  | ((with_reducible apply r_var); exact rfl) | with_reducible refine r_c ?_ | with_reducible refine r_op ?_ | with_reducible refine r_un ?_ | with_reducible refine r_neg ?_
  | ((with_reducible refine r_dgN rfl ?_); (try simp only [List.set]))
  | with_reducible refine r_dgSub ?_ | with_reducible refine r_dgT rfl ?_ | with_reducible refine r_dga0 ?_ | with_reducible refine r_dga1 ?_ | with_reducible refine r_auS ?_ | ((with_reducible apply r_au); exact rfl)
  | with_reducible refine r_par ?_ | ((with_reducible refine r_kPar rfl ?_); (try simp only [List.set]))
  | with_reducible refine r_addI ?_ | with_reducible refine r_addS ?_ | with_reducible refine r_addT ?_ | with_reducible refine r_addL ?_ | with_reducible refine r_subI ?_ | with_reducible refine r_mulI ?_ | with_reducible refine r_fdiv ?_ | with_reducible refine r_mod ?_ | with_reducible refine r_pow ?_ | with_reducible refine r_shl ?_
  | with_reducible refine r_eqI ?_ | with_reducible refine r_eqS ?_ | with_reducible refine r_eqB ?_ | with_reducible refine r_neI ?_ | with_reducible refine r_neS ?_ | with_reducible refine r_neB ?_ | with_reducible refine r_ltI ?_ | with_reducible refine r_gtI ?_ | with_reducible refine r_leI ?_ | with_reducible refine r_geI ?_ | with_reducible refine r_isN ?_ | with_reducible refine r_notN ?_ | with_reducible refine r_inS ?_
  | with_reducible refine r_test ?_ | with_reducible refine r_kB ?_ | with_reducible refine r_tru ?_ | with_reducible refine r_kTb ?_ | with_reducible refine r_kTi ?_ | with_reducible refine r_kTn ?_ | with_reducible refine r_kTl ?_ | with_reducible refine r_kTt ?_ | with_reducible refine r_kTs ?_ | with_reducible refine r_not ?_ | with_reducible refine r_notV ?_ | with_reducible refine r_yes ?_
  | with_reducible refine r_nil ?_ | with_reducible refine r_cons ?_ | with_reducible refine r_tup ?_ | with_reducible refine r_lst ?_ | with_reducible refine r_newF ?_ | with_reducible refine r_cb ?_
  | with_reducible refine r_lenS ?_ | with_reducible refine r_lenL ?_ | with_reducible refine r_lenT ?_ | with_reducible refine r_lenSrc ?_ | with_reducible refine r_abs ?_ | with_reducible refine r_min2 ?_ | with_reducible refine r_max2 ?_ | with_reducible refine r_intI ?_ | with_reducible refine r_str ?_ | with_reducible refine r_tupT ?_ | with_reducible refine r_tupL ?_ | with_reducible refine r_divmod ?_
  | with_reducible refine r_sl ?_ | with_reducible refine r_noP ?_ | with_reducible refine r_part ?_ | with_reducible refine r_kP ?_ | with_reducible refine r_slS ?_ | with_reducible refine r_slT ?_ | with_reducible refine r_slL ?_ | with_reducible refine r_slSrc ?_
  | with_reducible refine r_bm ?_ | with_reducible refine r_tyS ?_ | with_reducible refine r_starts ?_ | with_reducible refine r_count ?_ | with_reducible refine r_call ?_ | with_reducible refine r_for ?_ | with_reducible refine r_seq ?_ | with_reducible refine r_kIt ?_ | with_reducible refine r_kIl ?_ | with_reducible refine r_kIs ?_ | with_reducible refine r_kIsrc ?_ | with_reducible refine r_r1 ?_ | with_reducible refine r_r2 ?_ | with_reducible refine r_lc ?_
  | with_reducible refine lit0 ?_ | with_reducible refine lit1 ?_ | with_reducible refine lit2 ?_ | with_reducible refine lit3 ?_ | with_reducible refine lit4 ?_ | with_reducible refine lit5 ?_ | with_reducible refine lit6 ?_ | with_reducible refine lit7 ?_
  | with_reducible refine r_subB ?_ | with_reducible refine r_r3 ?_ | with_reducible refine r_rev ?_ | with_reducible refine r_kRv ?_
  | fail)
local macro_rules | `(tactic| walk_at "st") => `(tactic| repeat (first | walk_at "st1" | dsimp only))
local macro_rules | `(tactic| walk_at "go") => `(tactic| (simp only [dstart, dEnd, List.map_cons, List.map_nil, List.length_cons, List.length_nil, Nat.reduceAdd, Nat.reduceSub, Nat.zero_add, List.replicate, List.cons_append, List.nil_append]; walk_at "st"))

local macro_rules | `(tactic| walk_at "bt") => `(tactic| first | assumption | (refine bt_mul ?_ ?_ <;> walk_at "bt") | (refine bt_sub ?_ ?_ <;> walk_at "bt") | (refine bt_add ?_ ?_ <;> walk_at "bt") | (refine bt_neg ?_ <;> walk_at "bt") | (refine bt_abs ?_ <;> walk_at "bt") | exact bt_lit 64 (by decide +kernel))
local macro_rules | `(tactic| walk_at "cm") => `(tactic| ((refine And.intro ?_ ?_); (focus ((apply cm_ok) <;> first | decide | walk_at "bt"))))
local macro_rules | `(tactic| walk_at "sm") => `(tactic| repeat (first | walk_at "st1" | ((with_reducible apply r_idxT); exact rfl) | ((with_reducible apply r_idxL); exact rfl) | dsimp only | walk_at "cm"))

def iD (ns : List Int) : List D := ns.map D.int
theorem iD_len (ns : List Int) : (iD ns).length = ns.length := by unfold iD; rw [List.length_map]
theorem iD_at {ns : List Int} {j : Nat} (h : j < ns.length) : atI (iD ns) (j : Int) = some (.int ns[j]) := atI_nat (by unfold iD; rw [List.getElem?_map, List.getElem?_eq_getElem h]; rfl)
/-! plain -/
def gcdL (ns : List Int) : Int := ns.foldl (fun g c => (Int.gcd g c : Int)) 0
def cutN (ns : List Int) : Nat → Nat
  | 0 => 0
  | k + 1 => if ns[k]? = some 0 then cutN ns k else k + 1
def trim (ns : List Int) : List Int := ns.take (cutN ns ns.length)
def homS (n m : Int) (a : Int × Int) (c : Int) : Int × Int := (a.1 * n + c * a.2, a.2 * m)
def hom (ns : List Int) (n m : Int) : Int := (ns.reverse.foldl (homS n m) (0, 1)).1
def sg (x : Int) : Int := b2I (decide (0 < x)) - b2I (decide (x < 0))
/-- shapes: leading coefficient above 0 -/
inductive Sh : List Int → Prop
  | lin {c0 c1 : Int} (h : 0 < c1) : Sh [c0, c1]
  | quad {c0 c1 c2 : Int} (h : 0 < c2) (hd : 0 < c1 * c1 - 4 * (c0 * c2)) : Sh [c0, c1, c2]
  | cub {n : Int} (h : 0 < n) : Sh [-n, 0, 0, 1]
def derP : List Int → List Int
  | [_, c1] => [c1]
  | [_, c1, c2] => [c1, c2 * 2]
  | [_, _, _, _] => [0, 0, 3]
  | _ => []
def chainP (ns : List Int) : List (List Int) := match ns with
  | [c0, c1] => [[c0, c1], [c1]]
  | ns => [ns, derP ns, [1]]
def chgS (a : Int × Int) (s : Int) : Int × Int := if s = 0 then a else (if s = -a.2 then a.1 + 1 else a.1, s)
def chg (ss : List Int) : Int := (ss.foldl chgS (0, 0)).1
/-- the number of roots at or below n / m -/
def rootsV (ns : List Int) (n m : Int) : Int := match ns with
  | [_, _] => 1 - chg [sg (hom ns n m), 1]
  | [_, _, _] => 2 - chg [sg (hom ns n m), sg (hom (derP ns) n m), 1]
  | _ => 1 - chg [sg (hom ns n m), sg (hom (derP ns) n m), 1]
/-! ### specs of the program's side -/
def B5 (ns : List Int) : Prop := ns.length ≤ 8 ∧ ∀ c ∈ ns, Bt 2000 c
def B4 (ns : List Int) : Prop := ns.length ≤ 8 ∧ ∀ c ∈ ns, Bt 700 c
def sp_gcd_of : DSp := fun ds M Q _ => ∃ (a b : Int), ds = [.int a, .int b] ∧ Q (.int (Int.gcd a b : Int)) M
def sp_less_q : DSp := fun _ _ _ _ => False
def sp_trimmed : DSp := fun ds M Q _ => ∃ (x : D) (ns : List Int), ds = [x] ∧ dseq M x = some (iD ns) ∧ ns.length ≤ 1000 ∧ Q (.tup (iD (trim ns))) M
def sp_content : DSp := fun ds M Q _ => ∃ (x : D) (ns : List Int), ds = [x] ∧ dits M x = some (iD ns) ∧ Q (.int (gcdL ns)) M
def sp_primitive : DSp := fun ds M Q _ => ∃ (ns : List Int) (l : Int), ds = [.tup (iD ns)] ∧ B4 ns ∧ ns.getLast? = some l ∧ l ≠ 0 ∧ ∀ g ms, ns = ms.map (g * ·) → 0 < g * l → B4 ms → (∀ k, ns = [k] → ms = [1]) → Q (.tup (iD ms)) M
def sp_homogeneous : DSp := fun ds M Q _ => ∃ (ns : List Int) (n m : Int), ds = [.tup (iD ns), .tup [.int n, .int m]] ∧ B5 ns ∧ Bt 2000 n ∧ Bt 2000 m ∧ Q (.int (hom ns n m)) M
def sp_sign : DSp := fun ds M Q _ => ∃ (ns : List Int) (n m : Int), ds = [.tup (iD ns), .tup [.int n, .int m]] ∧ B5 ns ∧ Bt 2000 n ∧ Bt 2000 m ∧ Q (.int (sg (hom ns n m))) M
def sp_derived : DSp := fun ds M Q _ => ∃ (ns : List Int), ds = [.tup (iD ns)] ∧ Sh ns ∧ B4 ns ∧ Q (.tup (iD (derP ns))) M
def sp_remainder : DSp := fun ds M Q _ => ∃ (ns es : List Int), ds = [.tup (iD ns), .tup (iD es)] ∧ ns.length ≤ 4 ∧ (∀ c ∈ ns, Bt 710 c) ∧ (∀ c ∈ es, Bt 710 c) ∧
  ((∃ h, es = [h] ∧ h ≠ 0 ∧ Q (.tup []) M) ∨ (Sh ns ∧ 3 ≤ ns.length ∧ es = derP ns ∧ Q (.tup [.int (-1)]) M))
def sp_quotient : DSp := fun ds M Q _ => ∃ (ns : List Int), ds = [.tup (iD ns), .tup [.int 1]] ∧ 1 ≤ ns.length ∧ B4 ns ∧ Q (.tup (iD ns)) M
def sp_common : DSp := fun ds M Q _ => ∃ (ns : List Int), ds = [.tup (iD ns), .tup (iD (derP ns))] ∧ Sh ns ∧ B4 ns ∧ Q (.tup [.int 1]) M
def sp_free : DSp := fun ds M Q _ => ∃ (ns : List Int), ds = [.tup (iD ns)] ∧ Sh ns ∧ B4 ns ∧ ∀ g ms, 0 < g → ns = ms.map (g * ·) → Sh ms → B4 ms → Q (.tup (iD ms)) M
def polys (ps : List (List Int)) : List D := ps.map fun p => D.tup (iD p)
def sp_chain_of : DSp := fun ds M Q _ => ∃ (ns : List Int), ds = [.tup (iD ns)] ∧ Sh ns ∧ B4 ns ∧ Q (.lst (polys (chainP ns))) M
def sp_changes : DSp := fun ds M Q _ => ∃ (x : D) (ss : List Int), ds = [x] ∧ dseq M x = some (iD ss) ∧ Q (.int (chg ss)) M
def sp_changes_at : DSp := fun ds M Q _ => ∃ (ps : List (List Int)) (n m : Int), ds = [.lst (polys ps), .tup [.int n, .int m]] ∧ ps.length ≤ 8 ∧ (∀ p ∈ ps, p.length ≤ 8 ∧ ∀ c ∈ p, Bt 2000 c) ∧ Bt 2000 n ∧ Bt 2000 m ∧ Q (.int (chg (ps.map fun p => sg (hom p n m)))) M
def farS (side : Int) (p : List Int) : Int := if p.length % 2 = 0 then (if 0 < p.getLastD 0 then 1 else -1) * side else (if 0 < p.getLastD 0 then 1 else -1)
def sp_changes_far : DSp := fun ds M Q _ => ∃ (ps : List (List Int)), ds = [.lst (polys ps), .int (-1)] ∧ ps.length ≤ 8 ∧ (∀ p ∈ ps, p ≠ [] ∧ p.length ≤ 8) ∧ Q (.int (chg (ps.map (farS (-1))))) M
def sp_count_between : DSp := fun ds M Q _ => ∃ (ps : List (List Int)) (n m : Int), ds = [.lst (polys ps), .non, .tup [.int n, .int m]] ∧ ps.length ≤ 8 ∧ (∀ p ∈ ps, p ≠ [] ∧ p.length ≤ 8 ∧ ∀ c ∈ p, Bt 2000 c) ∧ Bt 2000 n ∧ Bt 2000 m ∧ Q (.int (chg (ps.map (farS (-1))) - chg (ps.map fun p => sg (hom p n m)))) M
def sp_roots_in : DSp := fun ds M Q _ => ∃ (ns : List Int) (n m : Int), ds = [.tup (iD ns), .non, .tup [.int n, .int m]] ∧ Sh ns ∧ B4 ns ∧ Bt 2000 n ∧ Bt 2000 m ∧ Q (.int (rootsV ns n m)) M
def lowW : List Nat := [108, 111, 119]
def highW : List Nat := [104, 105, 103, 104]
def judgeV (a : List Int) (i : Int) (b : List Int) (j : Int) (n m : Int) : D :=
  if (if sg (hom a n m) = 0 then rootsV a n m - 1 else rootsV a n m) < i then .str lowW else if j ≤ rootsV b n m then .str highW else .non
def sp_judge_order : DSp := fun ds M Q _ => ∃ (a b : List Int) (i j n m : Int), ds = [.tup [.tup (iD a), .int i], .tup [.tup (iD b), .int j], .tup [.int n, .int m]] ∧ Sh a ∧ B4 a ∧ Sh b ∧ B4 b ∧ Bt 2000 n ∧ Bt 2000 m ∧ Q (judgeV a i b j n m) M
def t_gcd_of : DTS := (dSq (dWhile (dTest (dOp dNe (dVar 1) (dC (.int 0)))) (dPar 0 1 (dCons (dVar 1) (dCons (dOp dMod (dVar 0) (dVar 1)) dNil)))) (dRt (dCB dAbs (dCons (dVar 0) dNil))))
def t_less_q : DTS := (dRt (dOp dLt (dOp (dMul false) (dOp dIdx (dVar 0) (dC (.int 0))) (dOp dIdx (dVar 1) (dC (.int 1)))) (dOp (dMul false) (dOp dIdx (dVar 1) (dC (.int 0))) (dOp dIdx (dVar 0) (dC (.int 1))))))
def t_trimmed : DTS := (dSq (dAs (dCB dLen (dCons (dVar 0) dNil)) (dgN 1)) (dSq (dWhile (dAnd (dTest (dOp dGt (dVar 1) (dC (.int 0)))) (dTest (dOp dEq (dOp dIdx (dVar 0) (dOp dSub (dVar 1) (dC (.int 1)))) (dC (.int 0))))) (dAu 1 dSub (dC (.int 1)))) (dRt (dCB dTupOf (dCons (dSl false (dVar 0) dNoP (dPart (dVar 1))) dNil)))))
def t_content : DTS := (dSq (dAs (dC (.int 0)) (dgN 1)) (dSq (dFor (diSeq (dVar 0)) (dgN 2) (dSq (dAs (dCall sp_gcd_of [] dX0 (dCons (dVar 1) (dCons (dVar 2) dNil))) (dgN 1)) (dIfS (dTest (dOp dEq (dVar 1) (dC (.int 1)))) (dRt (dC (.int 1))) dNx))) (dRt (dVar 1))))
def t_primitive : DTS := (dSq (dIfS (dTest (dOp dEq (dCB dLen (dCons (dVar 0) dNil)) (dC (.int 0)))) dNo dNx) (dSq (dAs (dCall sp_content [] dX0 (dCons (dVar 0) dNil)) (dgN 1)) (dSq (dIfS (dTest (dOp dLt (dOp dIdx (dVar 0) (dUn dNeg (dC (.int 1)))) (dC (.int 0)))) (dAs (dUn dNeg (dVar 1)) (dgN 1)) dNx) (dRt (dCB dTupOf (dCons (dLc false (diSeq (dVar 0)) (dgN 2) dYes (dOp dFdiv (dVar 2) (dVar 1)) [2]) dNil))))))
def t_homogeneous : DTS := (dSq (dAs (dVar 1) (dgT [(dgN 2), (dgN 3)])) (dSq (dAs (dC (.int 0)) (dgN 4)) (dSq (dAs (dC (.int 1)) (dgN 5)) (dSq (dFor (diRev (dVar 0)) (dgN 6) (dSq (dAs (dOp (dAdd false) (dOp (dMul false) (dVar 4) (dVar 2)) (dOp (dMul false) (dVar 6) (dVar 5))) (dgN 4)) (dAs (dOp (dMul false) (dVar 5) (dVar 3)) (dgN 5)))) (dRt (dVar 4))))))
def t_sign : DTS := (dSq (dAs (dCall sp_homogeneous [] dX0 (dCons (dVar 0) (dCons (dVar 1) dNil))) (dgN 2)) (dRt (dOp dSubB (dOp dGt (dVar 2) (dC (.int 0))) (dOp dLt (dVar 2) (dC (.int 0))))))
def t_derived : DTS := (dRt (dCall sp_trimmed [] dX0 (dCons (dLc false (diR2 (dCons (dC (.int 1)) (dCons (dCB dLen (dCons (dVar 0) dNil)) dNil))) (dgN 1) dYes (dOp (dMul false) (dOp dIdx (dVar 0) (dVar 1)) (dVar 1)) [1]) dNil)))
def t_remainder : DTS := (dSq (dAs (dCB (dListOf true) (dCons (dVar 0) dNil)) (dgN 2)) (dSq (dAs (dOp dIdx (dVar 1) (dUn dNeg (dC (.int 1)))) (dgN 3)) (dSq (dAs (dCB dAbs (dCons (dVar 3) dNil)) (dgN 4)) (dSq (dWhile (dTest (dOp dGe (dCB dLen (dCons (dVar 2) dNil)) (dCB dLen (dCons (dVar 1) dNil)))) (dSq (dAs (dIf (dTest (dOp dGt (dVar 3) (dC (.int 0)))) (dOp dIdx (dVar 2) (dUn dNeg (dC (.int 1)))) (dUn dNeg (dOp dIdx (dVar 2) (dUn dNeg (dC (.int 1)))))) (dgN 5)) (dSq (dAs (dOp dSub (dCB dLen (dCons (dVar 2) dNil)) (dCB dLen (dCons (dVar 1) dNil))) (dgN 6)) (dSq (dAs (dLc true (diSeq (dVar 2)) (dgN 9) dYes (dOp (dMul false) (dVar 9) (dVar 4)) [9]) (dgN 2)) (dSq (dFor (diR1 (dCons (dCB dLen (dCons (dVar 1) dNil)) dNil)) (dgN 7) (dAs (dOp dSub (dOp dIdx (dVar 2) (dOp (dAdd false) (dVar 6) (dVar 7))) (dOp (dMul false) (dVar 5) (dOp dIdx (dVar 1) (dVar 7)))) (dgSub (dVar 2) (dOp (dAdd false) (dVar 6) (dVar 7))))) (dAs (dCB (dListOf true) (dCons (dCall sp_trimmed [] dX0 (dCons (dVar 2) dNil)) dNil)) (dgN 2))))))) (dSq (dAs (dCall sp_content [] dX0 (dCons (dVar 2) dNil)) (dgN 8)) (dRt (dCB dTupOf (dCons (dLc false (diSeq (dVar 2)) (dgN 9) dYes (dOp dFdiv (dVar 9) (dVar 8)) [9]) dNil))))))))
def t_quotient : DTS := (dSq (dIfS (dTest (dOp dLt (dCB dLen (dCons (dVar 0) dNil)) (dCB dLen (dCons (dVar 1) dNil)))) (dRt (dIf (dTest (dOp dEq (dCB dLen (dCons (dVar 0) dNil)) (dC (.int 0)))) (dTup dNil) (dC .non))) dNx) (dSq (dAs (dCB (dListOf true) (dCons (dVar 0) dNil)) (dgN 2)) (dSq (dAs (dOp (dMul true) (dLst false (dCons (dC (.int 0)) dNil)) (dOp (dAdd false) (dOp dSub (dCB dLen (dCons (dVar 0) dNil)) (dCB dLen (dCons (dVar 1) dNil))) (dC (.int 1)))) (dgN 3)) (dSq (dFor (diR3 (dCons (dOp dSub (dCB dLen (dCons (dVar 0) dNil)) (dCB dLen (dCons (dVar 1) dNil))) (dCons (dUn dNeg (dC (.int 1))) (dCons (dUn dNeg (dC (.int 1))) dNil)))) (dgN 4) (dSq (dAs (dCB dDivmod (dCons (dOp dIdx (dVar 2) (dOp dSub (dOp (dAdd false) (dVar 4) (dCB dLen (dCons (dVar 1) dNil))) (dC (.int 1)))) (dCons (dOp dIdx (dVar 1) (dUn dNeg (dC (.int 1)))) dNil))) (dgT [(dgN 5), (dgN 6)])) (dSq (dIfS (dTest (dOp dNe (dVar 6) (dC (.int 0)))) (dRt (dC .non)) dNx) (dSq (dAs (dVar 5) (dgSub (dVar 3) (dVar 4))) (dIfS (dTest (dOp dNe (dVar 5) (dC (.int 0)))) (dFor (diR1 (dCons (dCB dLen (dCons (dVar 1) dNil)) dNil)) (dgN 7) (dAs (dOp dSub (dOp dIdx (dVar 2) (dOp (dAdd false) (dVar 4) (dVar 7))) (dOp (dMul false) (dVar 5) (dOp dIdx (dVar 1) (dVar 7)))) (dgSub (dVar 2) (dOp (dAdd false) (dVar 4) (dVar 7))))) dNx))))) (dRt (dIf (dNot (dTru (dCB dAny (dCons (dLc false (diSeq (dVar 2)) (dgN 8) dYes (dOp dNe (dVar 8) (dC (.int 0))) [8]) dNil)))) (dCB dTupOf (dCons (dVar 3) dNil)) (dC .non)))))))
def t_common : DTS := (dSq (dIfS (dAnd (dTest (dOp dEq (dCB dLen (dCons (dVar 0) dNil)) (dC (.int 0)))) (dTest (dOp dEq (dCB dLen (dCons (dVar 1) dNil)) (dC (.int 0))))) dNo dNx) (dSq (dWhile (dTest (dOp dGt (dCB dLen (dCons (dVar 1) dNil)) (dC (.int 0)))) (dPar 0 1 (dCons (dVar 1) (dCons (dCall sp_remainder [] dX0 (dCons (dVar 0) (dCons (dVar 1) dNil))) dNil)))) (dRt (dCall sp_primitive [] dX0 (dCons (dVar 0) dNil)))))
def t_free : DTS := (dSq (dAs (dCall sp_primitive [] dX0 (dCons (dVar 0) dNil)) (dgN 1)) (dSq (dAs (dCall sp_common [] dX0 (dCons (dVar 1) (dCons (dCall sp_derived [] dX0 (dCons (dVar 1) dNil)) dNil))) (dgN 2)) (dRt (dCall sp_quotient [] dX0 (dCons (dVar 1) (dCons (dVar 2) dNil))))))
def t_chain_of : DTS := (dSq (dAs (dLst true (dCons (dVar 0) (dCons (dCall sp_derived [] dX0 (dCons (dVar 0) dNil)) dNil))) (dgN 1)) (dSq (dWhile (dTest (dOp dGt (dCB dLen (dCons (dOp dIdx (dVar 1) (dUn dNeg (dC (.int 1)))) dNil)) (dC (.int 0)))) (dEx (dBM "list" dAppend (dVar 1) (dCons (dCB dTupOf (dCons (dLc false (diSeq (dCall sp_remainder [] dX0 (dCons (dOp dIdx (dVar 1) (dUn dNeg (dC (.int 2)))) (dCons (dOp dIdx (dVar 1) (dUn dNeg (dC (.int 1)))) dNil)))) (dgN 2) dYes (dUn dNeg (dVar 2)) [2]) dNil)) dNil)))) (dRt (dSl false (dVar 1) dNoP (dPart (dUn dNeg (dC (.int 1))))))))
def t_changes : DTS := (dSq (dAs (dC (.int 0)) (dgN 1)) (dSq (dAs (dC (.int 0)) (dgN 2)) (dSq (dFor (diSeq (dVar 0)) (dgN 3) (dIfS (dTest (dOp dNe (dVar 3) (dC (.int 0)))) (dSq (dIfS (dTest (dOp dEq (dVar 3) (dUn dNeg (dVar 2)))) (dAu 1 dIAdd (dC (.int 1))) dNx) (dAs (dVar 3) (dgN 2))) dNx)) (dRt (dVar 1)))))
def t_changes_at : DTS := (dRt (dCall sp_changes [] dX0 (dCons (dLc false (diSeq (dVar 0)) (dgN 2) dYes (dCall sp_sign [] dX0 (dCons (dVar 2) (dCons (dVar 1) dNil))) [2]) dNil)))
def t_changes_far : DTS := (dSq (dAs (dLst true dNil) (dgN 2)) (dSq (dFor (diSeq (dVar 0)) (dgN 3) (dSq (dAs (dIf (dTest (dOp dGt (dOp dIdx (dVar 3) (dUn dNeg (dC (.int 1)))) (dC (.int 0)))) (dC (.int 1)) (dUn dNeg (dC (.int 1)))) (dgN 4)) (dEx (dBM "list" dAppend (dVar 2) (dCons (dIf (dTest (dOp dEq (dOp dIdx (dCB dDivmod (dCons (dCB dLen (dCons (dVar 3) dNil)) (dCons (dC (.int 2)) dNil))) (dC (.int 1))) (dC (.int 0)))) (dOp (dMul false) (dVar 4) (dVar 1)) (dVar 4)) dNil))))) (dRt (dCall sp_changes [] dX0 (dCons (dVar 2) dNil)))))
def t_count_between : DTS := (dSq (dAs (dIf (dTest (dOp dIsN (dVar 1) (dC .non))) (dCall sp_changes_far [] dX0 (dCons (dVar 0) (dCons (dUn dNeg (dC (.int 1))) dNil))) (dCall sp_changes_at [] dX0 (dCons (dVar 0) (dCons (dVar 1) dNil)))) (dgN 3)) (dSq (dAs (dIf (dTest (dOp dIsN (dVar 2) (dC .non))) (dCall sp_changes_far [] dX0 (dCons (dVar 0) (dCons (dC (.int 1)) dNil))) (dCall sp_changes_at [] dX0 (dCons (dVar 0) (dCons (dVar 2) dNil)))) (dgN 4)) (dRt (dOp dSub (dVar 3) (dVar 4)))))
def t_roots_in : DTS := (dSq (dAs (dCall sp_free [] dX0 (dCons (dVar 0) dNil)) (dgN 3)) (dSq (dIfS (dTest (dOp dLt (dCB dLen (dCons (dVar 3) dNil)) (dC (.int 2)))) (dRt (dC (.int 0))) dNx) (dSq (dIfS (dAnd (dTest (dOp dNotN (dVar 1) (dC .non))) (dAnd (dTest (dOp dNotN (dVar 2) (dC .non))) (dNot (dTru (dCall sp_less_q [] dX0 (dCons (dVar 1) (dCons (dVar 2) dNil))))))) (dRt (dC (.int 0))) dNx) (dRt (dCall sp_count_between [] dX0 (dCons (dCall sp_chain_of [] dX0 (dCons (dVar 3) dNil)) (dCons (dVar 1) (dCons (dVar 2) dNil))))))))
def t_judge_order : DTS := (dSq (dAs (dCall sp_roots_in [] dX0 (dCons (dOp dIdx (dVar 0) (dC (.int 0))) (dCons (dC .non) (dCons (dVar 2) dNil)))) (dgN 3)) (dSq (dIfS (dTest (dOp dEq (dCall sp_sign [] dX0 (dCons (dOp dIdx (dVar 0) (dC (.int 0))) (dCons (dVar 2) dNil))) (dC (.int 0)))) (dAu 3 dSub (dC (.int 1))) dNx) (dSq (dIfS (dTest (dOp dLt (dVar 3) (dOp dIdx (dVar 0) (dC (.int 1))))) (dRt (dC (.str [108, 111, 119]))) dNx) (dRt (dIf (dTest (dOp dGe (dCall sp_roots_in [] dX0 (dCons (dOp dIdx (dVar 1) (dC (.int 0))) (dCons (dC .non) (dCons (dVar 2) dNil)))) (dOp dIdx (dVar 1) (dC (.int 1))))) (dC (.str [104, 105, 103, 104])) (dC .non))))))
/-! ### gcd -/
theorem gcd_step (a b : Int) : Int.gcd b (a.fmod b) = Int.gcd a b := by
  refine Nat.dvd_antisymm ?_ ?_
  · have h1 : (Int.gcd b (a.fmod b) : Int) ∣ b := Int.gcd_dvd_left ..
    have h2 : (Int.gcd b (a.fmod b) : Int) ∣ a.fmod b := Int.gcd_dvd_right ..
    have h3 := Int.dvd_add h2 (Int.dvd_trans h1 (Int.dvd_mul_right b (a.fdiv b)))
    rw [Int.fmod_add_mul_fdiv] at h3
    exact Int.dvd_gcd h3 h1
  · have h1 : (Int.gcd a b : Int) ∣ a := Int.gcd_dvd_left ..
    have h2 : (Int.gcd a b : Int) ∣ b := Int.gcd_dvd_right ..
    have e : a.fmod b = a - b * a.fdiv b := by have := Int.fmod_add_mul_fdiv a b; omega
    refine Int.dvd_gcd h2 ?_
    rw [e]
    exact Int.dvd_sub h1 (Int.dvd_trans h2 (Int.dvd_mul_right ..))
theorem fmod_lt {a b : Int} (h : b ≠ 0) : (a.fmod b).natAbs < b.natAbs := by
  have e := Int.fmod_eq_emod (a := a) (b := b)
  have h1 := Int.emod_nonneg a h
  have h2 := Int.emod_lt a h
  rw [e]
  split
  · omega
  · next hn =>
    have h3 : ¬ b ∣ a := fun hd => hn (.inr hd)
    have h4 : a % b ≠ 0 := fun hz => h3 (Int.dvd_of_emod_eq_zero hz)
    have h5 : ¬ 0 ≤ b := fun hz => hn (.inl hz)
    omega
theorem sem_gcd_of (ds : List D) (M : Mu) (Q : DK) (E : DXK) (h : sp_gcd_of ds M Q E) : t_gcd_of (dEnd Q) (dstart 2 ds) M := by
  obtain ⟨a, b, rfl, h⟩ := h
  unfold t_gcd_of
  walk_at "go"
  refine r_while (fun k δ M' => ∃ x y : Int, k = y.natAbs ∧ Int.gcd x y = Int.gcd a b ∧ M' = M ∧ δ = [some (.int x), some (.int y)]) _ ⟨a, b, rfl, rfl, rfl, rfl⟩ ?_
  rintro k δ M' ⟨x, y, rfl, e, rfl, rfl⟩
  walk_at "st"
  refine ⟨fun z => ?_, fun z => ?_⟩
  · have hy : y ≠ 0 := by simpa using z
    walk_at "st"
    refine ⟨hy, ?_⟩
    walk_at "st"
    exact ⟨_, fmod_lt hy, y, x.fmod y, rfl, (gcd_step x y).trans e, by simp⟩
  · have hy : y = 0 := by simpa using z
    subst hy
    walk_at "st"
    rw [Int.gcd_zero_right] at e
    rw [← e] at h
    exact Wq.now h
theorem sem_less_q (ds : List D) (M : Mu) (Q : DK) (E : DXK) (h : sp_less_q ds M Q E) : t_less_q (dEnd Q) (dstart 2 ds) M := h.elim
theorem cutN_le (ns : List Int) : ∀ k, cutN ns k ≤ k
  | 0 => Nat.le_refl _
  | k + 1 => by
    unfold cutN
    split
    · exact Nat.le_succ_of_le (cutN_le ns k)
    · exact Nat.le_refl _
theorem sem_trimmed (ds : List D) (M : Mu) (Q : DK) (E : DXK) (h : sp_trimmed ds M Q E) : t_trimmed (dEnd Q) (dstart 2 ds) M := by
  obtain ⟨x, ns, rfl, hx, hl, h⟩ := h
  unfold t_trimmed
  walk_at "go"
  refine r_lenQ hx ?_
  walk_at "st"
  rw [iD_len]
  refine r_while (fun k δ M' => ∃ j : Nat, j = k ∧ j ≤ ns.length ∧ cutN ns j = cutN ns ns.length ∧ M' = M ∧ δ = [some x, some (.int (j : Int))]) _ ⟨ns.length, rfl, Nat.le_refl _, rfl, rfl, rfl⟩ ?_
  rintro k δ M' ⟨j, rfl, hj, e, rfl, rfl⟩
  have stop : j = cutN ns ns.length → dRt (dCB dTupOf (dCons (dSl false (dVar 0) dNoP (dPart (dVar 1))) dNil)) { nx := fun x M => Wq Q D.non M, rt := Wq Q } [some x, some (.int (j : Int))] M' := fun e => by
    walk_at "st"
    have hs : dSlV false x none (some (j : Int)) M' = fun Q => Q (.lst (iD (trim ns))) M' := by
      have e2 : cutL (iD ns) none (some (j : Int)) = iD (trim ns) := by
        rw [cutL_none_nat, e]
        unfold trim iD
        rw [List.map_take]
      cases x with
      | lst es =>
        cases hx
        funext Q
        show Q _ _ = _
        rw [e2]
      | ref a =>
        have h2 : dlis M' (.ref a) = some (iD ns) := hx
        funext Q
        unfold dSlV
        simp only [h2]
        show Q _ _ = _
        rw [e2]
      | _ => cases hx
    rw [hs]
    walk_at "st"
    exact Wq.now h
  refine r_and ?_
  walk_at "st"
  refine ⟨fun z => ?_, fun z => ⟨fun z => Bool.noConfusion z, fun _ => ?_⟩⟩
  · have hp : 0 < j := by have := of_decide_eq_true z; omega
    obtain ⟨i, rfl⟩ : ∃ i, j = i + 1 := ⟨j - 1, by omega⟩
    have hi : i < ns.length := by omega
    walk_at "st"
    rw [show ((i + 1 : Nat) : Int) - 1 = (i : Int) by omega]
    refine r_idxQ hx (iD_at hi) ?_
    walk_at "st"
    have hc : cutN ns (i + 1) = if ns[i]? = some 0 then cutN ns i else i + 1 := rfl
    rw [List.getElem?_eq_getElem hi] at hc
    refine ⟨fun z => ?_, fun z => ?_⟩
    · have z := of_decide_eq_true z
      rw [z, if_pos rfl] at hc
      walk_at "st"
      refine ⟨i, by omega, i, rfl, by omega, by rw [← hc]; exact e, rfl, ?_⟩
      rw [show ((i + 1 : Nat) : Int) - 1 = (i : Int) by omega]
      rfl
    · have z := of_decide_eq_false z
      rw [if_neg (fun hh => z (Option.some.inj hh))] at hc
      exact stop (by rw [← e, hc])
  · have hp : j = 0 := by have := of_decide_eq_false z; omega
    subst hp
    exact stop (by rw [← e]; rfl)
theorem gcd_one (ns : List Int) : ns.foldl (fun g c => (Int.gcd g c : Int)) 1 = 1 := by
  induction ns with
  | nil => rfl
  | cons c r ih =>
    rw [List.foldl_cons, show ((Int.gcd 1 c : Nat) : Int) = 1 by rw [Int.one_gcd]; rfl]
    exact ih
theorem r_kIits {x : D} {M : Mu} {es : List D} {R : List D → (Mu → Prop) → Mu → Prop} (h : dits M x = some es) (q : ∀ g : Mu → Prop, g M → R es g M) : kI R x M := by
  cases x with
  | tup ds =>
    cases h
    exact q _ trivial
  | src ns =>
    cases h
    exact q _ trivial
  | lst ds => exact r_kIQ h q
  | ref a => exact r_kIQ h q
  | _ => cases h
theorem sem_content (ds : List D) (M : Mu) (Q : DK) (E : DXK) (h : sp_content ds M Q E) : t_content (dEnd Q) (dstart 3 ds) M := by
  obtain ⟨x, ns, rfl, hx, h⟩ := h
  unfold t_content
  walk_at "go"
  refine r_kIits hx fun g hg => ?_
  refine for_inv (fun xs δ M' => ∃ (v : Int) (s2 : Option D) (r : List Int), xs = iD r ∧ r.foldl (fun g c => (Int.gcd g c : Int)) v = gcdL ns ∧ M' = M ∧ δ = [some x, some (.int v), s2]) (fun xs δ M' hh => by obtain ⟨_, _, _, _, _, rfl, _⟩ := hh; exact hg) ?_ ?_ _ _ _ ⟨0, none, ns, rfl, rfl, rfl, rfl⟩
  · rintro y ys δ M' N ⟨v, s2, r, e1, e2, rfl, rfl⟩ hN
    cases r with
    | nil => cases e1
    | cons c r =>
      have e1 : y :: ys = .int c :: iD r := e1
      obtain ⟨rfl, rfl⟩ := List.cons.inj e1
      rw [List.foldl_cons] at e2
      walk_at "st"
      refine ⟨v, c, rfl, ?_⟩
      walk_at "st"
      refine r_if ?_
      walk_at "st"
      refine ⟨fun z => ?_, fun z => ?_⟩
      · have z := of_decide_eq_true z
        rw [z, gcd_one] at e2
        walk_at "st"
        rw [← e2] at h
        exact Wq.now h
      · walk_at "st"
        exact hN _ _ ⟨_, _, r, rfl, e2, rfl, rfl⟩
  · rintro δ M' ⟨v, s2, r, e1, e2, rfl, rfl⟩
    cases r with
    | cons c r => cases e1
    | nil =>
      walk_at "st"
      have e2 : v = gcdL ns := e2
      rw [e2]
      exact Wq.now h
end K64

namespace K64
open PySem PySem.Spec PyProof.Rows L2 TL DL
local macro_rules | `(tactic| walk_at "st1") => `(tactic| first
  | with_reducible refine r_sq ?_ | with_reducible refine r_nx ?_ | with_reducible refine r_rt ?_ | with_reducible refine r_rtN ?_ | with_reducible refine r_ex ?_ | with_reducible refine r_as ?_ | with_reducible refine r_bk ?_ | with_reducible refine r_ct ?_
  | ((with_reducible apply r_var); exact rfl) | with_reducible refine r_c ?_ | with_reducible refine r_op ?_ | with_reducible refine r_un ?_ | with_reducible refine r_neg ?_
  | ((with_reducible refine r_dgN rfl ?_); (try simp only [List.set]))
  | with_reducible refine r_dgSub ?_ | with_reducible refine r_dgT rfl ?_ | with_reducible refine r_dga0 ?_ | with_reducible refine r_dga1 ?_ | with_reducible refine r_auS ?_ | ((with_reducible apply r_au); exact rfl)
  | with_reducible refine r_par ?_ | ((with_reducible refine r_kPar rfl ?_); (try simp only [List.set]))
  | with_reducible refine r_addI ?_ | with_reducible refine r_addS ?_ | with_reducible refine r_addT ?_ | with_reducible refine r_addL ?_ | with_reducible refine r_subI ?_ | with_reducible refine r_mulI ?_ | with_reducible refine r_fdiv ?_ | with_reducible refine r_mod ?_ | with_reducible refine r_pow ?_ | with_reducible refine r_shl ?_
  | with_reducible refine r_eqI ?_ | with_reducible refine r_eqS ?_ | with_reducible refine r_eqB ?_ | with_reducible refine r_neI ?_ | with_reducible refine r_neS ?_ | with_reducible refine r_neB ?_ | with_reducible refine r_ltI ?_ | with_reducible refine r_gtI ?_ | with_reducible refine r_leI ?_ | with_reducible refine r_geI ?_ | with_reducible refine r_isN ?_ | with_reducible refine r_notN ?_ | with_reducible refine r_inS ?_
  | with_reducible refine r_test ?_ | with_reducible refine r_kB ?_ | with_reducible refine r_tru ?_ | with_reducible refine r_kTb ?_ | with_reducible refine r_kTi ?_ | with_reducible refine r_kTn ?_ | with_reducible refine r_kTl ?_ | with_reducible refine r_kTt ?_ | with_reducible refine r_kTs ?_ | with_reducible refine r_not ?_ | with_reducible refine r_notV ?_ | with_reducible refine r_yes ?_
  | with_reducible refine r_nil ?_ | with_reducible refine r_cons ?_ | with_reducible refine r_tup ?_ | with_reducible refine r_lst ?_ | with_reducible refine r_newF ?_ | with_reducible refine r_cb ?_
  | with_reducible refine r_lenS ?_ | with_reducible refine r_lenL ?_ | with_reducible refine r_lenT ?_ | with_reducible refine r_lenSrc ?_ | with_reducible refine r_abs ?_ | with_reducible refine r_min2 ?_ | with_reducible refine r_max2 ?_ | with_reducible refine r_intI ?_ | with_reducible refine r_str ?_ | with_reducible refine r_tupT ?_ | with_reducible refine r_tupL ?_ | with_reducible refine r_divmod ?_
  | with_reducible refine r_sl ?_ | with_reducible refine r_noP ?_ | with_reducible refine r_part ?_ | with_reducible refine r_kP ?_ | with_reducible refine r_slS ?_ | with_reducible refine r_slT ?_ | with_reducible refine r_slL ?_ | with_reducible refine r_slSrc ?_
  | with_reducible refine r_bm ?_ | with_reducible refine r_tyS ?_ | with_reducible refine r_starts ?_ | with_reducible refine r_count ?_ | with_reducible refine r_call ?_ | with_reducible refine r_for ?_ | with_reducible refine r_seq ?_ | with_reducible refine r_kIt ?_ | with_reducible refine r_kIl ?_ | with_reducible refine r_kIs ?_ | with_reducible refine r_kIsrc ?_ | with_reducible refine r_r1 ?_ | with_reducible refine r_r2 ?_ | with_reducible refine r_lc ?_
  | with_reducible refine lit0 ?_ | with_reducible refine lit1 ?_ | with_reducible refine lit2 ?_ | with_reducible refine lit3 ?_ | with_reducible refine lit4 ?_ | with_reducible refine lit5 ?_ | with_reducible refine lit6 ?_ | with_reducible refine lit7 ?_
  | with_reducible refine r_subB ?_ | with_reducible refine r_r3 ?_ | with_reducible refine r_rev ?_ | with_reducible refine r_kRv ?_
  | fail)
local macro_rules | `(tactic| walk_at "st") => `(tactic| repeat (first | walk_at "st1" | dsimp only))
local macro_rules | `(tactic| walk_at "go") => `(tactic| (simp only [dstart, dEnd, List.map_cons, List.map_nil, List.length_cons, List.length_nil, Nat.reduceAdd, Nat.reduceSub, Nat.zero_add, List.replicate, List.cons_append, List.nil_append]; walk_at "st"))

local macro_rules | `(tactic| walk_at "bt") => `(tactic| first | assumption | (refine bt_mul ?_ ?_ <;> walk_at "bt") | (refine bt_sub ?_ ?_ <;> walk_at "bt") | (refine bt_add ?_ ?_ <;> walk_at "bt") | (refine bt_neg ?_ <;> walk_at "bt") | (refine bt_abs ?_ <;> walk_at "bt") | exact bt_lit 64 (by decide +kernel))
local macro_rules | `(tactic| walk_at "cm") => `(tactic| ((refine And.intro ?_ ?_); (focus ((apply cm_ok) <;> first | decide | walk_at "bt"))))
local macro_rules | `(tactic| walk_at "sm") => `(tactic| repeat (first | walk_at "st1" | ((with_reducible apply r_idxT); exact rfl) | ((with_reducible apply r_idxL); exact rfl) | dsimp only | walk_at "cm"))

theorem gcdF_dvd : ∀ (ns : List Int) (v : Int), ns.foldl (fun g c => (Int.gcd g c : Int)) v ∣ v ∧ ∀ c ∈ ns, ns.foldl (fun g c => (Int.gcd g c : Int)) v ∣ c
  | [], v => ⟨Int.dvd_refl _, fun c hc => by cases hc⟩
  | x :: ns, v => by
    obtain ⟨h1, h2⟩ := gcdF_dvd ns (Int.gcd v x : Int)
    rw [List.foldl_cons]
    refine ⟨Int.dvd_trans h1 (Int.gcd_dvd_left ..), fun c hc => ?_⟩
    rcases List.mem_cons.mp hc with rfl | hc
    · exact Int.dvd_trans h1 (Int.gcd_dvd_right ..)
    · exact h2 c hc
theorem gcdF_nn : ∀ (ns : List Int) (v : Int), 0 ≤ v → 0 ≤ ns.foldl (fun g c => (Int.gcd g c : Int)) v
  | [], v, h => h
  | x :: ns, v, h => by
    rw [List.foldl_cons]
    exact gcdF_nn ns _ (by omega)
theorem gcdL_dvd {ns : List Int} {c : Int} (h : c ∈ ns) : gcdL ns ∣ c := (gcdF_dvd ns 0).2 c h
theorem gcdL_nn (ns : List Int) : 0 ≤ gcdL ns := gcdF_nn ns 0 (by decide)
theorem gcdL_one (k : Int) : gcdL [k] = (k.natAbs : Int) := by
  show ((Int.gcd 0 k : Nat) : Int) = _
  rw [Int.gcd_zero_left]
theorem iD_last {ns : List Int} {l : Int} (h : ns.getLast? = some l) : atI (iD ns) (-1) = some (.int l) := atI_last (by unfold iD; rw [List.getLast?_map, h]; rfl)
theorem lc_ints {i : Nat} {te : DTE} {δw : DEnv} {M : Mu} {Q : List D → Mu → Prop} {g : Mu → Prop} (f : Int → Int) (ns : List Int) (hg : g M) (hl : ns.length ≤ 100000) (hs : ∀ c ∈ ns, ∀ R : DK, R (.int (f c)) M → te (δw.set i (some (.int c))) M R) (q : Q (iD (ns.map f)) M) : dLcGo g (dgN i) dYes te δw (iD ns) [] M Q := by
  refine lc_map (fun d => match d with
    | .int c => .int (f c)
    | d => d) hg _ _ (by rw [iD_len, List.length_nil, Nat.zero_add]; exact sz1000 (by omega)) (fun x hx R hR => ?_) ?_
  · obtain ⟨c, hc, rfl⟩ := List.mem_map.mp hx
    exact r_dgN rfl (hs c hc R hR)
  · rw [List.nil_append]
    unfold iD at q ⊢
    rw [List.map_map] at q ⊢
    exact q
theorem sem_primitive (ds : List D) (M : Mu) (Q : DK) (E : DXK) (h : sp_primitive ds M Q E) : t_primitive (dEnd Q) (dstart 3 ds) M := by
  obtain ⟨ns, l, rfl, hB, hl, hl0, h⟩ := h
  have hB1 := hB.1
  have hmem := List.mem_of_getLast? hl
  have hne : ns ≠ [] := fun z => by rw [z] at hl; cases hl
  have hpos : 0 < ns.length := List.length_pos_iff.mpr hne
  unfold t_primitive
  walk_at "go"
  refine r_if ?_
  walk_at "st"
  rw [iD_len]
  refine ⟨fun z => absurd (of_decide_eq_true z) (by omega), fun _ => ?_⟩
  walk_at "st"
  refine ⟨_, ns, rfl, rfl, ?_⟩
  have hg0 : 0 < gcdL ns := by
    have h1 := gcdL_nn ns
    have h2 := gcdL_dvd hmem
    rcases Int.lt_or_eq_of_le h1 with h3 | h3
    · exact h3
    · rw [← h3] at h2
      exact absurd (Int.zero_dvd.mp h2) hl0
  have hgb : Bt 700 (gcdL ns) := by
    have h2 := Int.natAbs_dvd_natAbs.mpr (gcdL_dvd hmem)
    exact Nat.lt_of_le_of_lt (Nat.le_of_dvd (by omega) h2) (hB.2 l hmem)
  have fin : ∀ g : Int, g ≠ 0 → Bt 700 g → (∀ c ∈ ns, g ∣ c) → 0 < g * l → (∀ k, ns = [k] → g = k) → (dRt (dCB dTupOf (dCons (dLc false (diSeq (dVar 0)) (dgN 2) dYes (dOp dFdiv (dVar 2) (dVar 1)) [2]) dNil))) { nx := fun x M => Wq Q D.non M, rt := Wq Q } [some (.tup (iD ns)), some (.int g), none] M := by
    intro g hg hb hd hgl h1
    walk_at "st"
    refine lc_ints (fun c => c.fdiv g) ns trivial (by omega) (fun c hc R hR => ?_) ?_
    · simp only [dwipe, List.set]
      walk_at "st"
      exact ⟨cd_ok hg hb (by decide), hR⟩
    · walk_at "st"
      refine Wq.now (h g _ ?_ hgl ⟨by rw [List.length_map]; exact hB1, ?_⟩ ?_)
      · rw [List.map_map]
        have hh : ∀ L : List Int, (∀ c ∈ L, g ∣ c) → L = L.map ((g * ·) ∘ fun c => c.fdiv g) := by
          intro L hL
          induction L with
          | nil => rfl
          | cons c r ih =>
            rw [List.map_cons, ← ih fun z hz => hL z (List.mem_cons_of_mem _ hz)]
            obtain ⟨k, rfl⟩ := hL c (List.mem_cons_self ..)
            show _ = g * (g * k).fdiv g :: r
            rw [Int.mul_fdiv_cancel_left _ hg]
        exact hh ns hd
      · intro c hc
        obtain ⟨x, hx, rfl⟩ := List.mem_map.mp hc
        exact bt_fdiv (hB.2 x hx)
      · intro k hk
        have := h1 k hk
        subst hk
        subst this
        show [g.fdiv g] = [1]
        rw [Int.fdiv_self hg]
  walk_at "st"
  refine r_if ?_
  walk_at "st"
  refine r_idxT (iD_last hl) ?_
  walk_at "st"
  refine ⟨fun z => ?_, fun z => ?_⟩
  · have z := of_decide_eq_true z
    walk_at "st1"
    walk_at "st1"
    walk_at "st1"
    walk_at "st1"
    walk_at "st1"
    refine fin _ (by omega) (bt_neg hgb) (fun c hc => Int.neg_dvd.mpr (gcdL_dvd hc)) (Int.mul_pos_of_neg_of_neg (by omega) z) fun k hk => ?_
    subst hk
    have : k = l := Option.some.inj hl
    rw [gcdL_one]
    omega
  · have z := of_decide_eq_false z
    walk_at "st1"
    refine fin _ (by omega) hgb (fun c hc => gcdL_dvd hc) (Int.mul_pos hg0 (by omega)) fun k hk => ?_
    subst hk
    have : k = l := Option.some.inj hl
    rw [gcdL_one]
    omega
theorem sem_homogeneous (ds : List D) (M : Mu) (Q : DK) (E : DXK) (h : sp_homogeneous ds M Q E) : t_homogeneous (dEnd Q) (dstart 7 ds) M := by
  obtain ⟨ns, n, m, rfl, hB, hn, hm, h⟩ := h
  unfold t_homogeneous
  walk_at "go"
  have hrev : (iD ns).reverse = iD ns.reverse := by unfold iD; rw [List.map_reverse]
  rw [hrev]
  have hBr : ∀ c ∈ ns.reverse, Bt 2000 c := fun c hc => hB.2 c (List.mem_reverse.mp hc)
  have hlr : ns.reverse.length ≤ 8 := by rw [List.length_reverse]; exact hB.1
  have hgoal : hom ns n m = (ns.reverse.foldl (homS n m) (0, 1)).1 := rfl
  rw [hgoal] at h
  generalize ns.reverse = rs at hBr hlr h ⊢
  refine for_inv (fun xs δ M' => ∃ (t w : Int) (s6 : Option D) (r : List Int), xs = iD r ∧ r.length ≤ 8 ∧ (∀ c ∈ r, Bt 2000 c) ∧ (r.foldl (homS n m) (t, w)) = (rs.foldl (homS n m) (0, 1)) ∧ Bt (100000 * (9 - r.length)) t ∧ Bt (2000 * (9 - r.length)) w ∧ M' = M ∧ δ = [some (.tup (iD ns)), some (.tup [.int n, .int m]), some (.int n), some (.int m), some (.int t), some (.int w), s6]) (fun _ _ _ _ => trivial) ?_ ?_ _ _ _ ⟨0, 1, none, rs, rfl, hlr, hBr, rfl, bt_up (bt_lit 1 (by decide)) (by omega), bt_up (bt_lit 1 (by decide)) (by omega), rfl, rfl⟩
  · rintro x xs δ M' N ⟨t, w, s6, r, e1, hr8, hrB, e2, ht, hw, rfl, rfl⟩ hN
    cases r with
    | nil => cases e1
    | cons c r =>
      have e1 : x :: xs = .int c :: iD r := e1
      obtain ⟨rfl, rfl⟩ := List.cons.inj e1
      rw [List.length_cons] at hr8 ht hw
      have hc := hrB c (List.mem_cons_self ..)
      walk_at "st"
      refine ⟨cm_ok ht hn (by omega), ?_⟩
      walk_at "st"
      refine ⟨cm_ok hc hw (by omega), ?_⟩
      walk_at "st"
      refine ⟨cm_ok hw hm (by omega), ?_⟩
      walk_at "st"
      exact hN _ _ ⟨_, _, _, r, rfl, by omega, fun c hc => hrB c (List.mem_cons_of_mem _ hc), e2, bt_up (bt_add (bt_mul ht hn) (bt_mul hc hw)) (by omega), bt_up (bt_mul hw hm) (by omega), rfl, rfl⟩
  · rintro δ M' ⟨t, w, s6, r, e1, hr8, hrB, e2, ht, hw, rfl, rfl⟩
    cases r with
    | cons c r => cases e1
    | nil =>
      walk_at "st"
      rw [← e2] at h
      exact Wq.now h
theorem sem_sign (ds : List D) (M : Mu) (Q : DK) (E : DXK) (h : sp_sign ds M Q E) : t_sign (dEnd Q) (dstart 3 ds) M := by
  obtain ⟨ns, n, m, rfl, hB, hn, hm, h⟩ := h
  unfold t_sign
  walk_at "go"
  refine ⟨ns, n, m, rfl, hB, hn, hm, ?_⟩
  walk_at "st"
  exact Wq.now h
theorem sem_derived (ds : List D) (M : Mu) (Q : DK) (E : DXK) (h : sp_derived ds M Q E) : t_derived (dEnd Q) (dstart 2 ds) M := by
  obtain ⟨ns, rfl, hS, hB, h⟩ := h
  have b1 : Bt 64 1 := bt_lit 64 (by decide)
  have b2 : Bt 64 2 := bt_lit 64 (by decide)
  have b3 : Bt 64 3 := bt_lit 64 (by decide)
  unfold t_derived
  walk_at "go"
  rw [iD_len]
  have hB1 := hB.1
  refine r_kR2 (by omega) ?_
  have main : ∀ (ms : List Int), (List.range (ns.length - 1)).map (fun k => ns.getD (k + 1) 0 * ((k : Int) + 1)) = ms → trim ms = derP ns → dLcGo (fun _ => True) (dgN 1) dYes (dOp (dMul false) (dOp dIdx (dVar 0) (dVar 1)) (dVar 1)) (dwipe [some (.tup (iD ns)), none] [1]) (rngD 1 ((ns.length : Int) - 1).toNat) [] M fun acc M2 => dNew false acc M2 fun d M1 => dNil [some (.tup (iD ns)), none] M1 fun ds M2 => sp_trimmed (d :: ds) M2 (Wq Q) dX0 := by
    intro ms hms htr
    have hn : ((ns.length : Int) - 1).toNat = ns.length - 1 := by omega
    rw [hn]
    refine lc_map (fun d => match d with
      | .int c => .int (ns.getD c.toNat 0 * c)
      | d => d) trivial _ _ (by rw [rngD_len, List.length_nil, Nat.zero_add]; exact sz1000 (by omega)) (fun x hx R hR => ?_) ?_
    · obtain ⟨j, hj, rfl⟩ := List.mem_map.mp hx
      rw [List.mem_range] at hj
      have hj1 : j + 1 < ns.length := by omega
      simp only [dwipe, List.set]
      walk_at "st"
      rw [show (1 : Int) + (j : Int) = ((j + 1 : Nat) : Int) by omega] at hR ⊢
      refine r_idxT (iD_at hj1) ?_
      walk_at "st"
      have hbj : Bt 64 ((j + 1 : Nat) : Int) := by
        show (j + 1) < 2 ^ 64
        omega
      refine ⟨cm_ok (hB.2 _ (List.getElem_mem hj1)) hbj (by decide), ?_⟩
      simp only [Int.toNat_natCast, List.getD_eq_getElem?_getD, List.getElem?_eq_getElem hj1, Option.getD_some] at hR
      exact hR
    · rw [List.nil_append]
      walk_at "st"
      refine ⟨_, ms, rfl, ?_, ?_, ?_⟩
      · show some _ = some _
        congr 1
        rw [← hms]
        unfold rngD iD
        rw [List.map_map, List.map_map]
        refine List.map_congr_left fun k _ => ?_
        show D.int (ns.getD ((1 : Int) + (k : Int)).toNat 0 * ((1 : Int) + (k : Int))) = D.int (ns.getD (k + 1) 0 * ((k : Int) + 1))
        rw [show ((1 : Int) + (k : Int)).toNat = k + 1 by omega, Int.add_comm 1 (k : Int)]
      · rw [← hms, List.length_map, List.length_range]
        omega
      · rw [htr]
        exact Wq.now h
  cases hS with
  | lin h1 =>
    rename_i c0 c1
    refine main [c1] (by simp [List.range, List.range.loop]) ?_
    have : c1 ≠ 0 := by omega
    simp [trim, cutN, derP, this]
  | quad h1 hd =>
    rename_i c0 c1 c2
    refine main [c1, c2 * 2] (by simp [List.range, List.range.loop]) ?_
    have : c2 * 2 ≠ 0 := by omega
    simp [trim, cutN, derP, this]
  | cub h1 =>
    rename_i n
    refine main [0, 0, 3] (by simp [List.range, List.range.loop]) ?_
    simp [trim, cutN, derP]
end K64

namespace K64
open PySem PySem.Spec PyProof.Rows L2 TL DL
local macro_rules | `(tactic| walk_at "st1") => `(tactic| first
  | with_reducible refine r_sq ?_ | with_reducible refine r_nx ?_ | with_reducible refine r_rt ?_ | with_reducible refine r_rtN ?_ | with_reducible refine r_ex ?_ | with_reducible refine r_as ?_ | with_reducible refine r_bk ?_ | with_reducible refine r_ct ?_
  | ((with_reducible apply r_var); exact rfl) | with_reducible refine r_c ?_ | with_reducible refine r_op ?_ | with_reducible refine r_un ?_ | with_reducible refine r_neg ?_
  | ((with_reducible refine r_dgN rfl ?_); (try simp only [List.set]))
  | with_reducible refine r_dgSub ?_ | with_reducible refine r_dgT rfl ?_ | with_reducible refine r_dga0 ?_ | with_reducible refine r_dga1 ?_ | with_reducible refine r_auS ?_ | ((with_reducible apply r_au); exact rfl)
  | with_reducible refine r_par ?_ | ((with_reducible refine r_kPar rfl ?_); (try simp only [List.set]))
  | with_reducible refine r_addI ?_ | with_reducible refine r_addS ?_ | with_reducible refine r_addT ?_ | with_reducible refine r_addL ?_ | with_reducible refine r_subI ?_ | with_reducible refine r_mulI ?_ | with_reducible refine r_fdiv ?_ | with_reducible refine r_mod ?_ | with_reducible refine r_pow ?_ | with_reducible refine r_shl ?_
  | with_reducible refine r_eqI ?_ | with_reducible refine r_eqS ?_ | with_reducible refine r_eqB ?_ | with_reducible refine r_neI ?_ | with_reducible refine r_neS ?_ | with_reducible refine r_neB ?_ | with_reducible refine r_ltI ?_ | with_reducible refine r_gtI ?_ | with_reducible refine r_leI ?_ | with_reducible refine r_geI ?_ | with_reducible refine r_isN ?_ | with_reducible refine r_notN ?_ | with_reducible refine r_inS ?_
  | with_reducible refine r_test ?_ | with_reducible refine r_kB ?_ | with_reducible refine r_tru ?_ | with_reducible refine r_kTb ?_ | with_reducible refine r_kTi ?_ | with_reducible refine r_kTn ?_ | with_reducible refine r_kTl ?_ | with_reducible refine r_kTt ?_ | with_reducible refine r_kTs ?_ | with_reducible refine r_not ?_ | with_reducible refine r_notV ?_ | with_reducible refine r_yes ?_
  | with_reducible refine r_nil ?_ | with_reducible refine r_cons ?_ | with_reducible refine r_tup ?_ | with_reducible refine r_lst ?_ | with_reducible refine r_newF ?_ | with_reducible refine r_cb ?_
  | with_reducible refine r_lenS ?_ | with_reducible refine r_lenL ?_ | with_reducible refine r_lenT ?_ | with_reducible refine r_lenSrc ?_ | with_reducible refine r_abs ?_ | with_reducible refine r_min2 ?_ | with_reducible refine r_max2 ?_ | with_reducible refine r_intI ?_ | with_reducible refine r_str ?_ | with_reducible refine r_tupT ?_ | with_reducible refine r_tupL ?_ | with_reducible refine r_divmod ?_
  | with_reducible refine r_sl ?_ | with_reducible refine r_noP ?_ | with_reducible refine r_part ?_ | with_reducible refine r_kP ?_ | with_reducible refine r_slS ?_ | with_reducible refine r_slT ?_ | with_reducible refine r_slL ?_ | with_reducible refine r_slSrc ?_
  | with_reducible refine r_bm ?_ | with_reducible refine r_tyS ?_ | with_reducible refine r_starts ?_ | with_reducible refine r_count ?_ | with_reducible refine r_call ?_ | with_reducible refine r_for ?_ | with_reducible refine r_seq ?_ | with_reducible refine r_kIt ?_ | with_reducible refine r_kIl ?_ | with_reducible refine r_kIs ?_ | with_reducible refine r_kIsrc ?_ | with_reducible refine r_r1 ?_ | with_reducible refine r_r2 ?_ | with_reducible refine r_lc ?_
  | with_reducible refine lit0 ?_ | with_reducible refine lit1 ?_ | with_reducible refine lit2 ?_ | with_reducible refine lit3 ?_ | with_reducible refine lit4 ?_ | with_reducible refine lit5 ?_ | with_reducible refine lit6 ?_ | with_reducible refine lit7 ?_
  | with_reducible refine r_subB ?_ | with_reducible refine r_r3 ?_ | with_reducible refine r_rev ?_ | with_reducible refine r_kRv ?_
  | fail)
local macro_rules | `(tactic| walk_at "st") => `(tactic| repeat (first | walk_at "st1" | dsimp only))
local macro_rules | `(tactic| walk_at "go") => `(tactic| (simp only [dstart, dEnd, List.map_cons, List.map_nil, List.length_cons, List.length_nil, Nat.reduceAdd, Nat.reduceSub, Nat.zero_add, List.replicate, List.cons_append, List.nil_append]; walk_at "st"))

local macro_rules | `(tactic| walk_at "bt") => `(tactic| first | assumption | (refine bt_mul ?_ ?_ <;> walk_at "bt") | (refine bt_sub ?_ ?_ <;> walk_at "bt") | (refine bt_add ?_ ?_ <;> walk_at "bt") | (refine bt_neg ?_ <;> walk_at "bt") | (refine bt_abs ?_ <;> walk_at "bt") | exact bt_lit 64 (by decide +kernel))
local macro_rules | `(tactic| walk_at "cm") => `(tactic| ((refine And.intro ?_ ?_); (focus ((apply cm_ok) <;> first | decide | walk_at "bt"))))
local macro_rules | `(tactic| walk_at "sm") => `(tactic| repeat (first | walk_at "st1" | ((with_reducible apply r_idxT); exact rfl) | ((with_reducible apply r_idxL); exact rfl) | dsimp only | walk_at "cm"))

/-! ### one round of the remainder -/
def subAt (top : Int) : List Int → Nat → List Int → List Int
  | rest, _, [] => rest
  | rest, s, x :: xs => subAt top (rest.set s (rest.getD s 0 - top * x)) (s + 1) xs
def topV (ns : List Int) (h : Int) : Int := if 0 < h then ns.getLastD 0 else -(ns.getLastD 0)
def stepR (ns es : List Int) : List Int := trim (subAt (topV ns (es.getLastD 0)) (ns.map (· * ((es.getLastD 0).natAbs : Int))) (ns.length - es.length) es)
theorem last_D {ns : List Int} {l : Int} (h : ns.getLast? = some l) : ns.getLastD 0 = l := by
  rw [List.getLastD_eq_getLast?, h]; rfl
theorem trim_mem {ns : List Int} {c : Int} (h : c ∈ trim ns) : c ∈ ns := List.mem_of_mem_take h
theorem trim_len (ns : List Int) : (trim ns).length ≤ ns.length := by
  unfold trim
  rw [List.length_take]
  omega
theorem subAt_len (top : Int) : ∀ (es rest : List Int) (s : Nat), (subAt top rest s es).length = rest.length
  | [], _, _ => rfl
  | x :: xs, rest, s => by
    unfold subAt
    rw [subAt_len top xs, List.length_set]
theorem upd_same {M : Mu} {r : Addr} {o o' : DO} : mset (mset M r o) r o' = mset M r o' := mset_mset
theorem none_sub {M M' : Mu} {q : Addr} (s : DL.Sub M M') (h : M' q = none) : M q = none := by
  cases e : M q with
  | none => rfl
  | some o => rw [s q o e] at h; cases h
theorem sub_upd {M M' : Mu} {q : Addr} {o : DO} (s : DL.Sub M M') (h : M q = none) : DL.Sub M (mset M' q o) := fun b u e => by
  rw [mset_ne (fun z => by rw [z, h] at e; cases e)]
  exact s b u e
def bodyR : DTS := (dSq (dAs (dIf (dTest (dOp dGt (dVar 3) (dC (.int 0)))) (dOp dIdx (dVar 2) (dUn dNeg (dC (.int 1)))) (dUn dNeg (dOp dIdx (dVar 2) (dUn dNeg (dC (.int 1)))))) (dgN 5)) (dSq (dAs (dOp dSub (dCB dLen (dCons (dVar 2) dNil)) (dCB dLen (dCons (dVar 1) dNil))) (dgN 6)) (dSq (dAs (dLc true (diSeq (dVar 2)) (dgN 9) dYes (dOp (dMul false) (dVar 9) (dVar 4)) [9]) (dgN 2)) (dSq (dFor (diR1 (dCons (dCB dLen (dCons (dVar 1) dNil)) dNil)) (dgN 7) (dAs (dOp dSub (dOp dIdx (dVar 2) (dOp (dAdd false) (dVar 6) (dVar 7))) (dOp (dMul false) (dVar 5) (dOp dIdx (dVar 1) (dVar 7)))) (dgSub (dVar 2) (dOp (dAdd false) (dVar 6) (dVar 7))))) (dAs (dCB (dListOf true) (dCons (dCall sp_trimmed [] dX0 (dCons (dVar 2) dNil)) dNil)) (dgN 2))))))
theorem rem_body {ns es : List Int} {M1 : Mu} {r : Addr} {p : D} {s5 s6 s7 s8 s9 : Option D} {D0 : DEnds} {k : Nat} {h : Int} (hr : M1 r = some (.lst (iD ns))) (hne : es.getLast? = some h) (hl : es.length ≤ ns.length) (h8 : ns.length ≤ 8) (hk : k ≤ 1000000)
    (hn : ∀ c ∈ ns, Bt k c) (he : ∀ c ∈ es, Bt 710 c)
    (hN : ∀ r' M' s5 s6 s7, M' r' = some (.lst (iD (stepR ns es))) → (∀ c ∈ stepR ns es, Bt (2 * (k + 710) + 1) c) → DL.Sub M1 M' → D0.nx [some p, some (.tup (iD es)), some (.ref r'), some (.int h), some (.int (h.natAbs : Int)), s5, s6, s7, s8, s9] M') :
    bodyR D0 [some p, some (.tup (iD es)), some (.ref r), some (.int h), some (.int (h.natAbs : Int)), s5, s6, s7, s8, s9] M1 := by
  have hh := he h (List.mem_of_getLast? hne)
  have hes : 0 < es.length := by
    cases es with
    | nil => cases hne
    | cons _ _ => simp
  obtain ⟨l, hll⟩ : ∃ l, ns.getLast? = some l := by
    cases hz : ns with
    | nil => rw [hz, List.length_nil] at hl; omega
    | cons a b => exact ⟨_, List.getLast?_cons⟩
  have hlb := hn l (List.mem_of_getLast? hll)
  unfold bodyR
  walk_at "st"
  refine via (P := fun d M' => d = .int (topV ns h) ∧ M1 = M') (fun Q' hQ' => ?_) ?_
  · refine r_dif ?_
    walk_at "st"
    refine ⟨fun z => ?_, fun z => ?_⟩
    · walk_at "st"
      refine r_idxR hr (iD_last hll) ?_
      refine hQ' _ _ ⟨?_, rfl⟩
      unfold topV
      rw [if_pos (of_decide_eq_true z), last_D hll]
    · walk_at "st"
      refine r_idxR hr (iD_last hll) ?_
      walk_at "st"
      refine hQ' _ _ ⟨?_, rfl⟩
      unfold topV
      rw [if_neg (of_decide_eq_false z), last_D hll]
  rintro _ _ ⟨rfl, rfl⟩
  have htb : Bt k (topV ns h) := by
    unfold topV
    split
    · rw [last_D hll]; exact hlb
    · rw [last_D hll]; exact bt_neg hlb
  have hstep : stepR ns es = trim (subAt (topV ns h) (ns.map (· * (h.natAbs : Int))) (ns.length - es.length) es) := by
    unfold stepR
    rw [last_D hne]
  rw [hstep] at hN
  generalize topV ns h = top at htb hN ⊢
  walk_at "st"
  refine r_lenR hr ?_
  walk_at "st"
  rw [iD_len, iD_len, show (ns.length : Int) - (es.length : Int) = ((ns.length - es.length : Nat) : Int) by omega]
  obtain ⟨sh, hsh⟩ : ∃ sh, sh = ns.length - es.length := ⟨_, rfl⟩
  rw [← hsh] at hN ⊢
  refine r_kIr hr ?_
  refine lc_ints (fun c => c * (h.natAbs : Int)) ns hr (by omega) (fun c hc R hR => ?_) ?_
  · simp only [dwipe, List.set]
    walk_at "st"
    exact ⟨cm_ok (hn c hc) (bt_abs hh) (by omega), hR⟩
  have hr0 : ∀ c ∈ ns.map (· * (h.natAbs : Int)), Bt (k + 710) c := by
    intro c hc
    obtain ⟨x, hx, rfl⟩ := List.mem_map.mp hc
    exact bt_mul (hn x hx) (bt_abs hh)
  have hl0 : (ns.map (· * (h.natAbs : Int))).length = ns.length := List.length_map ..
  generalize ns.map (· * (h.natAbs : Int)) = rest at hr0 hl0 hN ⊢
  refine r_newT fun r1 hr1 => ?_
  walk_at "st"
  rw [iD_len]
  refine r_kR1 (by omega) (by omega) ?_
  rw [Int.toNat_natCast]
  refine for_inv (fun xs δ M' => ∃ (j : Nat) (cur : List Int) (s7 : Option D), xs = (rngD 0 es.length).drop j ∧ j ≤ es.length ∧ subAt top cur (sh + j) (es.drop j) = subAt top rest sh es ∧ cur.length = ns.length ∧ (∀ i, sh + j ≤ i → Bt (k + 710) (cur.getD i 0)) ∧ (∀ c ∈ cur, Bt (2 * (k + 710) + 1) c) ∧ M' = mset M1 r1 (.lst (iD cur)) ∧ δ = [some p, some (.tup (iD es)), some (.ref r1), some (.int h), some (.int (h.natAbs : Int)), some (.int top), some (.int (sh : Int)), s7, s8, s9]) (fun _ _ _ _ => trivial) ?_ ?_ _ _ _
    ⟨0, rest, s7, rfl, Nat.zero_le _, rfl, hl0, ?_, fun c hc => bt_up (hr0 c hc) (by omega), rfl, rfl⟩
  · rintro x xs δ M' N ⟨j, cur, s7, e1, hj, e2, hcl, hc1, hc2, rfl, rfl⟩ hN'
    have hjl : j < es.length := by
      rcases Nat.lt_or_ge j es.length with h1 | h1
      · exact h1
      · rw [List.drop_of_length_le (by rw [rngD_len]; exact h1)] at e1; cases e1
    rw [List.drop_eq_getElem_cons (by rw [rngD_len]; exact hjl)] at e1
    obtain ⟨e3, e4⟩ := List.cons.inj e1
    have e3 : x = .int (j : Int) := by
      rw [e3]
      have := rngD_at (lo := 0) hjl
      rw [List.getElem?_eq_getElem (by rw [rngD_len]; exact hjl)] at this
      rw [Option.some.inj this, Int.zero_add]
    subst e3
    rw [List.drop_eq_getElem_cons hjl] at e2
    have hi : sh + j < cur.length := by omega
    have hbc := hc1 (sh + j) (Nat.le_refl _)
    have hgd : cur.getD (sh + j) 0 = cur[sh + j] := by rw [List.getD_eq_getElem?_getD, List.getElem?_eq_getElem hi]; rfl
    have hbe := he _ (List.getElem_mem hjl)
    walk_at "st"
    rw [show (sh : Int) + (j : Int) = ((sh + j : Nat) : Int) by omega]
    refine r_idxR mset_same (iD_at hi) ?_
    walk_at "st"
    refine r_idxT (iD_at hjl) ?_
    walk_at "st"
    refine ⟨cm_ok htb hbe (by omega), ?_⟩
    walk_at "st"
    rw [show (sh : Int) + (j : Int) = ((sh + j : Nat) : Int) by omega]
    refine r_setV mset_same (ixN_nat (by rw [iD_len]; exact hi)) ?_
    rw [mset_mset]
    have hset : (iD cur).set (sh + j) (.int (cur[sh + j] - top * es[j])) = iD (cur.set (sh + j) (cur.getD (sh + j) 0 - top * es[j])) := by
      unfold iD
      rw [List.map_set, hgd]
    rw [hset]
    refine hN' _ _ ⟨j + 1, _, _, e4, hjl, e2, by rw [List.length_set]; exact hcl, ?_, ?_, rfl, rfl⟩
    · intro i hi2
      rw [List.getD_eq_getElem?_getD, List.getElem?_set_ne (by omega), ← List.getD_eq_getElem?_getD]
      exact hc1 i (by omega)
    · intro c hc
      rcases List.mem_or_eq_of_mem_set hc with hc | hc
      · exact hc2 c hc
      · rw [hc]
        exact bt_up (bt_sub hbc (bt_mul htb hbe)) (by omega)
  · rintro δ M' ⟨j, cur, s7, e1, hj, e2, hcl, hc1, hc2, rfl, rfl⟩
    have hjl : j = es.length := by
      rcases Nat.lt_or_ge j es.length with h1 | h1
      · rw [List.drop_eq_getElem_cons (by rw [rngD_len]; exact h1)] at e1; cases e1
      · omega
    subst hjl
    rw [List.drop_length] at e2
    have e2 : cur = subAt top rest sh es := e2
    rw [← e2] at hN
    walk_at "st"
    refine ⟨.ref r1, cur, rfl, dseq_ref mset_same, by omega, ?_⟩
    unfold dListOf
    walk_at "st"
    simp only [dits]
    refine r_newT fun r2 hr2 => ?_
    walk_at "st"
    have hr12 : DL.Sub M1 (mset M1 r1 (.lst (iD cur))) := sub_new hr1
    exact hN r2 _ _ _ _ mset_same (fun c hc => hc2 c (trim_mem hc)) (sub_upd hr12 (none_sub hr12 hr2))
  · intro i _
    rw [List.getD_eq_getElem?_getD]
    cases hi : rest[i]? with
    | none => exact bt_up (bt_lit 1 (by decide)) (by omega)
    | some c => exact hr0 c (List.mem_of_getElem? hi)
end K64

namespace K64
open PySem PySem.Spec PyProof.Rows L2 TL DL
local macro_rules | `(tactic| walk_at "st1") => `(tactic| first
  | with_reducible refine r_sq ?_ | with_reducible refine r_nx ?_ | with_reducible refine r_rt ?_ | with_reducible refine r_rtN ?_ | with_reducible refine r_ex ?_ | with_reducible refine r_as ?_ | with_reducible refine r_bk ?_ | with_reducible refine r_ct ?_
  | ((with_reducible apply r_var); exact rfl) | with_reducible refine r_c ?_ | with_reducible refine r_op ?_ | with_reducible refine r_un ?_ | with_reducible refine r_neg ?_
  | ((with_reducible refine r_dgN rfl ?_); (try simp only [List.set]))
  | with_reducible refine r_dgSub ?_ | with_reducible refine r_dgT rfl ?_ | with_reducible refine r_dga0 ?_ | with_reducible refine r_dga1 ?_ | with_reducible refine r_auS ?_ | ((with_reducible apply r_au); exact rfl)
  | with_reducible refine r_par ?_ | ((with_reducible refine r_kPar rfl ?_); (try simp only [List.set]))
  | with_reducible refine r_addI ?_ | with_reducible refine r_addS ?_ | with_reducible refine r_addT ?_ | with_reducible refine r_addL ?_ | with_reducible refine r_subI ?_ | with_reducible refine r_mulI ?_ | with_reducible refine r_fdiv ?_ | with_reducible refine r_mod ?_ | with_reducible refine r_pow ?_ | with_reducible refine r_shl ?_
  | with_reducible refine r_eqI ?_ | with_reducible refine r_eqS ?_ | with_reducible refine r_eqB ?_ | with_reducible refine r_neI ?_ | with_reducible refine r_neS ?_ | with_reducible refine r_neB ?_ | with_reducible refine r_ltI ?_ | with_reducible refine r_gtI ?_ | with_reducible refine r_leI ?_ | with_reducible refine r_geI ?_ | with_reducible refine r_isN ?_ | with_reducible refine r_notN ?_ | with_reducible refine r_inS ?_
  | with_reducible refine r_test ?_ | with_reducible refine r_kB ?_ | with_reducible refine r_tru ?_ | with_reducible refine r_kTb ?_ | with_reducible refine r_kTi ?_ | with_reducible refine r_kTn ?_ | with_reducible refine r_kTl ?_ | with_reducible refine r_kTt ?_ | with_reducible refine r_kTs ?_ | with_reducible refine r_not ?_ | with_reducible refine r_notV ?_ | with_reducible refine r_yes ?_
  | with_reducible refine r_nil ?_ | with_reducible refine r_cons ?_ | with_reducible refine r_tup ?_ | with_reducible refine r_lst ?_ | with_reducible refine r_newF ?_ | with_reducible refine r_cb ?_
  | with_reducible refine r_lenS ?_ | with_reducible refine r_lenL ?_ | with_reducible refine r_lenT ?_ | with_reducible refine r_lenSrc ?_ | with_reducible refine r_abs ?_ | with_reducible refine r_min2 ?_ | with_reducible refine r_max2 ?_ | with_reducible refine r_intI ?_ | with_reducible refine r_str ?_ | with_reducible refine r_tupT ?_ | with_reducible refine r_tupL ?_ | with_reducible refine r_divmod ?_
  | with_reducible refine r_sl ?_ | with_reducible refine r_noP ?_ | with_reducible refine r_part ?_ | with_reducible refine r_kP ?_ | with_reducible refine r_slS ?_ | with_reducible refine r_slT ?_ | with_reducible refine r_slL ?_ | with_reducible refine r_slSrc ?_
  | with_reducible refine r_bm ?_ | with_reducible refine r_tyS ?_ | with_reducible refine r_starts ?_ | with_reducible refine r_count ?_ | with_reducible refine r_call ?_ | with_reducible refine r_for ?_ | with_reducible refine r_seq ?_ | with_reducible refine r_kIt ?_ | with_reducible refine r_kIl ?_ | with_reducible refine r_kIs ?_ | with_reducible refine r_kIsrc ?_ | with_reducible refine r_r1 ?_ | with_reducible refine r_r2 ?_ | with_reducible refine r_lc ?_
  | with_reducible refine lit0 ?_ | with_reducible refine lit1 ?_ | with_reducible refine lit2 ?_ | with_reducible refine lit3 ?_ | with_reducible refine lit4 ?_ | with_reducible refine lit5 ?_ | with_reducible refine lit6 ?_ | with_reducible refine lit7 ?_
  | with_reducible refine r_subB ?_ | with_reducible refine r_r3 ?_ | with_reducible refine r_rev ?_ | with_reducible refine r_kRv ?_
  | fail)
local macro_rules | `(tactic| walk_at "st") => `(tactic| repeat (first | walk_at "st1" | dsimp only))
local macro_rules | `(tactic| walk_at "go") => `(tactic| (simp only [dstart, dEnd, List.map_cons, List.map_nil, List.length_cons, List.length_nil, Nat.reduceAdd, Nat.reduceSub, Nat.zero_add, List.replicate, List.cons_append, List.nil_append]; walk_at "st"))

local macro_rules | `(tactic| walk_at "bt") => `(tactic| first | assumption | (refine bt_mul ?_ ?_ <;> walk_at "bt") | (refine bt_sub ?_ ?_ <;> walk_at "bt") | (refine bt_add ?_ ?_ <;> walk_at "bt") | (refine bt_neg ?_ <;> walk_at "bt") | (refine bt_abs ?_ <;> walk_at "bt") | exact bt_lit 64 (by decide +kernel))
local macro_rules | `(tactic| walk_at "cm") => `(tactic| ((refine And.intro ?_ ?_); (focus ((apply cm_ok) <;> first | decide | walk_at "bt"))))
local macro_rules | `(tactic| walk_at "sm") => `(tactic| repeat (first | walk_at "st1" | ((with_reducible apply r_idxT); exact rfl) | ((with_reducible apply r_idxL); exact rfl) | dsimp only | walk_at "cm"))

theorem trim_zero {ns : List Int} {k : Nat} (hk : ns.length = k + 1) (h : ns[k]? = some 0) : (trim ns).length < ns.length := by
  have e : cutN ns (k + 1) = cutN ns k := if_pos h
  unfold trim
  rw [List.length_take, hk, e]
  have := cutN_le ns k
  omega
theorem abs_of {h : Int} (h0 : 0 < h) : (h.natAbs : Int) = h := by omega
theorem step_one {ns : List Int} {h : Int} (hh : h ≠ 0) (hne : ns ≠ []) : (stepR ns [h]).length < ns.length := by
  obtain ⟨k, hk⟩ : ∃ k, ns.length = k + 1 := ⟨ns.length - 1, by have := List.length_pos_iff.mpr hne; omega⟩
  obtain ⟨l, hl⟩ : ∃ l, ns.getLast? = some l := by
    cases hz : ns with
    | nil => exact absurd hz hne
    | cons a b => exact ⟨_, List.getLast?_cons⟩
  have hlk : ns[k]? = some l := by
    rw [List.getLast?_eq_getElem?, hk] at hl
    exact hl
  have e : stepR ns [h] = trim ((ns.map (· * (h.natAbs : Int))).set k 0) := by
    unfold stepR
    show trim (subAt (topV ns h) (ns.map (· * (h.natAbs : Int))) (ns.length - 1) [h]) = _
    rw [hk]
    show trim ((ns.map (· * (h.natAbs : Int))).set k ((ns.map (· * (h.natAbs : Int))).getD k 0 - topV ns h * h)) = _
    congr 2
    rw [List.getD_eq_getElem?_getD, List.getElem?_map, hlk]
    show l * (h.natAbs : Int) - topV ns h * h = 0
    unfold topV
    rw [last_D hl]
    split
    · rw [abs_of (by assumption)]; omega
    · have : (h.natAbs : Int) = -h := by omega
      rw [this, Int.mul_neg, Int.neg_mul]; omega
  rw [e]
  have hlen : ((ns.map (· * (h.natAbs : Int))).set k 0).length = k + 1 := by rw [List.length_set, List.length_map, hk]
  have := trim_zero hlen (by rw [List.getElem?_set_self (by rw [List.length_map]; omega)])
  rw [hlen] at this
  omega
/-- the quadratic, once -/
theorem step_quad {c0 c1 c2 : Int} (h2 : 0 < c2) : stepR [c0, c1, c2] [c1, c2 * 2] = trim [c0 * (c2 * 2), c1 * (c2 * 2) - c2 * c1, 0] := by
  unfold stepR
  have e1 : ([c1, c2 * 2] : List Int).getLastD 0 = c2 * 2 := rfl
  have e2 : topV [c0, c1, c2] (c2 * 2) = c2 := if_pos (by omega)
  rw [e1, e2, abs_of (by omega)]
  show trim [c0 * (c2 * 2), c1 * (c2 * 2) - c2 * c1, c2 * (c2 * 2) - c2 * (c2 * 2)] = _
  rw [Int.sub_self]
theorem step_quad2 {x y c1 c2 : Int} (h2 : 0 < c2) : stepR [x, y] [c1, c2 * 2] = trim [x * (c2 * 2) - y * c1, 0] := by
  unfold stepR
  have e1 : ([c1, c2 * 2] : List Int).getLastD 0 = c2 * 2 := rfl
  have e2 : topV [x, y] (c2 * 2) = y := if_pos (by omega)
  rw [e1, e2, abs_of (by omega)]
  show trim [x * (c2 * 2) - y * c1, y * (c2 * 2) - y * (c2 * 2)] = _
  rw [Int.sub_self]
theorem step_cub {n : Int} : stepR [-n, 0, 0, 1] [0, 0, 3] = trim [-n * 3, 0, 0, 0] := by
  unfold stepR
  have e1 : ([0, 0, 3] : List Int).getLastD 0 = 3 := rfl
  have e2 : topV [-n, 0, 0, 1] 3 = 1 := rfl
  rw [e1, e2]
  rfl
theorem disc_id (c0 c1 c2 : Int) : c0 * (c2 * 2) * (c2 * 2) - (c1 * (c2 * 2) - c2 * c1) * c1 = -(c2 * (c1 * c1 - 4 * (c0 * c2))) := by
  grind
def Ends2 (ns es : List Int) : Prop := (∃ z, z < 0 ∧ stepR ns es = [z]) ∨ (es.length ≤ (stepR ns es).length ∧ (stepR ns es).length ≤ 8 ∧ ∃ z, z < 0 ∧ stepR (stepR ns es) es = [z])
theorem ends_sh {ns : List Int} (h : Sh ns) (h3 : 3 ≤ ns.length) : Ends2 ns (derP ns) ∧ 2 ≤ (derP ns).length ∧ (derP ns).length ≤ ns.length ∧ ∃ e, (derP ns).getLast? = some e := by
  cases h with
  | lin h => simp at h3
  | quad h2 hd =>
    rename_i c0 c1 c2
    refine ⟨?_, by simp [derP], by simp [derP], ⟨c2 * 2, rfl⟩⟩
    unfold Ends2
    show (∃ z, z < 0 ∧ stepR [c0, c1, c2] [c1, c2 * 2] = [z]) ∨ _
    rw [show derP [c0, c1, c2] = [c1, c2 * 2] from rfl, step_quad h2]
    by_cases h1 : c1 = 0
    · left
      subst h1
      have hc : c0 * c2 < 0 := by omega
      have hx : c0 * (c2 * 2) ≠ 0 := by
        have : c0 * (c2 * 2) = 2 * (c0 * c2) := by grind
        omega
      refine ⟨c0 * (c2 * 2), ?_, ?_⟩
      · have : c0 * (c2 * 2) = 2 * (c0 * c2) := by grind
        omega
      · simp [trim, cutN, hx]
    · right
      have hy : c1 * (c2 * 2) - c2 * c1 ≠ 0 := by
        have : c1 * (c2 * 2) - c2 * c1 = c1 * c2 := by grind
        rw [this]
        exact Int.mul_ne_zero h1 (by omega)
      have e : trim [c0 * (c2 * 2), c1 * (c2 * 2) - c2 * c1, 0] = [c0 * (c2 * 2), c1 * (c2 * 2) - c2 * c1] := by
        simp [trim, cutN, hy]
      rw [e]
      refine ⟨by simp, by simp, c0 * (c2 * 2) * (c2 * 2) - (c1 * (c2 * 2) - c2 * c1) * c1, ?_, ?_⟩
      · rw [disc_id]
        have := Int.mul_pos h2 hd
        omega
      · rw [step_quad2 h2]
        have hz : c0 * (c2 * 2) * (c2 * 2) - (c1 * (c2 * 2) - c2 * c1) * c1 ≠ 0 := by
          rw [disc_id]
          have := Int.mul_pos h2 hd
          omega
        generalize c0 * (c2 * 2) * (c2 * 2) - (c1 * (c2 * 2) - c2 * c1) * c1 = z at hz
        simp [trim, cutN, hz]
  | cub hn =>
    rename_i n
    refine ⟨.inl ⟨-n * 3, by omega, ?_⟩, by simp [derP], by simp [derP], ⟨3, rfl⟩⟩
    show stepR [-n, 0, 0, 1] [0, 0, 3] = _
    rw [step_cub]
    have hz : -n * 3 ≠ 0 := by omega
    generalize -n * 3 = z at hz
    simp [trim, cutN, hz]
def bnd : Nat → Nat
  | 0 => 443750
  | 1 => 88750
  | 2 => 17750
  | 3 => 3550
  | _ => 710
theorem bnd_step {a b : Nat} (h : a < b) (hb : b ≤ 4) : 2 * (bnd b + 710) + 1 ≤ bnd a := by
  match a, b, h, hb with
  | 0, 1, _, _ => decide
  | 0, 2, _, _ => decide
  | 0, 3, _, _ => decide
  | 0, 4, _, _ => decide
  | 1, 2, _, _ => decide
  | 1, 3, _, _ => decide
  | 1, 4, _, _ => decide
  | 2, 3, _, _ => decide
  | 2, 4, _, _ => decide
  | 3, 4, _, _ => decide
  | a + 4, b, h, hb => omega
theorem bnd_le (a : Nat) : bnd a ≤ 1000000 := by
  match a with
  | 0 => decide
  | 1 => decide
  | 2 => decide
  | 3 => decide
  | _ + 4 => show (710 : Nat) ≤ _; decide
theorem bnd4 {a : Nat} (h : a ≤ 4) : 710 ≤ bnd a := by
  match a, h with
  | 0, _ => decide
  | 1, _ => decide
  | 2, _ => decide
  | 3, _ => decide
  | 4, _ => decide
theorem sem_remainder (ds : List D) (M : Mu) (Q : DK) (E : DXK) (h : sp_remainder ds M Q E) : t_remainder (dEnd Q) (dstart 10 ds) M := by
  obtain ⟨ns, es, rfl, h4, hn, he, h⟩ := h
  unfold t_remainder
  walk_at "go"
  unfold dListOf
  walk_at "st"
  simp only [dits]
  refine r_newT fun r0 hr0 => ?_
  walk_at "st"
  have hend : ∀ (r : Addr) (M' : Mu) (ms : List Int) (s5 s6 s7 s8 s9 : Option D) (p dd : D) (hv bv : Int), M' r = some (.lst (iD ms)) → DL.Sub M M' → ms.length ≤ 8 → (ms = [] ∧ Q (.tup []) M ∨ ∃ z, z < 0 ∧ Bt 8000 z ∧ ms = [z] ∧ Q (.tup [.int (-1)]) M) →
      (dSq (dAs (dCall sp_content [] dX0 (dCons (dVar 2) dNil)) (dgN 8)) (dRt (dCB dTupOf (dCons (dLc false (diSeq (dVar 2)) (dgN 9) dYes (dOp dFdiv (dVar 9) (dVar 8)) [9]) dNil)))) { nx := fun x M => Wq Q D.non M, rt := Wq Q } [some p, some dd, some (.ref r), some (.int hv), some (.int bv), s5, s6, s7, s8, s9] M' := by
    intro r M' ms s5 s6 s7 s8 s9 p dd hv bv hr hs hl hq
    walk_at "st"
    refine ⟨_, ms, rfl, dits_ref hr, ?_⟩
    walk_at "st"
    refine r_kIr hr ?_
    rcases hq with ⟨rfl, hq⟩ | ⟨z, hz, hzb, rfl, hq⟩
    · refine lc_ints (fun c => c) [] hr (by simp) (fun c hc => by cases hc) ?_
      walk_at "st"
      exact Wq.drop hs hq
    · rw [gcdL_one]
      refine lc_ints (fun c => c.fdiv (z.natAbs : Int)) [z] hr (by simp) (fun c hc R hR => ?_) ?_
      · simp only [dwipe, List.set]
        walk_at "st"
        exact ⟨cd_ok (by omega) (bt_abs hzb) (by decide), hR⟩
      · walk_at "st"
        have e : z.fdiv (z.natAbs : Int) = -1 := by
          have : (z.natAbs : Int) = -z := by omega
          rw [this]
          have h2 : z = (-z) * (-1) := by omega
          rw [show z.fdiv (-z) = ((-z) * (-1)).fdiv (-z) by rw [← h2], Int.mul_fdiv_cancel_left _ (by omega)]
        show Wq Q (.tup [.int (z.fdiv (z.natAbs : Int))]) M'
        rw [e]
        exact Wq.drop hs hq
  rcases h with ⟨h, rfl, hh, hq⟩ | ⟨hS, h3, rfl, hq⟩
  · -- by a number
    walk_at "st"
    refine r_idxT (iD_last (l := h) rfl) ?_
    walk_at "st"
    refine r_while (fun k δ M' => ∃ (r : Addr) (ms : List Int) (s5 s6 s7 s8 s9 : Option D), k = ms.length ∧ ms.length ≤ 4 ∧ (∀ c ∈ ms, Bt (bnd ms.length) c) ∧ M' r = some (.lst (iD ms)) ∧ DL.Sub M M' ∧ δ = [some (.tup (iD ns)), some (.tup (iD [h])), some (.ref r), some (.int h), some (.int (h.natAbs : Int)), s5, s6, s7, s8, s9]) _ ⟨r0, ns, none, none, none, none, none, rfl, h4, fun c hc => bt_up (hn c hc) (bnd4 h4), mset_same, sub_new hr0, rfl⟩ ?_
    rintro k δ M' ⟨r, ms, s5, s6, s7, s8, s9, rfl, hl, hb, hr, hs, rfl⟩
    walk_at "st"
    refine r_lenR hr ?_
    walk_at "st"
    rw [iD_len]
    refine ⟨fun z => ?_, fun z => ?_⟩
    · have z : 1 ≤ ms.length := by have := of_decide_eq_true z; simp [iD] at this; omega
      have hne : ms ≠ [] := fun hz => by rw [hz] at z; simp at z
      have hst := step_one hh hne
      refine rem_body (k := bnd ms.length) hr (h := h) rfl (by simpa using z) (by omega) (bnd_le _) hb (fun c hc => by rw [List.mem_singleton.mp hc]; exact he h (by simp)) ?_
      intro r' M2 s5 s6 s7 h1 h2 h3
      exact ⟨(stepR ms [h]).length, hst, r', stepR ms [h], _, _, _, _, _, rfl, by omega, fun c hc => bt_up (h2 c hc) (bnd_step hst hl), h1, DL.Sub.trans hs h3, rfl⟩
    · have z : ms = [] := by
        have := of_decide_eq_false z
        simp [iD] at this
        exact List.length_eq_zero_iff.mp (by omega)
      subst z
      exact hend r M' [] _ _ _ _ _ _ _ _ _ hr hs (by simp) (.inl ⟨rfl, hq⟩)
  · obtain ⟨hE, hd2, hdl, e, hel⟩ := ends_sh hS h3
    walk_at "st"
    refine r_idxT (iD_last hel) ?_
    walk_at "st"
    refine r_while (fun k δ M' => ∃ (r : Addr) (ms : List Int) (s5 s6 s7 s8 s9 : Option D), ((k = 2 ∧ ms = ns) ∨ (k = 1 ∧ ms = stepR ns (derP ns) ∧ (derP ns).length ≤ ms.length ∧ ms.length ≤ 8 ∧ (∀ c ∈ ms, Bt 2841 c) ∧ ∃ z, z < 0 ∧ stepR ms (derP ns) = [z]) ∨ (k = 0 ∧ ∃ z, z < 0 ∧ Bt 8000 z ∧ ms = [z])) ∧ M' r = some (.lst (iD ms)) ∧ DL.Sub M M' ∧ δ = [some (.tup (iD ns)), some (.tup (iD (derP ns))), some (.ref r), some (.int e), some (.int (e.natAbs : Int)), s5, s6, s7, s8, s9]) _ ⟨r0, ns, none, none, none, none, none, .inl ⟨rfl, rfl⟩, mset_same, sub_new hr0, rfl⟩ ?_
    rintro k δ M' ⟨r, ms, s5, s6, s7, s8, s9, hk, hr, hs, rfl⟩
    walk_at "st"
    refine r_lenR hr ?_
    walk_at "st"
    rw [iD_len, iD_len]
    rcases hk with ⟨rfl, rfl⟩ | ⟨rfl, rfl, hml, hm8, hmb, z, hz, ez⟩ | ⟨rfl, z, hz, hzb, rfl⟩
    · refine ⟨fun _ => ?_, fun z => absurd (of_decide_eq_false z) (by simp; omega)⟩
      refine rem_body (k := 710) hr hel hdl (by omega) (by decide) hn he ?_
      intro r' M2 s5 s6 s7 h1 h2 h3
      rcases hE with ⟨z, hz, ez⟩ | ⟨hl1, hl8, z, hz, ez⟩
      · exact ⟨0, by decide, r', _, _, _, _, _, _, .inr (.inr ⟨rfl, z, hz, bt_up (h2 z (by rw [ez]; simp)) (by decide), ez⟩), h1, DL.Sub.trans hs h3, rfl⟩
      · exact ⟨1, by decide, r', _, _, _, _, _, _, .inr (.inl ⟨rfl, rfl, hl1, hl8, h2, z, hz, ez⟩), h1, DL.Sub.trans hs h3, rfl⟩
    · refine ⟨fun _ => ?_, fun z => absurd (of_decide_eq_false z) (by simp; omega)⟩
      refine rem_body (k := 2841) hr hel hml hm8 (by decide) hmb he ?_
      intro r' M2 s5 s6 s7 h1 h2 h3
      exact ⟨0, by decide, r', _, _, _, _, _, _, .inr (.inr ⟨rfl, z, hz, bt_up (h2 z (by rw [ez]; simp)) (by decide), ez⟩), h1, DL.Sub.trans hs h3, rfl⟩
    · refine ⟨fun z => absurd (of_decide_eq_true z) (by simp; omega), fun _ => ?_⟩
      exact hend r M' [z] _ _ _ _ _ _ _ _ _ hr hs (by simp) (.inr ⟨z, hz, hzb, rfl, hq⟩)
end K64

namespace K64
open PySem PySem.Spec PyProof.Rows L2 TL DL
local macro_rules | `(tactic| walk_at "st1") => `(tactic| first
  | with_reducible refine r_sq ?_ | with_reducible refine r_nx ?_ | with_reducible refine r_rt ?_ | with_reducible refine r_rtN ?_ | with_reducible refine r_ex ?_ | with_reducible refine r_as ?_ | with_reducible refine r_bk ?_ | with_reducible refine r_ct ?_
  | ((with_reducible apply r_var); exact rfl) | with_reducible refine r_c ?_ | with_reducible refine r_op ?_ | with_reducible refine r_un ?_ | with_reducible refine r_neg ?_
  | ((with_reducible refine r_dgN rfl ?_); (try simp only [List.set]))
  | with_reducible refine r_dgSub ?_ | with_reducible refine r_dgT rfl ?_ | with_reducible refine r_dga0 ?_ | with_reducible refine r_dga1 ?_ | with_reducible refine r_auS ?_ | ((with_reducible apply r_au); exact rfl)
  | with_reducible refine r_par ?_ | ((with_reducible refine r_kPar rfl ?_); (try simp only [List.set]))
  | with_reducible refine r_addI ?_ | with_reducible refine r_addS ?_ | with_reducible refine r_addT ?_ | with_reducible refine r_addL ?_ | with_reducible refine r_subI ?_ | with_reducible refine r_mulI ?_ | with_reducible refine r_fdiv ?_ | with_reducible refine r_mod ?_ | with_reducible refine r_pow ?_ | with_reducible refine r_shl ?_
  | with_reducible refine r_eqI ?_ | with_reducible refine r_eqS ?_ | with_reducible refine r_eqB ?_ | with_reducible refine r_neI ?_ | with_reducible refine r_neS ?_ | with_reducible refine r_neB ?_ | with_reducible refine r_ltI ?_ | with_reducible refine r_gtI ?_ | with_reducible refine r_leI ?_ | with_reducible refine r_geI ?_ | with_reducible refine r_isN ?_ | with_reducible refine r_notN ?_ | with_reducible refine r_inS ?_
  | with_reducible refine r_test ?_ | with_reducible refine r_kB ?_ | with_reducible refine r_tru ?_ | with_reducible refine r_kTb ?_ | with_reducible refine r_kTi ?_ | with_reducible refine r_kTn ?_ | with_reducible refine r_kTl ?_ | with_reducible refine r_kTt ?_ | with_reducible refine r_kTs ?_ | with_reducible refine r_not ?_ | with_reducible refine r_notV ?_ | with_reducible refine r_yes ?_
  | with_reducible refine r_nil ?_ | with_reducible refine r_cons ?_ | with_reducible refine r_tup ?_ | with_reducible refine r_lst ?_ | with_reducible refine r_newF ?_ | with_reducible refine r_cb ?_
  | with_reducible refine r_lenS ?_ | with_reducible refine r_lenL ?_ | with_reducible refine r_lenT ?_ | with_reducible refine r_lenSrc ?_ | with_reducible refine r_abs ?_ | with_reducible refine r_min2 ?_ | with_reducible refine r_max2 ?_ | with_reducible refine r_intI ?_ | with_reducible refine r_str ?_ | with_reducible refine r_tupT ?_ | with_reducible refine r_tupL ?_ | with_reducible refine r_divmod ?_
  | with_reducible refine r_sl ?_ | with_reducible refine r_noP ?_ | with_reducible refine r_part ?_ | with_reducible refine r_kP ?_ | with_reducible refine r_slS ?_ | with_reducible refine r_slT ?_ | with_reducible refine r_slL ?_ | with_reducible refine r_slSrc ?_
  | with_reducible refine r_bm ?_ | with_reducible refine r_tyS ?_ | with_reducible refine r_starts ?_ | with_reducible refine r_count ?_ | with_reducible refine r_call ?_ | with_reducible refine r_for ?_ | with_reducible refine r_seq ?_ | with_reducible refine r_kIt ?_ | with_reducible refine r_kIl ?_ | with_reducible refine r_kIs ?_ | with_reducible refine r_kIsrc ?_ | with_reducible refine r_r1 ?_ | with_reducible refine r_r2 ?_ | with_reducible refine r_lc ?_
  | with_reducible refine lit0 ?_ | with_reducible refine lit1 ?_ | with_reducible refine lit2 ?_ | with_reducible refine lit3 ?_ | with_reducible refine lit4 ?_ | with_reducible refine lit5 ?_ | with_reducible refine lit6 ?_ | with_reducible refine lit7 ?_
  | with_reducible refine r_subB ?_ | with_reducible refine r_r3 ?_ | with_reducible refine r_rev ?_ | with_reducible refine r_kRv ?_
  | fail)
local macro_rules | `(tactic| walk_at "st") => `(tactic| repeat (first | walk_at "st1" | dsimp only))
local macro_rules | `(tactic| walk_at "go") => `(tactic| (simp only [dstart, dEnd, List.map_cons, List.map_nil, List.length_cons, List.length_nil, Nat.reduceAdd, Nat.reduceSub, Nat.zero_add, List.replicate, List.cons_append, List.nil_append]; walk_at "st"))

local macro_rules | `(tactic| walk_at "bt") => `(tactic| first | assumption | (refine bt_mul ?_ ?_ <;> walk_at "bt") | (refine bt_sub ?_ ?_ <;> walk_at "bt") | (refine bt_add ?_ ?_ <;> walk_at "bt") | (refine bt_neg ?_ <;> walk_at "bt") | (refine bt_abs ?_ <;> walk_at "bt") | exact bt_lit 64 (by decide +kernel))
local macro_rules | `(tactic| walk_at "cm") => `(tactic| ((refine And.intro ?_ ?_); (focus ((apply cm_ok) <;> first | decide | walk_at "bt"))))
local macro_rules | `(tactic| walk_at "sm") => `(tactic| repeat (first | walk_at "st1" | ((with_reducible apply r_idxT); exact rfl) | ((with_reducible apply r_idxL); exact rfl) | dsimp only | walk_at "cm"))

def zs (n : Nat) : List Int := List.replicate n 0
theorem sem_quotient (ds : List D) (M : Mu) (Q : DK) (E : DXK) (h : sp_quotient ds M Q E) : t_quotient (dEnd Q) (dstart 9 ds) M := by
  obtain ⟨ns, rfl, h1, hB, h⟩ := h
  have h8 := hB.1
  unfold t_quotient
  walk_at "go"
  refine r_if ?_
  walk_at "st"
  rw [iD_len]
  refine ⟨fun z => absurd (of_decide_eq_true z) (by simp; omega), fun _ => ?_⟩
  walk_at "st"
  unfold dListOf
  walk_at "st"
  simp only [dits]
  refine r_newT fun r hr => ?_
  walk_at "st"
  rw [iD_len]
  have hmul : ∀ (Q' : DK) (M' : Mu) (k : Int), k = ns.length → (∀ f, M' f = none → Q' (.ref f) (mset M' f (.lst (iD (zs ns.length))))) → dMul true (.lst [.int 0]) (.int k) M' Q' := by
    intro Q' M' k hk hq
    subst hk
    show -(2 ^ 63) ≤ (ns.length : Int) ∧ (ns.length : Int) < 2 ^ 63 ∧ ([D.int 0] : List D).length * ((ns.length : Int)).toNat ≤ sizeLine ∧ dNew true (List.replicate ((ns.length : Int)).toNat [D.int 0]).flatten M' Q'
    refine ⟨by omega, by omega, sz1000 (by simp; omega), ?_⟩
    rw [Int.toNat_natCast]
    have e : (List.replicate ns.length [D.int 0]).flatten = iD (zs ns.length) := by
      unfold iD zs
      rw [List.map_replicate]
      generalize ns.length = n
      induction n with
      | zero => rfl
      | succ n ih => rw [List.replicate_succ, List.flatten_cons, ih, List.replicate_succ]; rfl
    rw [e]
    exact r_newT hq
  refine hmul _ _ _ (by simp) fun f hf => ?_
  have hfr : f ≠ r := fun z => by rw [z, mset_same] at hf; cases hf
  walk_at "st"
  rw [iD_len]
  refine r_kR3 (by simp; omega) ?_
  have hn : ((ns.length : Int) - ((1 : Nat) : Int) - (-1)).toNat = ns.length := by omega
  refine for_inv (fun xs δ M' => ∃ (j : Nat) (s4 s5 s6 s7 : Option D), xs = (rngDn ((ns.length : Int) - 1) ns.length).drop (ns.length - j) ∧ j ≤ ns.length ∧ DL.Sub M M' ∧ M' r = some (.lst (iD (ns.take j ++ zs (ns.length - j)))) ∧ M' f = some (.lst (iD (zs j ++ ns.drop j))) ∧ δ = [some (.tup (iD ns)), some (.tup [.int 1]), some (.ref r), some (.ref f), s4, s5, s6, s7, none]) (fun _ _ _ _ => trivial) ?_ ?_ _ _ _
    ⟨ns.length, none, none, none, none, ?_, Nat.le_refl _, ?_, ?_, ?_, rfl⟩
  · rintro x xs δ M' N ⟨j, s4, s5, s6, s7, e1, hj, hs, hr', hf', rfl⟩ hN
    have hj0 : 0 < j := by
      rcases Nat.eq_zero_or_pos j with h0 | h0
      · subst h0
        rw [List.drop_of_length_le (by rw [rngDn_len]; omega)] at e1; cases e1
      · exact h0
    obtain ⟨i, rfl⟩ : ∃ i, j = i + 1 := ⟨j - 1, by omega⟩
    have hlt : ns.length - (i + 1) < ns.length := by omega
    rw [List.drop_eq_getElem_cons (by rw [rngDn_len]; exact hlt)] at e1
    obtain ⟨e3, e4⟩ := List.cons.inj e1
    have e3 : x = .int (i : Int) := by
      rw [e3]
      have := rngDn_at (lo := (ns.length : Int) - 1) hlt
      rw [List.getElem?_eq_getElem (by rw [rngDn_len]; exact hlt)] at this
      rw [Option.some.inj this]
      congr 1
      omega
    subst e3
    have hi : i < ns.length := by omega
    have hA : ns.take (i + 1) = ns.take i ++ [ns[i]] := by rw [List.take_append_getElem hi]
    have hrl : (ns.take (i + 1) ++ zs (ns.length - (i + 1))).length = ns.length := by
      rw [List.length_append, List.length_take]; unfold zs; rw [List.length_replicate]; omega
    have hfl : (zs (i + 1) ++ ns.drop (i + 1)).length = ns.length := by
      rw [List.length_append, List.length_drop]; unfold zs; rw [List.length_replicate]; omega
    have hri : (ns.take (i + 1) ++ zs (ns.length - (i + 1)))[i]? = some ns[i] := by
      rw [hA, List.append_assoc, List.getElem?_append_right (by rw [List.length_take]; omega)]
      have : i - (ns.take i).length = 0 := by rw [List.length_take]; omega
      rw [this]; rfl
    have hat : atI (iD (ns.take (i + 1) ++ zs (ns.length - (i + 1)))) (i : Int) = some (.int ns[i]) := atI_nat (by unfold iD; rw [List.getElem?_map, hri]; rfl)
    have hrset : (ns.take (i + 1) ++ zs (ns.length - (i + 1))).set i 0 = ns.take i ++ zs (ns.length - i) := by
      rw [hA, List.append_assoc, List.set_append_right _ _ (by rw [List.length_take]; omega)]
      have : i - (ns.take i).length = 0 := by rw [List.length_take]; omega
      rw [this]
      congr 1
      show 0 :: zs (ns.length - (i + 1)) = zs (ns.length - i)
      rw [show ns.length - i = (ns.length - (i + 1)) + 1 by omega]
      rfl
    have hfset : (zs (i + 1) ++ ns.drop (i + 1)).set i ns[i] = zs i ++ ns.drop i := by
      have : zs (i + 1) = zs i ++ [0] := by unfold zs; rw [List.replicate_succ']
      rw [this, List.append_assoc, List.set_append_right _ _ (by unfold zs; rw [List.length_replicate]; omega)]
      have : i - (zs i).length = 0 := by unfold zs; rw [List.length_replicate]; omega
      rw [this, List.drop_eq_getElem_cons hi]
      rfl
    walk_at "st"
    rw [show (i : Int) + (([D.int 1] : List D).length : Int) - 1 = (i : Int) by simp]
    refine r_idxR hr' hat ?_
    walk_at "st"
    refine r_idxT (iD_last (ns := [1]) (l := 1) rfl) ?_
    walk_at "st"
    refine ⟨⟨by decide, PyProof.noPylong_small (by decide)⟩, ?_⟩
    walk_at "st"
    rw [Int.ediv_one, Int.emod_one]
    refine r_if ?_
    walk_at "st"
    refine ⟨fun z => by simp at z, fun _ => ?_⟩
    walk_at "st"
    refine r_setV hf' (ixN_nat (by rw [iD_len, hfl]; exact hi)) ?_
    rw [show (iD (zs (i + 1) ++ ns.drop (i + 1))).set i (.int ns[i]) = iD ((zs (i + 1) ++ ns.drop (i + 1)).set i ns[i]) by unfold iD; rw [List.map_set], hfset]
    have hMr : M r = none := hr
    have hMf : M f = none := by rw [mset_ne hfr] at hf; exact hf
    walk_at "st"
    have hrr : ∀ o, mset M' f o r = some (.lst (iD (ns.take (i + 1) ++ zs (ns.length - (i + 1))))) := fun o => by rw [mset_ne (fun z => hfr z.symm)]; exact hr'
    refine r_if ?_
    walk_at "st"
    refine ⟨fun z => ?_, fun z => ?_⟩
    · walk_at "st"
      refine r_kR1 (by simp) (by simp) ?_
      show dForGo _ _ _ _ [.int ((0 : Int) + ((0 : Nat) : Int))] _ _
      refine ⟨trivial, ?_⟩
      walk_at "st"
      rw [show (i : Int) + ((0 : Int) + ((0 : Nat) : Int)) = (i : Int) by omega]
      refine r_idxR (hrr _) hat ?_
      walk_at "st"
      refine r_idxT (d := .int 1) (by rfl) ?_
      walk_at "st"
      refine ⟨cm_ok (hB.2 _ (List.getElem_mem hi)) (bt_lit 1 (by decide)) (by decide), ?_⟩
      walk_at "st"
      rw [show (i : Int) + ((0 : Int) + ((0 : Nat) : Int)) = (i : Int) by omega]
      refine r_setV (hrr _) (ixN_nat (by rw [iD_len, hrl]; exact hi)) ?_
      rw [Int.mul_one, Int.sub_self, show (iD (ns.take (i + 1) ++ zs (ns.length - (i + 1)))).set i (.int 0) = iD ((ns.take (i + 1) ++ zs (ns.length - (i + 1))).set i 0) by unfold iD; rw [List.map_set], hrset]
      refine ⟨trivial, ?_⟩
      refine hN _ _ ⟨i, _, _, _, _, ?_, by omega, sub_upd (sub_upd hs hMf) hMr, mset_same, ?_, rfl⟩
      · rw [e4]; congr 1; omega
      · rw [mset_ne hfr, mset_same]
    · have z : ns[i] = 0 := by simpa using z
      walk_at "st"
      refine hN _ _ ⟨i, _, _, _, _, ?_, by omega, sub_upd hs hMf, ?_, mset_same, rfl⟩
      · rw [e4]; congr 1; omega
      · rw [hrr, ← hrset]
        have hL : (ns.take (i + 1) ++ zs (ns.length - (i + 1))).set i 0 = ns.take (i + 1) ++ zs (ns.length - (i + 1)) := by
          refine List.ext_getElem? fun k => ?_
          by_cases hk : i = k
          · subst hk
            rw [List.getElem?_set_self (by rw [hrl]; exact hi), hri, z]
          · rw [List.getElem?_set_ne hk]
        rw [hL]
  · rintro δ M' ⟨j, s4, s5, s6, s7, e1, hj, hs, hr', hf', rfl⟩
    have hj0 : j = 0 := by
      rcases Nat.eq_zero_or_pos j with h0 | h0
      · exact h0
      · rw [List.drop_eq_getElem_cons (by rw [rngDn_len]; omega)] at e1; cases e1
    subst hj0
    have hf' : M' f = some (.lst (iD ns)) := hf'
    have hr' : M' r = some (.lst (iD (zs ns.length))) := hr'
    walk_at "st"
    refine r_dif ?_
    walk_at "st"
    refine r_kIr hr' ?_
    refine lc_map (fun _ => .bl false) hr' _ _ (by rw [iD_len]; unfold zs; rw [List.length_replicate, List.length_nil]; exact sz1000 (by omega)) (fun x hx R hR => ?_) ?_
    · obtain ⟨c, hc, rfl⟩ := List.mem_map.mp hx
      have : c = 0 := List.eq_of_mem_replicate hc
      subst this
      simp only [dwipe, List.set]
      walk_at "st"
      exact hR
    · walk_at "st"
      refine r_any (bs := List.replicate ns.length false) (es := List.replicate ns.length (.bl false)) ?_ ?_ ?_
      · rw [List.nil_append, List.map_const', iD_len]; unfold zs; rw [List.length_replicate]; rfl
      · rw [← List.map_replicate, blsOf_map]
      · walk_at "st"
        have : (List.replicate ns.length false).any id = false := by
          rw [List.any_eq_false]
          intro b hb
          rw [List.eq_of_mem_replicate hb]
          decide
        rw [this]
        refine ⟨fun _ => ?_, fun z => Bool.noConfusion z⟩
        walk_at "st"
        refine r_tupR hf' ?_
        exact Wq.drop hs h
  · rw [Nat.sub_self, List.drop_zero]
    show rngDn ((ns.length : Int) - ((1 : Nat) : Int)) ((ns.length : Int) - ((1 : Nat) : Int) - (-1)).toNat = _
    rw [hn]
    rfl
  · have hMf : M f = none := by rw [mset_ne hfr] at hf; exact hf
    exact sub_upd (sub_new hr) hMf
  · rw [mset_ne (fun z => hfr z.symm), mset_same, List.take_length, Nat.sub_self]
    unfold zs
    rw [List.replicate_zero, List.append_nil]
  · rw [mset_same, List.drop_length, List.append_nil]
end K64

namespace K64
open PySem PySem.Spec PyProof.Rows L2 TL DL
local macro_rules | `(tactic| walk_at "st1") => `(tactic| first
  | with_reducible refine r_sq ?_ | with_reducible refine r_nx ?_ | with_reducible refine r_rt ?_ | with_reducible refine r_rtN ?_ | with_reducible refine r_ex ?_ | with_reducible refine r_as ?_ | with_reducible refine r_bk ?_ | with_reducible refine r_ct ?_
  | ((with_reducible apply r_var); exact rfl) | with_reducible refine r_c ?_ | with_reducible refine r_op ?_ | with_reducible refine r_un ?_ | with_reducible refine r_neg ?_
  | ((with_reducible refine r_dgN rfl ?_); (try simp only [List.set]))
  | with_reducible refine r_dgSub ?_ | with_reducible refine r_dgT rfl ?_ | with_reducible refine r_dga0 ?_ | with_reducible refine r_dga1 ?_ | with_reducible refine r_auS ?_ | ((with_reducible apply r_au); exact rfl)
  | with_reducible refine r_par ?_ | ((with_reducible refine r_kPar rfl ?_); (try simp only [List.set]))
  | with_reducible refine r_addI ?_ | with_reducible refine r_addS ?_ | with_reducible refine r_addT ?_ | with_reducible refine r_addL ?_ | with_reducible refine r_subI ?_ | with_reducible refine r_mulI ?_ | with_reducible refine r_fdiv ?_ | with_reducible refine r_mod ?_ | with_reducible refine r_pow ?_ | with_reducible refine r_shl ?_
  | with_reducible refine r_eqI ?_ | with_reducible refine r_eqS ?_ | with_reducible refine r_eqB ?_ | with_reducible refine r_neI ?_ | with_reducible refine r_neS ?_ | with_reducible refine r_neB ?_ | with_reducible refine r_ltI ?_ | with_reducible refine r_gtI ?_ | with_reducible refine r_leI ?_ | with_reducible refine r_geI ?_ | with_reducible refine r_isN ?_ | with_reducible refine r_notN ?_ | with_reducible refine r_inS ?_
  | with_reducible refine r_test ?_ | with_reducible refine r_kB ?_ | with_reducible refine r_tru ?_ | with_reducible refine r_kTb ?_ | with_reducible refine r_kTi ?_ | with_reducible refine r_kTn ?_ | with_reducible refine r_kTl ?_ | with_reducible refine r_kTt ?_ | with_reducible refine r_kTs ?_ | with_reducible refine r_not ?_ | with_reducible refine r_notV ?_ | with_reducible refine r_yes ?_
  | with_reducible refine r_nil ?_ | with_reducible refine r_cons ?_ | with_reducible refine r_tup ?_ | with_reducible refine r_lst ?_ | with_reducible refine r_newF ?_ | with_reducible refine r_cb ?_
  | with_reducible refine r_lenS ?_ | with_reducible refine r_lenL ?_ | with_reducible refine r_lenT ?_ | with_reducible refine r_lenSrc ?_ | with_reducible refine r_abs ?_ | with_reducible refine r_min2 ?_ | with_reducible refine r_max2 ?_ | with_reducible refine r_intI ?_ | with_reducible refine r_str ?_ | with_reducible refine r_tupT ?_ | with_reducible refine r_tupL ?_ | with_reducible refine r_divmod ?_
  | with_reducible refine r_sl ?_ | with_reducible refine r_noP ?_ | with_reducible refine r_part ?_ | with_reducible refine r_kP ?_ | with_reducible refine r_slS ?_ | with_reducible refine r_slT ?_ | with_reducible refine r_slL ?_ | with_reducible refine r_slSrc ?_
  | with_reducible refine r_bm ?_ | with_reducible refine r_tyS ?_ | with_reducible refine r_starts ?_ | with_reducible refine r_count ?_ | with_reducible refine r_call ?_ | with_reducible refine r_for ?_ | with_reducible refine r_seq ?_ | with_reducible refine r_kIt ?_ | with_reducible refine r_kIl ?_ | with_reducible refine r_kIs ?_ | with_reducible refine r_kIsrc ?_ | with_reducible refine r_r1 ?_ | with_reducible refine r_r2 ?_ | with_reducible refine r_lc ?_
  | with_reducible refine lit0 ?_ | with_reducible refine lit1 ?_ | with_reducible refine lit2 ?_ | with_reducible refine lit3 ?_ | with_reducible refine lit4 ?_ | with_reducible refine lit5 ?_ | with_reducible refine lit6 ?_ | with_reducible refine lit7 ?_
  | with_reducible refine r_subB ?_ | with_reducible refine r_r3 ?_ | with_reducible refine r_rev ?_ | with_reducible refine r_kRv ?_
  | fail)
local macro_rules | `(tactic| walk_at "st") => `(tactic| repeat (first | walk_at "st1" | dsimp only))
local macro_rules | `(tactic| walk_at "go") => `(tactic| (simp only [dstart, dEnd, List.map_cons, List.map_nil, List.length_cons, List.length_nil, Nat.reduceAdd, Nat.reduceSub, Nat.zero_add, List.replicate, List.cons_append, List.nil_append]; walk_at "st"))

local macro_rules | `(tactic| walk_at "bt") => `(tactic| first | assumption | (refine bt_mul ?_ ?_ <;> walk_at "bt") | (refine bt_sub ?_ ?_ <;> walk_at "bt") | (refine bt_add ?_ ?_ <;> walk_at "bt") | (refine bt_neg ?_ <;> walk_at "bt") | (refine bt_abs ?_ <;> walk_at "bt") | exact bt_lit 64 (by decide +kernel))
local macro_rules | `(tactic| walk_at "cm") => `(tactic| ((refine And.intro ?_ ?_); (focus ((apply cm_ok) <;> first | decide | walk_at "bt"))))
local macro_rules | `(tactic| walk_at "sm") => `(tactic| repeat (first | walk_at "st1" | ((with_reducible apply r_idxT); exact rfl) | ((with_reducible apply r_idxL); exact rfl) | dsimp only | walk_at "cm"))

theorem derP_bt {ns : List Int} (h : Sh ns) (hB : B4 ns) : (∀ c ∈ derP ns, Bt 710 c) ∧ (derP ns).length ≤ 4 ∧ derP ns ≠ [] := by
  cases h with
  | lin h1 =>
    rename_i c0 c1
    refine ⟨fun c hc => ?_, by simp [derP], by simp [derP]⟩
    have : c = c1 := by simpa [derP] using hc
    subst this
    exact bt_up (hB.2 _ (by simp)) (by decide)
  | quad h2 hd =>
    rename_i c0 c1 c2
    refine ⟨fun c hc => ?_, by simp [derP], by simp [derP]⟩
    simp only [derP, List.mem_cons, List.not_mem_nil, or_false] at hc
    rcases hc with rfl | rfl
    · exact bt_up (hB.2 _ (by simp)) (by decide)
    · exact bt_up (bt_mul (hB.2 c2 (by simp)) (bt_lit 2 (by decide))) (by decide)
  | cub hn =>
    refine ⟨fun c hc => ?_, by simp [derP], by simp [derP]⟩
    simp only [derP, List.mem_cons, List.not_mem_nil, or_false] at hc
    rcases hc with rfl | rfl | rfl <;> exact bt_lit 710 (by decide +kernel)
theorem Sh.len {ns : List Int} (h : Sh ns) : 2 ≤ ns.length ∧ ns.length ≤ 4 := by
  cases h <;> simp
theorem Sh.last {ns : List Int} (h : Sh ns) : ∃ l, ns.getLast? = some l ∧ 0 < l := by
  cases h with
  | lin h => exact ⟨_, rfl, h⟩
  | quad h _ => exact ⟨_, rfl, h⟩
  | cub h => exact ⟨1, rfl, by decide⟩
theorem Sh.two {ns : List Int} (h : Sh ns) (h3 : ns.length < 3) : ∃ c0 c1, ns = [c0, c1] ∧ 0 < c1 := by
  cases h with
  | lin h => exact ⟨_, _, rfl, h⟩
  | quad _ _ => simp at h3
  | cub _ => simp at h3
theorem B4.up {ns : List Int} (h : B4 ns) : ∀ c ∈ ns, Bt 710 c := fun c hc => bt_up (h.2 c hc) (by decide)
theorem sem_common (ds : List D) (M : Mu) (Q : DK) (E : DXK) (h : sp_common ds M Q E) : t_common (dEnd Q) (dstart 2 ds) M := by
  obtain ⟨ns, rfl, hS, hB, h⟩ := h
  obtain ⟨hl2, hl4⟩ := hS.len
  obtain ⟨hd1, hd2, hd3⟩ := derP_bt hS hB
  unfold t_common
  walk_at "go"
  refine r_if (r_and ?_)
  walk_at "st"
  rw [iD_len]
  refine ⟨fun z => absurd (of_decide_eq_true z) (by omega), fun _ => ⟨fun z => Bool.noConfusion z, fun _ => ?_⟩⟩
  walk_at "st"
  refine r_while (fun k δ M' => ∃ (ps es : List Int), ((k = 2 ∧ ps = ns ∧ es = derP ns ∧ 3 ≤ ns.length) ∨ (k = 1 ∧ ps.length ≤ 4 ∧ (∀ c ∈ ps, Bt 710 c) ∧ ∃ c, es = [c] ∧ c ≠ 0 ∧ Bt 700 c) ∨ (k = 0 ∧ es = [] ∧ ∃ c, ps = [c] ∧ c ≠ 0 ∧ Bt 700 c)) ∧ M' = M ∧ δ = [some (.tup (iD ps)), some (.tup (iD es))]) (if ns.length < 3 then 1 else 2) ⟨ns, derP ns, ?_, rfl, rfl⟩ ?_
  · by_cases h3 : ns.length < 3
    · obtain ⟨c0, c1, rfl, h1⟩ := hS.two h3
      exact .inr (.inl ⟨rfl, by simp, hB.up, c1, rfl, by omega, hB.2 c1 (by simp)⟩)
    · exact .inl ⟨if_neg h3, rfl, rfl, by omega⟩
  rintro k δ M' ⟨ps, es, hk, rfl, rfl⟩
  walk_at "st"
  rw [iD_len]
  rcases hk with ⟨rfl, rfl, rfl, h3⟩ | ⟨rfl, hp4, hpb, c, rfl, hc, hcb⟩ | ⟨rfl, rfl, c, rfl, hc, hcb⟩
  · have hpos := List.length_pos_iff.mpr hd3
    refine ⟨fun _ => ?_, fun z => absurd (of_decide_eq_false z) (by omega)⟩
    walk_at "st"
    refine ⟨ps, derP ps, rfl, hl4, hB.up, hd1, .inr ⟨hS, h3, rfl, ?_⟩⟩
    walk_at "st"
    exact ⟨1, by decide, derP ps, [-1], .inr (.inl ⟨rfl, hd2, hd1, -1, rfl, by decide, bt_lit 700 (by decide +kernel)⟩), by simp [iD]⟩
  · refine ⟨fun _ => ?_, fun z => absurd (of_decide_eq_false z) (by simp)⟩
    walk_at "st"
    refine ⟨ps, [c], rfl, hp4, hpb, fun z hz => by rw [List.mem_singleton.mp hz]; exact bt_up hcb (by decide), .inl ⟨c, rfl, hc, ?_⟩⟩
    walk_at "st"
    exact ⟨0, by decide, [c], [], .inr (.inr ⟨rfl, rfl, c, rfl, hc, hcb⟩), by simp [iD]⟩
  · refine ⟨fun z => absurd (of_decide_eq_true z) (by simp), fun _ => ?_⟩
    walk_at "st"
    refine ⟨[c], c, rfl, ⟨by simp, fun z hz => by rw [List.mem_singleton.mp hz]; exact hcb⟩, rfl, hc, fun g ms e hg hm h1 => ?_⟩
    rw [h1 c rfl]
    exact Wq.now h
theorem posm {g c : Int} (hg : 0 < g) (h : 0 < g * c) : 0 < c := by
  rcases Int.lt_or_le 0 c with h1 | h1
  · exact h1
  · have := Int.mul_le_mul_of_nonneg_left h1 (Int.le_of_lt hg)
    rw [Int.mul_zero] at this
    omega
theorem sh_div {ns ms : List Int} {g : Int} (h : Sh ns) (hg : 0 < g) (e : ns = ms.map (g * ·)) : Sh ms := by
  have hl := congrArg List.length e
  rw [List.length_map] at hl
  cases h with
  | lin h1 =>
    match ms, hl, e with
    | [a, b], _, e =>
      simp at e
      obtain ⟨rfl, rfl⟩ := e
      exact .lin (posm hg h1)
  | quad h2 hd =>
    match ms, hl, e with
    | [a, b, c], _, e =>
      simp at e
      obtain ⟨rfl, rfl, rfl⟩ := e
      refine .quad (posm hg h2) ?_
      have e2 : g * b * (g * b) - 4 * (g * a * (g * c)) = g * g * (b * b - 4 * (a * c)) := by grind
      rw [e2] at hd
      exact posm (Int.mul_pos hg hg) hd
  | cub hn =>
    match ms, hl, e with
    | [a, b, c, d], _, e =>
      have e : [_, _, _, _] = [g * a, g * b, g * c, g * d] := e
      obtain ⟨e0, e⟩ := List.cons.inj e
      obtain ⟨e1, e⟩ := List.cons.inj e
      obtain ⟨e2, e⟩ := List.cons.inj e
      obtain ⟨e3, e⟩ := List.cons.inj e
      have h1 : g = 1 := Int.eq_one_of_dvd_one (Int.le_of_lt hg) ⟨d, e3⟩
      subst h1
      rw [Int.one_mul] at e0 e1 e2 e3
      subst e0 e1 e2 e3
      exact .cub hn
theorem sem_free (ds : List D) (M : Mu) (Q : DK) (E : DXK) (h : sp_free ds M Q E) : t_free (dEnd Q) (dstart 3 ds) M := by
  obtain ⟨ns, rfl, hS, hB, h⟩ := h
  obtain ⟨l, hl, hl0⟩ := hS.last
  unfold t_free
  walk_at "go"
  refine ⟨ns, l, rfl, hB, hl, by omega, fun g ms e hgl hBm _ => ?_⟩
  have hg : 0 < g := by
    rcases Int.lt_trichotomy g 0 with hg | hg | hg
    · have := Int.mul_neg_of_neg_of_pos hg hl0
      omega
    · subst hg; simp at hgl
    · exact hg
  have hSm := sh_div hS hg e
  walk_at "st"
  refine ⟨ms, rfl, hSm, hBm, ?_⟩
  walk_at "st"
  refine ⟨ms, rfl, hSm, hBm, ?_⟩
  walk_at "st"
  refine ⟨ms, rfl, by have := hSm.len; omega, hBm, ?_⟩
  exact Wq.now (h g ms hg e hSm hBm)
def chainEnd (ns : List Int) : List (List Int) × List Int × Int := match ns with
  | [c0, c1] => ([], [c0, c1], c1)
  | ns => ([ns], derP ns, 1)
theorem sem_chain_of (ds : List D) (M : Mu) (Q : DK) (E : DXK) (h : sp_chain_of ds M Q E) : t_chain_of (dEnd Q) (dstart 3 ds) M := by
  obtain ⟨ns, rfl, hS, hB, h⟩ := h
  obtain ⟨hl2, hl4⟩ := hS.len
  obtain ⟨hd1, hd2, hd3⟩ := derP_bt hS hB
  obtain ⟨pre, a, c, hch, hc, ha4, hab, hcb, hpre⟩ : ∃ (pre : List (List Int)) (a : List Int) (c : Int), chainP ns = pre ++ [a, [c]] ∧ c ≠ 0 ∧ a.length ≤ 4 ∧ (∀ z ∈ a, Bt 710 z) ∧ Bt 710 c ∧ pre.length ≤ 1 := by
    by_cases h3 : ns.length < 3
    · obtain ⟨c0, c1, rfl, h1⟩ := hS.two h3
      exact ⟨[], [c0, c1], c1, rfl, by omega, by simp, hB.up, hB.up c1 (by simp), by simp⟩
    · refine ⟨[ns], derP ns, 1, ?_, by decide, hd2, hd1, bt_lit 710 (by decide +kernel), by simp⟩
      cases hS with
      | lin _ => simp at h3
      | quad _ _ => rfl
      | cub _ => rfl
  unfold t_chain_of
  walk_at "go"
  refine ⟨ns, rfl, hS, hB, ?_⟩
  walk_at "st"
  refine r_newT fun p hp => ?_
  walk_at "st"
  refine r_while (fun k δ M' => ∃ (L : List (List Int)) (s2 : Option D), ((k = 2 ∧ L = [ns, derP ns] ∧ 3 ≤ ns.length) ∨ (k = 1 ∧ L = chainP ns) ∨ (k = 0 ∧ L = chainP ns ++ [[]])) ∧ M' = mset M p (.lst (polys L)) ∧ δ = [some (.tup (iD ns)), some (.ref p), s2]) (if ns.length < 3 then 1 else 2) ⟨[ns, derP ns], none, ?_, rfl, rfl⟩ ?_
  · by_cases h3 : ns.length < 3
    · obtain ⟨c0, c1, rfl, h1⟩ := hS.two h3
      exact .inr (.inl ⟨rfl, rfl⟩)
    · exact .inl ⟨if_neg h3, rfl, by omega⟩
  rintro k δ M' ⟨L, s2, hk, rfl, rfl⟩
  -- one more member
  have more : ∀ (L : List (List Int)) (x y : List Int) (v : List Int) (pre' : List (List Int)), L = pre' ++ [x, y] → pre'.length ≤ 10 → y ≠ [] →
      (∀ Q' : DK, Q' (.tup (iD v)) (mset M p (.lst (polys L))) → sp_remainder [.tup (iD x), .tup (iD y)] (mset M p (.lst (polys L))) Q' dX0) → v.length ≤ 4 →
      ∀ D0 : DEnds, D0.nx [some (.tup (iD ns)), some (.ref p), s2] (mset M p (.lst (polys (L ++ [v.map (fun z => -z)])))) →
        (dEx (dBM "list" dAppend (dVar 1) (dCons (dCB dTupOf (dCons (dLc false (diSeq (dCall sp_remainder [] dX0 (dCons (dOp dIdx (dVar 1) (dUn dNeg (dC (.int 2)))) (dCons (dOp dIdx (dVar 1) (dUn dNeg (dC (.int 1)))) dNil)))) (dgN 2) dYes (dUn dNeg (dVar 2)) [2]) dNil)) dNil))) D0 [some (.tup (iD ns)), some (.ref p), s2] (mset M p (.lst (polys L))) := by
    intro L x y v pre' hL hp10 hy hr hv D0 hN
    have hLl : L.length = pre'.length + 2 := by rw [hL]; simp
    have i1 : atI (polys L) (-1) = some (.tup (iD y)) := atI_last (by rw [hL]; unfold polys; simp)
    have i2 : atI (polys L) (-2) = some (.tup (iD x)) := by
      have e : ixN (polys L).length (-2) = some pre'.length := by
        unfold ixN polys
        rw [List.length_map, hLl, if_neg (by decide), if_pos (by omega)]
        congr 1
        omega
      unfold atI
      rw [e, Option.bind_some, hL]
      unfold polys
      rw [List.getElem?_map, List.getElem?_append_right (by omega), Nat.sub_self]
      rfl
    walk_at "st"
    refine r_tyR mset_same ?_
    walk_at "st"
    refine r_idxR mset_same i2 ?_
    walk_at "st"
    refine r_idxR mset_same i1 ?_
    walk_at "st"
    refine hr _ ?_
    refine r_kIt ?_
    refine lc_ints (fun z => -z) v trivial (by omega) (fun z hz R hR => ?_) ?_
    · simp only [dwipe, List.set]
      walk_at "st"
      exact hR
    · walk_at "st"
      refine r_append mset_same (szlt (by unfold polys; rw [List.length_map]; omega)) ?_
      rw [mset_mset]
      have e : polys L ++ [D.tup (iD (v.map fun z => -z))] = polys (L ++ [v.map fun z => -z]) := by unfold polys; rw [List.map_append]; rfl
      rw [e]
      exact hN
  walk_at "st"
  rcases hk with ⟨rfl, rfl, h3⟩ | ⟨rfl, rfl⟩ | ⟨rfl, rfl⟩
  · refine r_idxR mset_same (d := .tup (iD (derP ns))) (atI_last rfl) ?_
    walk_at "st"
    rw [iD_len]
    have hpos := List.length_pos_iff.mpr hd3
    refine ⟨fun _ => ?_, fun z => absurd (of_decide_eq_false z) (by omega)⟩
    refine more [ns, derP ns] ns (derP ns) [-1] [] rfl (by simp) hd3 (fun Q' hq => ⟨ns, derP ns, rfl, hl4, hB.up, hd1, .inr ⟨hS, h3, rfl, hq⟩⟩) (by simp) _ ?_
    refine ⟨1, by decide, _, _, .inr (.inl ⟨rfl, ?_⟩), rfl, rfl⟩
    cases hS with
    | lin _ => simp at h3
    | quad _ _ => rfl
    | cub _ => rfl
  · have i1 : atI (polys (chainP ns)) (-1) = some (.tup (iD [c])) := atI_last (by rw [hch]; unfold polys; simp)
    refine r_idxR mset_same i1 ?_
    walk_at "st"
    rw [iD_len]
    refine ⟨fun _ => ?_, fun z => absurd (of_decide_eq_false z) (by simp)⟩
    refine more (chainP ns) a [c] [] pre hch (by omega) (by simp) (fun Q' hq => ⟨a, [c], rfl, ha4, hab, fun z hz => by rw [List.mem_singleton.mp hz]; exact hcb, .inl ⟨c, rfl, hc, hq⟩⟩) (by simp) _ ?_
    exact ⟨0, by decide, _, _, .inr (.inr ⟨rfl, rfl⟩), rfl, rfl⟩
  · have i1 : atI (polys (chainP ns ++ [[]])) (-1) = some (.tup (iD [])) := atI_last (by unfold polys; simp)
    refine r_idxR mset_same i1 ?_
    walk_at "st"
    refine ⟨fun z => absurd (of_decide_eq_true z) (by simp [iD]), fun _ => ?_⟩
    walk_at "st"
    refine r_slR mset_same ?_
    rw [cutL_none_neg1]
    have e : (polys (chainP ns ++ [[]])).dropLast = polys (chainP ns) := by unfold polys; rw [List.map_append]; exact List.dropLast_concat
    rw [e]
    walk_at "st"
    exact Wq.drop (sub_new hp) h
theorem sem_changes (ds : List D) (M : Mu) (Q : DK) (E : DXK) (h : sp_changes ds M Q E) : t_changes (dEnd Q) (dstart 4 ds) M := by
  obtain ⟨x, ss, rfl, hx, h⟩ := h
  unfold t_changes
  walk_at "go"
  refine r_kIQ hx fun g hg => ?_
  refine for_inv (fun xs δ M' => ∃ (f l : Int) (s3 : Option D) (r : List Int), xs = iD r ∧ r.foldl chgS (f, l) = ss.foldl chgS (0, 0) ∧ M' = M ∧ δ = [some x, some (.int f), some (.int l), s3]) (fun xs δ M' hh => by obtain ⟨_, _, _, _, _, _, rfl, _⟩ := hh; exact hg) ?_ ?_ _ _ _ ⟨0, 0, none, ss, rfl, rfl, rfl, rfl⟩
  · rintro y ys δ M' N ⟨f, l, s3, r, e1, e2, rfl, rfl⟩ hN
    cases r with
    | nil => cases e1
    | cons c r =>
      have e1 : y :: ys = .int c :: iD r := e1
      obtain ⟨rfl, rfl⟩ := List.cons.inj e1
      rw [List.foldl_cons] at e2
      walk_at "st"
      refine r_if ?_
      walk_at "st"
      refine ⟨fun z => ?_, fun z => ?_⟩
      · have z : c ≠ 0 := by simpa using z
        walk_at "st"
        refine r_if ?_
        walk_at "st"
        refine ⟨fun z2 => ?_, fun z2 => ?_⟩
        · have z2 := of_decide_eq_true z2
          have es : chgS (f, l) c = (f + 1, c) := by unfold chgS; rw [if_neg z, if_pos z2]
          rw [es] at e2
          walk_at "st"
          exact hN _ _ ⟨f + 1, c, _, r, rfl, e2, rfl, rfl⟩
        · have z2 := of_decide_eq_false z2
          have es : chgS (f, l) c = (f, c) := by unfold chgS; rw [if_neg z, if_neg z2]
          rw [es] at e2
          walk_at "st"
          exact hN _ _ ⟨f, c, _, r, rfl, e2, rfl, rfl⟩
      · have z : c = 0 := by simpa using z
        have es : chgS (f, l) c = (f, l) := by unfold chgS; rw [if_pos z]
        rw [es] at e2
        walk_at "st"
        exact hN _ _ ⟨f, l, _, r, rfl, e2, rfl, rfl⟩
  · rintro δ M' ⟨f, l, s3, r, e1, e2, rfl, rfl⟩
    cases r with
    | cons c r => cases e1
    | nil =>
      walk_at "st"
      have : chg ss = f := by unfold chg; rw [← e2]; rfl
      rw [this] at h
      exact Wq.now h
theorem sem_changes_at (ds : List D) (M : Mu) (Q : DK) (E : DXK) (h : sp_changes_at ds M Q E) : t_changes_at (dEnd Q) (dstart 3 ds) M := by
  obtain ⟨ps, n, m, rfl, h8, hB, hn, hm, h⟩ := h
  unfold t_changes_at
  walk_at "go"
  refine lc_inv (fun xs acc M' => ∃ (r l : List (List Int)), ps = l ++ r ∧ xs = polys r ∧ acc = iD (l.map fun p => sg (hom p n m)) ∧ M' = M) (fun _ _ _ _ => trivial) ?_ ?_ _ _ _ ⟨ps, [], rfl, rfl, rfl, rfl⟩
  · rintro x xs acc M' N ⟨r, l, e1, e2, rfl, rfl⟩ hN
    cases r with
    | nil => cases e2
    | cons p r =>
      have e2 : x :: xs = .tup (iD p) :: polys r := e2
      obtain ⟨rfl, rfl⟩ := List.cons.inj e2
      have hp := hB p (by rw [e1]; simp)
      simp only [dwipe, List.set]
      walk_at "st"
      refine ⟨p, n, m, rfl, hp, hn, hm, ?_⟩
      refine ⟨szlt ?_, hN _ _ ⟨r, l ++ [p], by rw [e1]; simp, rfl, ?_, rfl⟩⟩
      · rw [iD_len, List.length_map]
        have := congrArg List.length e1
        rw [List.length_append] at this
        omega
      · unfold iD; rw [List.map_append, List.map_append]; rfl
  · rintro acc M' ⟨r, l, e1, e2, rfl, rfl⟩
    cases r with
    | cons p r => cases e2
    | nil =>
      rw [List.append_nil] at e1
      subst e1
      walk_at "st"
      exact ⟨_, _, rfl, rfl, Wq.now h⟩
theorem polys_len (ps : List (List Int)) : (polys ps).length = ps.length := by unfold polys; rw [List.length_map]
theorem sem_changes_far (ds : List D) (M : Mu) (Q : DK) (E : DXK) (h : sp_changes_far ds M Q E) : t_changes_far (dEnd Q) (dstart 5 ds) M := by
  obtain ⟨ps, rfl, h8, hB, h⟩ := h
  unfold t_changes_far
  walk_at "go"
  refine r_newT fun f hf => ?_
  walk_at "st"
  refine for_inv (fun xs δ M' => ∃ (r l : List (List Int)) (s3 s4 : Option D), ps = l ++ r ∧ xs = polys r ∧ M' = mset M f (.lst (iD (l.map (farS (-1))))) ∧ δ = [some (.lst (polys ps)), some (.int (-1)), some (.ref f), s3, s4]) (fun _ _ _ _ => trivial) ?_ ?_ _ _ _ ⟨ps, [], none, none, rfl, rfl, rfl, rfl⟩
  · rintro x xs δ M' N ⟨r, l, s3, s4, e1, e2, rfl, rfl⟩ hN
    cases r with
    | nil => cases e2
    | cons p r =>
      have e2 : x :: xs = .tup (iD p) :: polys r := e2
      obtain ⟨rfl, rfl⟩ := List.cons.inj e2
      obtain ⟨hp, hp8⟩ := hB p (by rw [e1]; simp)
      have hll : l.length ≤ 8 := by
        have := congrArg List.length e1
        rw [List.length_append] at this
        omega
      obtain ⟨z, hz⟩ : ∃ z, p.getLast? = some z := by
        cases hp0 : p with
        | nil => exact absurd hp0 hp
        | cons a b => exact ⟨_, List.getLast?_cons⟩
      have hzD := last_D hz
      walk_at "st"
      obtain ⟨hd, hhd⟩ : ∃ hd : Int, hd = if 0 < z then 1 else -1 := ⟨_, rfl⟩
      refine via (P := fun d M' => d = .int hd ∧ mset M f (.lst (iD (l.map (farS (-1))))) = M') (fun Q' hQ' => ?_) ?_
      · refine r_dif ?_
        walk_at "st"
        refine r_idxT (iD_last hz) ?_
        walk_at "st"
        refine ⟨fun z1 => ?_, fun z1 => ?_⟩
        · walk_at "st"
          exact hQ' _ _ ⟨by rw [hhd, if_pos (of_decide_eq_true z1)], rfl⟩
        · walk_at "st"
          exact hQ' _ _ ⟨by rw [hhd, if_neg (of_decide_eq_false z1)], rfl⟩
      rintro _ _ ⟨rfl, rfl⟩
      have fin : ∀ v : Int, v = farS (-1) p → dAppend (.ref f) [.int v] (mset M f (.lst (iD (l.map (farS (-1)))))) fun _ M1 => N [some (.lst (polys ps)), some (.int (-1)), some (.ref f), some (.tup (iD p)), some (.int hd)] M1 := by
        intro v hv
        refine r_append mset_same (szlt (by rw [iD_len, List.length_map]; omega)) ?_
        rw [mset_mset]
        refine hN _ _ ⟨r, l ++ [p], _, _, by rw [e1]; simp, rfl, ?_, rfl⟩
        rw [List.map_append, hv]
        unfold iD
        rw [List.map_append]
        rfl
      walk_at "st"
      refine r_tyR mset_same ?_
      walk_at "st"
      refine r_dif ?_
      walk_at "st"
      rw [iD_len]
      refine ⟨⟨by decide, PyProof.noPylong_small (by decide)⟩, ?_⟩
      walk_at "st"
      refine r_idxT (d := .int ((p.length : Int) % 2)) (by rfl) ?_
      walk_at "st"
      have hmod : ((p.length : Int) % 2 = 0) ↔ p.length % 2 = 0 := by omega
      refine ⟨fun z1 => ?_, fun z1 => ?_⟩
      · have z1 := hmod.mp (of_decide_eq_true z1)
        walk_at "st"
        refine ⟨cm_ok (a := 64) (b := 64) (by rw [hhd]; split <;> exact bt_lit 64 (by decide)) (bt_lit 64 (by decide)) (by decide), ?_⟩
        walk_at "st"
        refine fin _ ?_
        unfold farS
        rw [if_pos z1, hzD, hhd]
      · have z1 : ¬ p.length % 2 = 0 := fun hh => of_decide_eq_false z1 (hmod.mpr hh)
        walk_at "st"
        refine fin _ ?_
        unfold farS
        rw [if_neg z1, hzD, hhd]
  · rintro δ M' ⟨r, l, s3, s4, e1, e2, rfl, rfl⟩
    cases r with
    | cons p r => cases e2
    | nil =>
      rw [List.append_nil] at e1
      subst e1
      walk_at "st"
      exact ⟨_, _, rfl, dseq_ref mset_same, Wq.drop (sub_new hf) h⟩
theorem sem_count_between (ds : List D) (M : Mu) (Q : DK) (E : DXK) (h : sp_count_between ds M Q E) : t_count_between (dEnd Q) (dstart 5 ds) M := by
  obtain ⟨ps, n, m, rfl, h8, hB, hn, hm, h⟩ := h
  unfold t_count_between
  walk_at "go"
  refine r_dif ?_
  walk_at "st"
  refine ⟨fun _ => ?_, fun z => Bool.noConfusion z⟩
  walk_at "st"
  refine ⟨ps, rfl, h8, fun p hp => ⟨(hB p hp).1, (hB p hp).2.1⟩, ?_⟩
  walk_at "st"
  refine r_dif ?_
  walk_at "st"
  refine ⟨fun z => Bool.noConfusion z, fun _ => ?_⟩
  walk_at "st"
  refine ⟨ps, n, m, rfl, h8, fun p hp => (hB p hp).2, hn, hm, ?_⟩
  walk_at "st"
  exact Wq.now h
/-! the scaled chain tells the same -/
theorem sg_mul {g x : Int} (hg : 0 < g) : sg (g * x) = sg x := by
  unfold sg
  have e1 : decide (0 < g * x) = decide (0 < x) := by
    rw [Bool.eq_iff_iff, decide_eq_true_iff, decide_eq_true_iff]
    exact ⟨posm hg, Int.mul_pos hg⟩
  have e2 : decide (g * x < 0) = decide (x < 0) := by
    rw [Bool.eq_iff_iff, decide_eq_true_iff, decide_eq_true_iff]
    constructor
    · intro h
      have := posm (c := -x) hg (by rw [Int.mul_neg]; omega)
      omega
    · intro h
      exact Int.mul_neg_of_pos_of_neg hg h
  rw [e1, e2]
theorem hom2 (c0 c1 n m : Int) : hom [c0, c1] n m = c1 * n + c0 * m := by
  show (0 * n + c1 * 1) * n + c0 * (1 * m) = _
  grind
theorem hom3 (c0 c1 c2 n m : Int) : hom [c0, c1, c2] n m = c2 * n * n + c1 * m * n + c0 * m * m := by
  show ((0 * n + c2 * 1) * n + c1 * (1 * m)) * n + c0 * (1 * m * m) = _
  grind
theorem hom1 (c n m : Int) : hom [c] n m = c := by
  show 0 * n + c * 1 = c
  grind
theorem sg_pos {x : Int} (h : 0 < x) : sg x = 1 := by
  unfold sg b2I
  rw [decide_eq_true h, decide_eq_false (by omega)]
  rfl
theorem far_chain {ns : List Int} (h : Sh ns) : chg ((chainP ns).map (farS (-1))) = if ns.length = 3 then 2 else 1 := by
  cases h with
  | lin h1 =>
    rename_i c0 c1
    have e : (chainP [c0, c1]).map (farS (-1)) = [-1, 1] := by
      show [farS (-1) [c0, c1], farS (-1) [c1]] = _
      unfold farS
      simp [h1]
    rw [e]
    rfl
  | quad h2 hd =>
    rename_i c0 c1 c2
    have h3 : 0 < c2 * 2 := by omega
    have e : (chainP [c0, c1, c2]).map (farS (-1)) = [1, -1, 1] := by
      show [farS (-1) [c0, c1, c2], farS (-1) [c1, c2 * 2], farS (-1) [1]] = _
      unfold farS
      simp [h2, h3]
    rw [e]
    rfl
  | cub hn =>
    rename_i n
    have e : (chainP [-n, 0, 0, 1]).map (farS (-1)) = [-1, 1, 1] := by
      show [farS (-1) [-n, 0, 0, 1], farS (-1) [0, 0, 3], farS (-1) [1]] = _
      unfold farS
      simp
    rw [e]
    rfl
theorem roots_eq {ns ms : List Int} {g : Int} (hS : Sh ns) (hg : 0 < g) (e : ns = ms.map (g * ·)) (hm : Sh ms) (n m : Int) :
    chg ((chainP ms).map (farS (-1))) - chg ((chainP ms).map fun p => sg (hom p n m)) = rootsV ns n m := by
  rw [far_chain hm]
  have hl := congrArg List.length e
  rw [List.length_map] at hl
  cases hm with
  | lin h1 =>
    rename_i a b
    subst e
    show 1 - chg [sg (hom [a, b] n m), sg (hom [b] n m)] = 1 - chg [sg (hom [g * a, g * b] n m), 1]
    rw [hom1, sg_pos h1, hom2, hom2]
    have : g * b * n + g * a * m = g * (b * n + a * m) := by grind
    rw [this, sg_mul hg]
  | quad h2 hd =>
    rename_i a b c
    subst e
    show 2 - chg [sg (hom [a, b, c] n m), sg (hom [b, c * 2] n m), sg (hom [1] n m)] = 2 - chg [sg (hom [g * a, g * b, g * c] n m), sg (hom [g * b, g * c * 2] n m), 1]
    rw [hom1, sg_pos (x := 1) (by decide), hom3, hom3, hom2, hom2]
    have e1 : g * c * n * n + g * b * m * n + g * a * m * m = g * (c * n * n + b * m * n + a * m * m) := by grind
    have e2 : g * c * 2 * n + g * b * m = g * (c * 2 * n + b * m) := by grind
    rw [e1, e2, sg_mul hg, sg_mul hg]
  | cub hn =>
    rename_i k
    cases hS with
    | lin _ => simp at hl
    | quad _ _ => simp at hl
    | cub hn2 =>
      rename_i k2
      have e : [-k2, 0, 0, 1] = [g * -k, g * 0, g * 0, g * 1] := e
      obtain ⟨e0, e⟩ := List.cons.inj e
      obtain ⟨e1, e⟩ := List.cons.inj e
      obtain ⟨e2, e⟩ := List.cons.inj e
      obtain ⟨e3, e⟩ := List.cons.inj e
      have h1 : g = 1 := by omega
      subst h1
      have : k2 = k := by omega
      subst this
      show 1 - chg [sg (hom [-k2, 0, 0, 1] n m), sg (hom [0, 0, 3] n m), sg (hom [1] n m)] = 1 - chg [sg (hom [-k2, 0, 0, 1] n m), sg (hom [0, 0, 3] n m), 1]
      rw [hom1, sg_pos (x := 1) (by decide)]
theorem chain_ok {ns : List Int} (h : Sh ns) (hB : B4 ns) : (chainP ns).length ≤ 8 ∧ ∀ p ∈ chainP ns, p ≠ [] ∧ p.length ≤ 8 ∧ ∀ c ∈ p, Bt 2000 c := by
  obtain ⟨hd1, hd2, hd3⟩ := derP_bt h hB
  obtain ⟨hl2, hl4⟩ := h.len
  have hne : ns ≠ [] := fun z => by rw [z] at hl2; simp at hl2
  have h0 : ns ≠ [] ∧ ns.length ≤ 8 ∧ ∀ c ∈ ns, Bt 2000 c := ⟨hne, by omega, fun c hc => bt_up (hB.2 c hc) (by decide)⟩
  have h1 : derP ns ≠ [] ∧ (derP ns).length ≤ 8 ∧ ∀ c ∈ derP ns, Bt 2000 c := ⟨hd3, by omega, fun c hc => bt_up (hd1 c hc) (by decide)⟩
  have h2 : ([1] : List Int) ≠ [] ∧ ([1] : List Int).length ≤ 8 ∧ ∀ c ∈ ([1] : List Int), Bt 2000 c := ⟨by simp, by simp, fun c hc => by rw [List.mem_singleton.mp hc]; exact bt_lit 2000 (by decide +kernel)⟩
  cases h with
  | lin _ =>
    refine ⟨by simp [chainP], fun p hp => ?_⟩
    simp only [chainP, List.mem_cons, List.not_mem_nil, or_false] at hp
    rcases hp with rfl | rfl
    · exact h0
    · exact h1
  | quad _ _ =>
    refine ⟨by simp [chainP], fun p hp => ?_⟩
    simp only [chainP, List.mem_cons, List.not_mem_nil, or_false] at hp
    rcases hp with rfl | rfl | rfl
    · exact h0
    · exact h1
    · exact h2
  | cub _ =>
    refine ⟨by simp [chainP], fun p hp => ?_⟩
    simp only [chainP, List.mem_cons, List.not_mem_nil, or_false] at hp
    rcases hp with rfl | rfl | rfl
    · exact h0
    · exact h1
    · exact h2
theorem sem_roots_in (ds : List D) (M : Mu) (Q : DK) (E : DXK) (h : sp_roots_in ds M Q E) : t_roots_in (dEnd Q) (dstart 4 ds) M := by
  obtain ⟨ns, n, m, rfl, hS, hB, hn, hm, h⟩ := h
  unfold t_roots_in
  walk_at "go"
  refine ⟨ns, rfl, hS, hB, fun g ms hg e hSm hBm => ?_⟩
  obtain ⟨hl2, hl4⟩ := hSm.len
  obtain ⟨c1, c2⟩ := chain_ok hSm hBm
  walk_at "st"
  refine r_if ?_
  walk_at "st"
  rw [iD_len]
  refine ⟨fun z => absurd (of_decide_eq_true z) (by omega), fun _ => ?_⟩
  walk_at "st"
  refine r_if (r_and ?_)
  walk_at "st"
  refine ⟨fun z => Bool.noConfusion z, fun _ => ⟨fun z => Bool.noConfusion z, fun _ => ?_⟩⟩
  walk_at "st"
  refine ⟨ms, rfl, hSm, hBm, ?_⟩
  walk_at "st"
  refine ⟨chainP ms, n, m, rfl, c1, c2, hn, hm, ?_⟩
  rw [roots_eq hS hg e hSm]
  exact Wq.now h
theorem sem_judge_order (ds : List D) (M : Mu) (Q : DK) (E : DXK) (h : sp_judge_order ds M Q E) : t_judge_order (dEnd Q) (dstart 4 ds) M := by
  obtain ⟨a, b, i, j, n, m, rfl, hSa, hBa, hSb, hBb, hn, hm, h⟩ := h
  have hBa5 : B5 a := ⟨hBa.1, fun c hc => bt_up (hBa.2 c hc) (by decide)⟩
  unfold t_judge_order
  walk_at "go"
  refine r_idxT atI_zero ?_
  walk_at "st"
  refine ⟨a, n, m, rfl, hSa, hBa, hn, hm, ?_⟩
  walk_at "st"
  refine viaS (P := fun δ' M' => δ' = [some (.tup [.tup (iD a), .int i]), some (.tup [.tup (iD b), .int j]), some (.tup [.int n, .int m]), some (.int (if sg (hom a n m) = 0 then rootsV a n m - 1 else rootsV a n m))] ∧ M = M') (fun Nx hNx => ?_) ?_
  · refine r_if ?_
    walk_at "st"
    refine r_idxT atI_zero ?_
    walk_at "st"
    refine ⟨a, n, m, rfl, hBa5, hn, hm, ?_⟩
    walk_at "st"
    refine ⟨fun z => ?_, fun z => ?_⟩
    · walk_at "st"
      exact hNx _ _ ⟨by rw [if_pos (of_decide_eq_true z)]; rfl, rfl⟩
    · walk_at "st"
      exact hNx _ _ ⟨by rw [if_neg (of_decide_eq_false z)], rfl⟩
  rintro _ _ ⟨rfl, rfl⟩
  unfold judgeV at h
  walk_at "st"
  refine r_if ?_
  walk_at "st"
  refine r_idxT atI_one ?_
  walk_at "st"
  refine ⟨fun z => ?_, fun z => ?_⟩
  · rw [if_pos (of_decide_eq_true z)] at h
    walk_at "st"
    exact Wq.now h
  rw [if_neg (of_decide_eq_false z)] at h
  walk_at "st"
  refine r_dif ?_
  walk_at "st"
  refine r_idxT atI_zero ?_
  walk_at "st"
  refine ⟨b, n, m, rfl, hSb, hBb, hn, hm, ?_⟩
  walk_at "st"
  refine r_idxT atI_one ?_
  walk_at "st"
  refine ⟨fun z => ?_, fun z => ?_⟩
  · rw [if_pos (of_decide_eq_true z)] at h
    walk_at "st"
    exact Wq.now h
  · rw [if_neg (of_decide_eq_false z)] at h
    walk_at "st"
    exact Wq.now h
end K64

namespace K64
open PySem PySem.Spec PyProof.Rows L2 TL DL
local macro_rules | `(tactic| walk_at "st1") => `(tactic| first
  | with_reducible refine r_sq ?_ | with_reducible refine r_nx ?_ | with_reducible refine r_rt ?_ | with_reducible refine r_rtN ?_ | with_reducible refine r_ex ?_ | with_reducible refine r_as ?_ | with_reducible refine r_bk ?_ | with_reducible refine r_ct ?_
  | ((with_reducible apply r_var); exact rfl) | with_reducible refine r_c ?_ | with_reducible refine r_op ?_ | with_reducible refine r_un ?_ | with_reducible refine r_neg ?_
  | ((with_reducible refine r_dgN rfl ?_); (try simp only [List.set]))
  | with_reducible refine r_dgSub ?_ | with_reducible refine r_dgT rfl ?_ | with_reducible refine r_dga0 ?_ | with_reducible refine r_dga1 ?_ | with_reducible refine r_auS ?_ | ((with_reducible apply r_au); exact rfl)
  | with_reducible refine r_par ?_ | ((with_reducible refine r_kPar rfl ?_); (try simp only [List.set]))
  | with_reducible refine r_addI ?_ | with_reducible refine r_addS ?_ | with_reducible refine r_addT ?_ | with_reducible refine r_addL ?_ | with_reducible refine r_subI ?_ | with_reducible refine r_mulI ?_ | with_reducible refine r_fdiv ?_ | with_reducible refine r_mod ?_ | with_reducible refine r_pow ?_ | with_reducible refine r_shl ?_
  | with_reducible refine r_eqI ?_ | with_reducible refine r_eqS ?_ | with_reducible refine r_eqB ?_ | with_reducible refine r_neI ?_ | with_reducible refine r_neS ?_ | with_reducible refine r_neB ?_ | with_reducible refine r_ltI ?_ | with_reducible refine r_gtI ?_ | with_reducible refine r_leI ?_ | with_reducible refine r_geI ?_ | with_reducible refine r_isN ?_ | with_reducible refine r_notN ?_ | with_reducible refine r_inS ?_
  | with_reducible refine r_test ?_ | with_reducible refine r_kB ?_ | with_reducible refine r_tru ?_ | with_reducible refine r_kTb ?_ | with_reducible refine r_kTi ?_ | with_reducible refine r_kTn ?_ | with_reducible refine r_kTl ?_ | with_reducible refine r_kTt ?_ | with_reducible refine r_kTs ?_ | with_reducible refine r_not ?_ | with_reducible refine r_notV ?_ | with_reducible refine r_yes ?_
  | with_reducible refine r_nil ?_ | with_reducible refine r_cons ?_ | with_reducible refine r_tup ?_ | with_reducible refine r_lst ?_ | with_reducible refine r_newF ?_ | with_reducible refine r_cb ?_
  | with_reducible refine r_lenS ?_ | with_reducible refine r_lenL ?_ | with_reducible refine r_lenT ?_ | with_reducible refine r_lenSrc ?_ | with_reducible refine r_abs ?_ | with_reducible refine r_min2 ?_ | with_reducible refine r_max2 ?_ | with_reducible refine r_intI ?_ | with_reducible refine r_str ?_ | with_reducible refine r_tupT ?_ | with_reducible refine r_tupL ?_ | with_reducible refine r_divmod ?_
  | with_reducible refine r_sl ?_ | with_reducible refine r_noP ?_ | with_reducible refine r_part ?_ | with_reducible refine r_kP ?_ | with_reducible refine r_slS ?_ | with_reducible refine r_slT ?_ | with_reducible refine r_slL ?_ | with_reducible refine r_slSrc ?_
  | with_reducible refine r_bm ?_ | with_reducible refine r_tyS ?_ | with_reducible refine r_starts ?_ | with_reducible refine r_count ?_ | with_reducible refine r_call ?_ | with_reducible refine r_for ?_ | with_reducible refine r_seq ?_ | with_reducible refine r_kIt ?_ | with_reducible refine r_kIl ?_ | with_reducible refine r_kIs ?_ | with_reducible refine r_kIsrc ?_ | with_reducible refine r_r1 ?_ | with_reducible refine r_r2 ?_ | with_reducible refine r_lc ?_
  | with_reducible refine lit0 ?_ | with_reducible refine lit1 ?_ | with_reducible refine lit2 ?_ | with_reducible refine lit3 ?_ | with_reducible refine lit4 ?_ | with_reducible refine lit5 ?_ | with_reducible refine lit6 ?_ | with_reducible refine lit7 ?_
  | with_reducible refine r_subB ?_ | with_reducible refine r_r3 ?_ | with_reducible refine r_rev ?_ | with_reducible refine r_kRv ?_
  | fail)
local macro_rules | `(tactic| walk_at "st") => `(tactic| repeat (first | walk_at "st1" | dsimp only))
local macro_rules | `(tactic| walk_at "go") => `(tactic| (simp only [dstart, dEnd, List.map_cons, List.map_nil, List.length_cons, List.length_nil, Nat.reduceAdd, Nat.reduceSub, Nat.zero_add, List.replicate, List.cons_append, List.nil_append]; walk_at "st"))

local macro_rules | `(tactic| walk_at "bt") => `(tactic| first | assumption | (refine bt_mul ?_ ?_ <;> walk_at "bt") | (refine bt_sub ?_ ?_ <;> walk_at "bt") | (refine bt_add ?_ ?_ <;> walk_at "bt") | (refine bt_neg ?_ <;> walk_at "bt") | (refine bt_abs ?_ <;> walk_at "bt") | exact bt_lit 64 (by decide +kernel))
local macro_rules | `(tactic| walk_at "cm") => `(tactic| ((refine And.intro ?_ ?_); (focus ((apply cm_ok) <;> first | decide | walk_at "bt"))))
local macro_rules | `(tactic| walk_at "sm") => `(tactic| repeat (first | walk_at "st1" | ((with_reducible apply r_idxT); exact rfl) | ((with_reducible apply r_idxL); exact rfl) | dsimp only | walk_at "cm"))

/-! ### specs of the law's side -/
def s2 (a b c : Int) : Int := if b = 0 ∨ c = 0 then sg a else if a = 0 ∨ decide (0 < a) = decide (0 < b) then sg b else sg a * sg (a * a - b * b * c)
def s3 (a b c d e : Int) : Int :=
  if s2 a b c = 0 ∨ (if 0 < e then sg d else 0) = 0 ∨ s2 a b c = (if 0 < e then sg d else 0) then (if s2 a b c ≠ 0 then s2 a b c else (if 0 < e then sg d else 0))
  else s2 a b c * s2 (a * a + b * b * c - d * d * e) (2 * a * b) c
structure Su where
  a : Int
  b : Int
  c : Int
  d : Int
def so (x y : Su) : Int := s3 (x.a * y.d - y.a * x.d) (x.b * y.d) x.c (-y.b * x.d) y.c
def NonSq (c : Int) : Prop := ∀ s : Int, s * s ≠ c
structure SuOk (ka kb : Nat) (x : Su) : Prop where
  a : Bt ka x.a
  b : Bt kb x.b
  d : Bt kb x.d
  d0 : 0 < x.d
  c0 : 0 ≤ x.c ∧ x.c ≤ 19
  or : (x.b = 0 ∧ x.c = 0) ∨ (x.b ≠ 0 ∧ 0 < x.c ∧ NonSq x.c)
def suD (x : Su) : D := .tup [.int x.a, .int x.b, .int x.c, .int x.d]
def frD (n m : Int) : D := .tup [.int n, .int m]
def sp_law_common : DSp := fun ds M Q _ => ∃ (a b : Int), ds = [.int a, .int b] ∧ Bt 8000 a ∧ Bt 8000 b ∧ Q (.int (Int.gcd a b : Int)) M
def sp_law_ratio : DSp := fun ds M Q _ => ∃ (p q : Int), ds = [.int p, .int q] ∧ 0 < q ∧ Bt 8000 p ∧ Bt 8000 q ∧ ∀ g n m, 0 < g → p = g * n → q = g * m → Q (frD n m) M
def sp_law_isqrt : DSp := fun ds M Q _ => ∃ (n : Int), ds = [.int n] ∧ 0 ≤ n ∧ Bt 4000 n ∧ ∀ r, 0 ≤ r → r * r ≤ n → (∀ s, 0 ≤ s → s * s ≤ n → s ≤ r) → Q (.int r) M
def sp_law_surd : DSp := fun ds M Q _ => ∃ (a b c d : Int) (ka kb : Nat), ds = [.int a, .int b, .int c, .int d] ∧ Bt ka a ∧ Bt kb b ∧ Bt kb d ∧ kb + 5 ≤ ka ∧ ka ≤ 700 ∧ 0 < d ∧ 0 ≤ c ∧ c ≤ 19 ∧ ∀ x, SuOk (ka + 1) kb x → Q (suD x) M
def sp_law_sign : DSp := fun ds M Q _ => ∃ (n : Int), ds = [.int n] ∧ Q (.int (sg n)) M
def sp_law_sign_two : DSp := fun ds M Q _ => ∃ (a b c : Int), ds = [.int a, .int b, .int c] ∧ Bt 8000 a ∧ Bt 8000 b ∧ Bt 8000 c ∧ Q (.int (s2 a b c)) M
def sp_law_sign_three : DSp := fun ds M Q _ => ∃ (a b c d e : Int), ds = [.int a, .int b, .int c, .int d, .int e] ∧ Bt 1500 a ∧ Bt 1500 b ∧ Bt 64 c ∧ Bt 1500 d ∧ Bt 64 e ∧ Q (.int (s3 a b c d e)) M
def sp_law_surd_order : DSp := fun ds M Q _ => ∃ (x y : Su), ds = [suD x, suD y] ∧ Bt 700 x.a ∧ Bt 700 x.b ∧ Bt 64 x.c ∧ Bt 700 x.d ∧ Bt 700 y.a ∧ Bt 700 y.b ∧ Bt 64 y.c ∧ Bt 700 y.d ∧ Q (.int (so x y)) M
def sp_law_surd_floor : DSp := fun ds M Q _ => ∃ (x : Su) (n : Int), ds = [suD x, .int n] ∧ SuOk 200 90 x ∧ 0 < n ∧ Bt 110 n ∧ ∀ f, Bt 600 f → Q (.int f) M
def rowL (x : Su) : List Int := [x.a * x.a - x.b * x.b * x.c, -2 * x.a * x.d, x.d * x.d]
inductive Key (x : Su) : List Int → Int → Prop
  | lin (h : x.b = 0) : Key x [-x.a, x.d] 1
  | quad (h : x.b ≠ 0) (g : Int) (ms : List Int) (hg : 0 < g) (e : rowL x = ms.map (g * ·)) : Key x ms (if 0 < x.b then 2 else 1)
def sp_law_surd_key : DSp := fun ds M Q _ => ∃ (x : Su), ds = [suD x] ∧ SuOk 200 90 x ∧ ∀ ms i, Key x ms i → B4 ms → Q (.tup [.tup (iD ms), .int i]) M
def sp_law_surd_shift : DSp := fun ds M Q _ => ∃ (x : Su) (q : Int), ds = [suD x, .int 1, .int q] ∧ SuOk 112 4 x ∧ 0 < q ∧ Bt 84 q ∧ ∀ y, SuOk 200 90 y → Q (suD y) M
def sp_law_wide : DSp := fun ds M Q _ => ∃ a o k, ∃ (small great : Int), ds = [.ref a, .int small, .int great] ∧ M a = some o ∧ Src (k + 2) o ∧ 0 < small ∧ small ≤ great ∧ great < 2 ^ 105 ∧ ∀ v o', Bt 106 v → Src k o' → Q (.int v) (mset M a o')
def sp_law_drawn_surd : DSp := fun ds M Q _ => ∃ a o k, ∃ (roots great : Int), ds = [.ref a, .int roots, .int great] ∧ M a = some o ∧ Src (k + 6) o ∧ 9 ≤ great ∧ great < 2 ^ 105 ∧ ∀ x o', SuOk 112 4 x → Src k o' → Q (suD x) (mset M a o')
def FrOk (q : D) : Prop := ∃ n m, q = frD n m ∧ 0 < m ∧ Bt 700 n ∧ Bt 700 m
def sp_law_k64_fractions : DSp := fun ds M Q _ => ∃ a o k, ∃ (x y : Su), ds = [.ref a, suD x, suD y] ∧ M a = some o ∧ Src (k + 20) o ∧ SuOk 200 90 x ∧ SuOk 200 90 y ∧ ∀ qs o', (∀ q ∈ qs, FrOk q) → Src k o' → Q (.lst qs) (mset M a o')
def qSu (n m : Int) : Su := ⟨n, 0, 0, m⟩
def dueV (x y : Su) (n m : Int) : D := if 0 ≤ so x (qSu n m) then .str lowW else if 0 ≤ so (qSu n m) y then .str highW else .non
def sp_law_k64_due : DSp := fun ds M Q _ => ∃ (x y : Su) (n m : Int), ds = [suD x, suD y, frD n m] ∧ SuOk 200 90 x ∧ SuOk 200 90 y ∧ Bt 700 n ∧ Bt 700 m ∧ Q (dueV x y n m) M
def sp_law_k64_cube : DSp := fun ds M Q _ => ∃ a o k, ds = [.ref a] ∧ M a = some o ∧ Src (k + 10) o ∧ ∀ o', Src k o' → Q (.bl true) (mset M a o')
def sp_law : DSp := fun ds M Q _ => ∃ ns, ds = [.src ns] ∧ Q (.bl true) M
def t_law_common : DTS := (dSq (dWhile (dTest (dOp dNe (dVar 1) (dC (.int 0)))) (dSq (dAs (dOp dSub (dVar 0) (dOp (dMul false) (dOp dFdiv (dVar 0) (dVar 1)) (dVar 1))) (dgN 2)) (dSq (dAs (dVar 1) (dgN 0)) (dAs (dVar 2) (dgN 1))))) (dRt (dCB dAbs (dCons (dVar 0) dNil))))
def t_law_ratio : DTS := (dSq (dAs (dCall sp_law_common [] dX0 (dCons (dVar 0) (dCons (dVar 1) dNil))) (dgN 2)) (dSq (dIfS (dTest (dOp dLt (dVar 1) (dC (.int 0)))) (dAs (dUn dNeg (dVar 2)) (dgN 2)) dNx) (dRt (dTup (dCons (dOp dFdiv (dVar 0) (dVar 2)) (dCons (dOp dFdiv (dVar 1) (dVar 2)) dNil))))))
def t_law_isqrt : DTS := (dSq (dIfS (dTest (dOp dLt (dVar 0) (dC (.int 2)))) (dRt (dVar 0)) dNx) (dSq (dAs (dOp dShl (dC (.int 1)) (dOp dFdiv (dOp (dAdd false) (dBits (dVar 0)) (dC (.int 1))) (dC (.int 2)))) (dgN 1)) (dSq (dAs (dOp dFdiv (dOp (dAdd false) (dVar 1) (dOp dFdiv (dVar 0) (dVar 1))) (dC (.int 2))) (dgN 2)) (dSq (dWhile (dTest (dOp dLt (dVar 2) (dVar 1))) (dSq (dAs (dVar 2) (dgN 1)) (dAs (dOp dFdiv (dOp (dAdd false) (dVar 1) (dOp dFdiv (dVar 0) (dVar 1))) (dC (.int 2))) (dgN 2)))) (dRt (dVar 1))))))
def t_law_surd : DTS := (dSq (dAs (dCall sp_law_isqrt [] dX0 (dCons (dVar 2) dNil)) (dgN 4)) (dSq (dIfS (dTest (dOp dEq (dOp (dMul false) (dVar 4) (dVar 4)) (dVar 2))) (dSq (dAs (dOp (dAdd false) (dVar 0) (dOp (dMul false) (dVar 1) (dVar 4))) (dgN 0)) (dAs (dC (.int 0)) (dgN 1))) dNx) (dSq (dIfS (dTest (dOp dEq (dVar 1) (dC (.int 0)))) (dAs (dC (.int 0)) (dgN 2)) dNx) (dSq (dAs (dCall sp_law_common [] dX0 (dCons (dCall sp_law_common [] dX0 (dCons (dVar 0) (dCons (dVar 1) dNil))) (dCons (dVar 3) dNil))) (dgN 5)) (dSq (dIfS (dTest (dOp dLt (dVar 3) (dC (.int 0)))) (dAs (dUn dNeg (dVar 5)) (dgN 5)) dNx) (dRt (dTup (dCons (dOp dFdiv (dVar 0) (dVar 5)) (dCons (dOp dFdiv (dVar 1) (dVar 5)) (dCons (dVar 2) (dCons (dOp dFdiv (dVar 3) (dVar 5)) dNil)))))))))))
def t_law_sign : DTS := (dRt (dIf (dTest (dOp dGt (dVar 0) (dC (.int 0)))) (dC (.int 1)) (dIf (dTest (dOp dLt (dVar 0) (dC (.int 0)))) (dUn dNeg (dC (.int 1))) (dC (.int 0)))))
def t_law_sign_two : DTS := (dSq (dIfS (dOr (dTest (dOp dEq (dVar 1) (dC (.int 0)))) (dTest (dOp dEq (dVar 2) (dC (.int 0))))) (dRt (dCall sp_law_sign [] dX0 (dCons (dVar 0) dNil))) dNx) (dSq (dIfS (dOr (dTest (dOp dEq (dVar 0) (dC (.int 0)))) (dTest (dOp dEq (dOp dGt (dVar 0) (dC (.int 0))) (dOp dGt (dVar 1) (dC (.int 0)))))) (dRt (dCall sp_law_sign [] dX0 (dCons (dVar 1) dNil))) dNx) (dRt (dOp (dMul false) (dCall sp_law_sign [] dX0 (dCons (dVar 0) dNil)) (dCall sp_law_sign [] dX0 (dCons (dOp dSub (dOp (dMul false) (dVar 0) (dVar 0)) (dOp (dMul false) (dOp (dMul false) (dVar 1) (dVar 1)) (dVar 2))) dNil))))))
def t_law_sign_three : DTS := (dSq (dAs (dCall sp_law_sign_two [] dX0 (dCons (dVar 0) (dCons (dVar 1) (dCons (dVar 2) dNil)))) (dgN 5)) (dSq (dAs (dIf (dTest (dOp dGt (dVar 4) (dC (.int 0)))) (dCall sp_law_sign [] dX0 (dCons (dVar 3) dNil)) (dC (.int 0))) (dgN 6)) (dSq (dIfS (dOr (dTest (dOp dEq (dVar 5) (dC (.int 0)))) (dOr (dTest (dOp dEq (dVar 6) (dC (.int 0)))) (dTest (dOp dEq (dVar 5) (dVar 6))))) (dRt (dIf (dTest (dOp dNe (dVar 5) (dC (.int 0)))) (dVar 5) (dVar 6))) dNx) (dRt (dOp (dMul false) (dVar 5) (dCall sp_law_sign_two [] dX0 (dCons (dOp dSub (dOp (dAdd false) (dOp (dMul false) (dVar 0) (dVar 0)) (dOp (dMul false) (dOp (dMul false) (dVar 1) (dVar 1)) (dVar 2))) (dOp (dMul false) (dOp (dMul false) (dVar 3) (dVar 3)) (dVar 4))) (dCons (dOp (dMul false) (dOp (dMul false) (dC (.int 2)) (dVar 0)) (dVar 1)) (dCons (dVar 2) dNil)))))))))
def t_law_surd_order : DTS := (dRt (dCall sp_law_sign_three [] dX0 (dCons (dOp dSub (dOp (dMul false) (dOp dIdx (dVar 0) (dC (.int 0))) (dOp dIdx (dVar 1) (dC (.int 3)))) (dOp (dMul false) (dOp dIdx (dVar 1) (dC (.int 0))) (dOp dIdx (dVar 0) (dC (.int 3))))) (dCons (dOp (dMul false) (dOp dIdx (dVar 0) (dC (.int 1))) (dOp dIdx (dVar 1) (dC (.int 3)))) (dCons (dOp dIdx (dVar 0) (dC (.int 2))) (dCons (dOp (dMul false) (dUn dNeg (dOp dIdx (dVar 1) (dC (.int 1)))) (dOp dIdx (dVar 0) (dC (.int 3)))) (dCons (dOp dIdx (dVar 1) (dC (.int 2))) dNil)))))))
def t_law_surd_floor : DTS := (dSq (dIfS (dTest (dOp dEq (dOp dIdx (dVar 0) (dC (.int 1))) (dC (.int 0)))) (dRt (dOp dFdiv (dOp (dMul false) (dOp dIdx (dVar 0) (dC (.int 0))) (dVar 1)) (dOp dIdx (dVar 0) (dC (.int 3))))) dNx) (dSq (dAs (dCall sp_law_isqrt [] dX0 (dCons (dOp (dMul false) (dOp (dMul false) (dOp (dMul false) (dOp (dMul false) (dOp dIdx (dVar 0) (dC (.int 1))) (dOp dIdx (dVar 0) (dC (.int 1)))) (dOp dIdx (dVar 0) (dC (.int 2)))) (dVar 1)) (dVar 1)) dNil)) (dgN 2)) (dRt (dIf (dTest (dOp dGt (dOp dIdx (dVar 0) (dC (.int 1))) (dC (.int 0)))) (dOp dFdiv (dOp (dAdd false) (dOp (dMul false) (dOp dIdx (dVar 0) (dC (.int 0))) (dVar 1)) (dVar 2)) (dOp dIdx (dVar 0) (dC (.int 3)))) (dOp dFdiv (dOp dSub (dOp dSub (dOp (dMul false) (dOp dIdx (dVar 0) (dC (.int 0))) (dVar 1)) (dVar 2)) (dC (.int 1))) (dOp dIdx (dVar 0) (dC (.int 3))))))))
def t_law_surd_key : DTS := (dSq (dIfS (dTest (dOp dEq (dOp dIdx (dVar 0) (dC (.int 1))) (dC (.int 0)))) (dRt (dTup (dCons (dTup (dCons (dUn dNeg (dOp dIdx (dVar 0) (dC (.int 0)))) (dCons (dOp dIdx (dVar 0) (dC (.int 3))) dNil))) (dCons (dC (.int 1)) dNil)))) dNx) (dSq (dAs (dLst false (dCons (dOp dSub (dOp (dMul false) (dOp dIdx (dVar 0) (dC (.int 0))) (dOp dIdx (dVar 0) (dC (.int 0)))) (dOp (dMul false) (dOp (dMul false) (dOp dIdx (dVar 0) (dC (.int 1))) (dOp dIdx (dVar 0) (dC (.int 1)))) (dOp dIdx (dVar 0) (dC (.int 2))))) (dCons (dOp (dMul false) (dOp (dMul false) (dUn dNeg (dC (.int 2))) (dOp dIdx (dVar 0) (dC (.int 0)))) (dOp dIdx (dVar 0) (dC (.int 3)))) (dCons (dOp (dMul false) (dOp dIdx (dVar 0) (dC (.int 3))) (dOp dIdx (dVar 0) (dC (.int 3)))) dNil)))) (dgN 1)) (dSq (dAs (dCall sp_law_common [] dX0 (dCons (dCall sp_law_common [] dX0 (dCons (dOp dIdx (dVar 1) (dC (.int 0))) (dCons (dOp dIdx (dVar 1) (dC (.int 1))) dNil))) (dCons (dOp dIdx (dVar 1) (dC (.int 2))) dNil))) (dgN 2)) (dRt (dTup (dCons (dCB dTupOf (dCons (dLc false (diSeq (dVar 1)) (dgN 3) dYes (dOp dFdiv (dVar 3) (dVar 2)) [3]) dNil)) (dCons (dIf (dTest (dOp dGt (dOp dIdx (dVar 0) (dC (.int 1))) (dC (.int 0)))) (dC (.int 2)) (dC (.int 1))) dNil)))))))
def t_law_surd_shift : DTS := (dRt (dCall sp_law_surd [] dX0 (dCons (dOp (dAdd false) (dOp (dMul false) (dOp dIdx (dVar 0) (dC (.int 0))) (dVar 2)) (dOp (dMul false) (dVar 1) (dOp dIdx (dVar 0) (dC (.int 3))))) (dCons (dOp (dMul false) (dOp dIdx (dVar 0) (dC (.int 1))) (dVar 2)) (dCons (dOp dIdx (dVar 0) (dC (.int 2))) (dCons (dOp (dMul false) (dOp dIdx (dVar 0) (dC (.int 3))) (dVar 2)) dNil))))))
def t_law_wide : DTS := (dSq (dIfS (dTest (dOp dEq (dCall sp_law_pick [] dX0 (dCons (dVar 0) (dCons (dC (.int 8)) dNil))) (dC (.int 0)))) (dRt (dOp dSub (dCall sp_law_pick [] dX0 (dCons (dVar 0) (dCons (dOp (dAdd false) (dOp (dMul false) (dC (.int 2)) (dVar 2)) (dC (.int 1))) dNil))) (dVar 2))) dNx) (dRt (dOp dSub (dCall sp_law_pick [] dX0 (dCons (dVar 0) (dCons (dOp (dAdd false) (dOp (dMul false) (dC (.int 2)) (dVar 1)) (dC (.int 1))) dNil))) (dVar 1))))
def t_law_drawn_surd : DTS := (dSq (dAs (dOp (dAdd false) (dC (.int 1)) (dCall sp_law_pick [] dX0 (dCons (dVar 0) (dCons (dC (.int 6)) dNil)))) (dgN 3)) (dSq (dAs (dCall sp_law_wide [] dX0 (dCons (dVar 0) (dCons (dC (.int 9)) (dCons (dVar 2) dNil)))) (dgN 4)) (dSq (dAs (dIf (dTest (dOp dLt (dCall sp_law_pick [] dX0 (dCons (dVar 0) (dCons (dC (.int 4)) dNil))) (dVar 1))) (dC (.int 0)) (dOp dIdx (dLst false (dCons (dC (.int 1)) (dCons (dUn dNeg (dC (.int 1))) (dCons (dC (.int 2)) (dCons (dUn dNeg (dC (.int 3))) (dCons (dC (.int 5)) dNil)))))) (dCall sp_law_pick [] dX0 (dCons (dVar 0) (dCons (dC (.int 5)) dNil))))) (dgN 5)) (dRt (dCall sp_law_surd [] dX0 (dCons (dVar 4) (dCons (dVar 5) (dCons (dOp (dAdd false) (dC (.int 2)) (dCall sp_law_pick [] dX0 (dCons (dVar 0) (dCons (dC (.int 18)) dNil)))) (dCons (dVar 3) dNil)))))))))
def t_law_k64_fractions : DTS := (dSq (dAs (dLst true (dCons (dCall sp_law_ratio [] dX0 (dCons (dCall sp_law_wide [] dX0 (dCons (dVar 0) (dCons (dC (.int 20)) (dCons (dOp dPow (dC (.int 10)) (dC (.int 30))) dNil)))) (dCons (dOp (dAdd false) (dC (.int 1)) (dCall sp_law_pick [] dX0 (dCons (dVar 0) (dCons (dC (.int 9)) dNil)))) dNil))) dNil)) (dgN 3)) (dSq (dFor (diSeq (dTup (dCons (dVar 1) (dCons (dVar 2) dNil)))) (dgN 4) (dSq (dAs (dCall sp_law_one [] dX0 (dCons (dVar 0) (dCons (dLst false (dCons (dC (.int 1)) (dCons (dC (.int 2)) (dCons (dC (.int 10)) (dCons (dOp dPow (dC (.int 10)) (dC (.int 6))) (dCons (dOp dPow (dC (.int 10)) (dC (.int 30))) dNil)))))) dNil))) (dgN 5)) (dSq (dAs (dCall sp_law_surd_floor [] dX0 (dCons (dVar 4) (dCons (dVar 5) dNil))) (dgN 6)) (dSq (dEx (dBM "list" dAppend (dVar 3) (dCons (dCall sp_law_ratio [] dX0 (dCons (dVar 6) (dCons (dVar 5) dNil))) dNil))) (dSq (dEx (dBM "list" dAppend (dVar 3) (dCons (dCall sp_law_ratio [] dX0 (dCons (dOp (dAdd false) (dVar 6) (dC (.int 1))) (dCons (dVar 5) dNil))) dNil))) (dIfS (dTest (dOp dEq (dOp dIdx (dVar 4) (dC (.int 1))) (dC (.int 0)))) (dSq (dEx (dBM "list" dAppend (dVar 3) (dCons (dCall sp_law_ratio [] dX0 (dCons (dOp dIdx (dVar 4) (dC (.int 0))) (dCons (dOp dIdx (dVar 4) (dC (.int 3))) dNil))) dNil))) (dEx (dBM "list" dAppend (dVar 3) (dCons (dCall sp_law_ratio [] dX0 (dCons (dOp dSub (dOp (dAdd false) (dOp (dMul false) (dOp dIdx (dVar 4) (dC (.int 0))) (dOp dPow (dC (.int 10)) (dC (.int 30)))) (dC (.int 1))) (dOp (dMul false) (dC (.int 2)) (dCall sp_law_pick [] dX0 (dCons (dVar 0) (dCons (dC (.int 2)) dNil))))) (dCons (dOp (dMul false) (dOp dIdx (dVar 4) (dC (.int 3))) (dOp dPow (dC (.int 10)) (dC (.int 30)))) dNil))) dNil)))) dNx)))))) (dRt (dVar 3))))
def t_law_k64_due : DTS := (dSq (dAs (dTup (dCons (dOp dIdx (dVar 2) (dC (.int 0))) (dCons (dC (.int 0)) (dCons (dC (.int 0)) (dCons (dOp dIdx (dVar 2) (dC (.int 1))) dNil))))) (dgN 3)) (dSq (dIfS (dTest (dOp dGe (dCall sp_law_surd_order [] dX0 (dCons (dVar 0) (dCons (dVar 3) dNil))) (dC (.int 0)))) (dRt (dC (.str [108, 111, 119]))) dNx) (dRt (dIf (dTest (dOp dGe (dCall sp_law_surd_order [] dX0 (dCons (dVar 3) (dCons (dVar 1) dNil))) (dC (.int 0)))) (dC (.str [104, 105, 103, 104])) (dC .non)))))
def t_law_k64_cube : DTS := (dSq (dAs (dCall sp_law_one [] dX0 (dCons (dVar 0) (dCons (dLst false (dCons (dC (.int 2)) (dCons (dC (.int 3)) (dCons (dC (.int 5)) (dCons (dC (.int 6)) (dCons (dC (.int 7)) (dCons (dC (.int 9)) (dCons (dC (.int 10)) dNil)))))))) dNil))) (dgN 1)) (dSq (dAs (dTup (dCons (dTup (dCons (dOp dSub (dC (.int 0)) (dVar 1)) (dCons (dC (.int 0)) (dCons (dC (.int 0)) (dCons (dC (.int 1)) dNil))))) (dCons (dC (.int 1)) dNil))) (dgN 2)) (dSq (dAs (dTup (dCons (dTup (dCons (dOp dSub (dC (.int 0)) (dVar 1)) (dCons (dC (.int 1)) dNil))) (dCons (dC (.int 1)) dNil))) (dgN 3)) (dSq (dFor (diR1 (dCons (dC (.int 3)) dNil)) (dgN 4) (dSq (dAs (dCall sp_law_ratio [] dX0 (dCons (dCall sp_law_pick [] dX0 (dCons (dVar 0) (dCons (dC (.int 4000)) dNil))) (dCons (dOp (dAdd false) (dC (.int 1)) (dCall sp_law_pick [] dX0 (dCons (dVar 0) (dCons (dC (.int 1000)) dNil)))) dNil))) (dgN 5)) (dSq (dAs (dOp dLt (dOp (dMul false) (dOp (dMul false) (dOp dIdx (dVar 5) (dC (.int 0))) (dOp dIdx (dVar 5) (dC (.int 0)))) (dOp dIdx (dVar 5) (dC (.int 0)))) (dOp (dMul false) (dOp (dMul false) (dOp (dMul false) (dVar 1) (dOp dIdx (dVar 5) (dC (.int 1)))) (dOp dIdx (dVar 5) (dC (.int 1)))) (dOp dIdx (dVar 5) (dC (.int 1))))) (dgN 6)) (dSq (dAs (dIf (dTru (dVar 6)) (dC (.str [108, 111, 119])) (dIf (dTest (dOp dGe (dOp dIdx (dVar 5) (dC (.int 0))) (dOp (dMul false) (dVar 1) (dOp dIdx (dVar 5) (dC (.int 1)))))) (dC (.str [104, 105, 103, 104])) (dC .non))) (dgN 7)) (dSq (dIfS (dNot (dTru (dCall sp_law_same [] dX0 (dCons (dCall sp_judge_order [] dX0 (dCons (dVar 2) (dCons (dVar 3) (dCons (dVar 5) dNil)))) (dCons (dVar 7) dNil))))) (dRt (dC (.bl false))) dNx) (dSq (dAs (dIf (dTest (dOp dLe (dOp dIdx (dVar 5) (dC (.int 0))) (dC (.int 0)))) (dC (.str [108, 111, 119])) (dIf (dTru (dVar 6)) (dC .non) (dC (.str [104, 105, 103, 104])))) (dgN 8)) (dIfS (dNot (dTru (dCall sp_law_same [] dX0 (dCons (dCall sp_judge_order [] dX0 (dCons (dTup (dCons (dTup (dCons (dC (.int 0)) (dCons (dC (.int 1)) dNil))) (dCons (dC (.int 1)) dNil))) (dCons (dVar 2) (dCons (dVar 5) dNil)))) (dCons (dVar 8) dNil))))) (dRt (dC (.bl false))) dNx))))))) (dRt (dC (.bl true)))))))
def t_law : DTS := (dSq (dAs (dCall sp_law_source [] dX0 (dCons (dVar 0) (dCons (dC (.int 0)) dNil))) (dgN 1)) (dSq (dAs (dCall sp_law_drawn_surd [] dX0 (dCons (dVar 1) (dCons (dC (.int 2)) (dCons (dOp dPow (dC (.int 10)) (dC (.int 30))) dNil)))) (dgN 2)) (dSq (dAs (dCall sp_law_pick [] dX0 (dCons (dVar 1) (dCons (dC (.int 4)) dNil))) (dgN 3)) (dSq (dAs (dIf (dTest (dOp dEq (dVar 3) (dC (.int 0)))) (dCall sp_law_surd_shift [] dX0 (dCons (dVar 2) (dCons (dC (.int 1)) (dCons (dCall sp_law_one [] dX0 (dCons (dVar 1) (dCons (dLst false (dCons (dC (.int 1)) (dCons (dC (.int 3)) (dCons (dOp dPow (dC (.int 10)) (dC (.int 9))) (dCons (dOp dPow (dC (.int 10)) (dC (.int 25))) dNil))))) dNil))) dNil)))) (dIf (dTest (dOp dEq (dVar 3) (dC (.int 1)))) (dVar 2) (dCall sp_law_drawn_surd [] dX0 (dCons (dVar 1) (dCons (dC (.int 1)) (dCons (dOp dPow (dC (.int 10)) (dC (.int 30))) dNil)))))) (dgN 4)) (dSq (dIfS (dAnd (dTest (dOp dLt (dCall sp_law_surd_order [] dX0 (dCons (dVar 4) (dCons (dVar 2) dNil))) (dC (.int 0)))) (dTest (dOp dGt (dCall sp_law_pick [] dX0 (dCons (dVar 1) (dCons (dC (.int 3)) dNil))) (dC (.int 0))))) (dPar 2 4 (dCons (dVar 4) (dCons (dVar 2) dNil))) dNx) (dSq (dAs (dCall sp_law_surd_key [] dX0 (dCons (dVar 2) dNil)) (dgN 5)) (dSq (dAs (dCall sp_law_surd_key [] dX0 (dCons (dVar 4) dNil)) (dgN 6)) (dSq (dFor (diSeq (dCall sp_law_k64_fractions [] dX0 (dCons (dVar 1) (dCons (dVar 2) (dCons (dVar 4) dNil))))) (dgN 7) (dIfS (dOr (dNot (dTru (dCall sp_law_same [] dX0 (dCons (dCall sp_judge_order [] dX0 (dCons (dVar 5) (dCons (dVar 6) (dCons (dVar 7) dNil)))) (dCons (dCall sp_law_k64_due [] dX0 (dCons (dVar 2) (dCons (dVar 4) (dCons (dVar 7) dNil)))) dNil))))) (dNot (dTru (dCall sp_law_same [] dX0 (dCons (dCall sp_judge_order [] dX0 (dCons (dVar 6) (dCons (dVar 5) (dCons (dVar 7) dNil)))) (dCons (dCall sp_law_k64_due [] dX0 (dCons (dVar 4) (dCons (dVar 2) (dCons (dVar 7) dNil)))) dNil)))))) (dRt (dC (.bl false))) dNx)) (dRt (dCall sp_law_k64_cube [] dX0 (dCons (dCall sp_law_source [] dX0 (dCons (dVar 0) (dCons (dC (.int 1)) dNil))) dNil)))))))))))
theorem sem_law_common (ds : List D) (M : Mu) (Q : DK) (E : DXK) (h : sp_law_common ds M Q E) : t_law_common (dEnd Q) (dstart 3 ds) M := by
  obtain ⟨a, b, rfl, ha, hb, h⟩ := h
  unfold t_law_common
  walk_at "go"
  refine r_while (fun k δ M' => ∃ (x y : Int) (s2 : Option D), k = y.natAbs ∧ Int.gcd x y = Int.gcd a b ∧ Bt 8000 x ∧ Bt 8000 y ∧ M' = M ∧ δ = [some (.int x), some (.int y), s2]) _ ⟨a, b, none, rfl, rfl, ha, hb, rfl, rfl⟩ ?_
  rintro k δ M' ⟨x, y, s2, rfl, e, hx, hy, rfl, rfl⟩
  walk_at "st"
  refine ⟨fun z => ?_, fun z => ?_⟩
  · have hy0 : y ≠ 0 := by simpa using z
    walk_at "st"
    refine ⟨cd_ok hy0 hy (by decide), ?_⟩
    walk_at "st"
    refine ⟨cm_ok (bt_fdiv hx) hy (by decide), ?_⟩
    walk_at "st"
    have e2 : x - x.fdiv y * y = x.fmod y := by
      have := Int.fmod_add_mul_fdiv x y
      have e3 : x.fdiv y * y = y * x.fdiv y := Int.mul_comm _ _
      omega
    rw [e2]
    exact ⟨_, fmod_lt hy0, y, x.fmod y, some (.int (x.fmod y)), rfl, (gcd_step x y).trans e, hy, Nat.lt_trans (fmod_lt hy0) hy, by simp⟩
  · have hy0 : y = 0 := by simpa using z
    subst hy0
    walk_at "st"
    rw [Int.gcd_zero_right] at e
    rw [← e] at h
    exact Wq.now h
theorem gcd_bt {a b : Int} {k : Nat} (h : Bt k b) (hb : b ≠ 0) : Bt k (Int.gcd a b : Int) := by
  have h1 : (Int.gcd a b : Int).natAbs ∣ b.natAbs := Int.natAbs_dvd_natAbs.mpr (Int.gcd_dvd_right ..)
  exact Nat.lt_of_le_of_lt (Nat.le_of_dvd (by omega) h1) h
theorem gcd_pos {a b : Int} (hb : b ≠ 0) : 0 < (Int.gcd a b : Int) := by
  have : 0 < Int.gcd a b := Int.gcd_pos_iff.mpr (.inr hb)
  omega
theorem sem_law_ratio (ds : List D) (M : Mu) (Q : DK) (E : DXK) (h : sp_law_ratio ds M Q E) : t_law_ratio (dEnd Q) (dstart 3 ds) M := by
  obtain ⟨p, q, rfl, hq, hpb, hqb, h⟩ := h
  have hg := gcd_pos (a := p) (b := q) (by omega)
  have hgb := gcd_bt (a := p) hqb (by omega)
  unfold t_law_ratio
  walk_at "go"
  refine ⟨p, q, rfl, hpb, hqb, ?_⟩
  walk_at "st"
  refine r_if ?_
  walk_at "st"
  refine ⟨fun z => absurd (of_decide_eq_true z) (by omega), fun _ => ?_⟩
  walk_at "st"
  refine ⟨cd_ok (by omega) hgb (by decide), ?_⟩
  walk_at "st"
  refine ⟨cd_ok (by omega) hgb (by decide), ?_⟩
  walk_at "st"
  obtain ⟨u, hu⟩ : (Int.gcd p q : Int) ∣ p := Int.gcd_dvd_left ..
  obtain ⟨v, hv⟩ : (Int.gcd p q : Int) ∣ q := Int.gcd_dvd_right ..
  generalize (Int.gcd p q : Int) = G at *
  subst hu hv
  rw [Int.mul_fdiv_cancel_left _ (by omega), Int.mul_fdiv_cancel_left _ (by omega)]
  exact Wq.now (h G u v hg rfl rfl)
theorem sg_eq (x : Int) : sg x = if 0 < x then 1 else if x < 0 then -1 else 0 := by
  unfold sg b2I
  by_cases h : 0 < x
  · rw [decide_eq_true h, decide_eq_false (by omega), if_pos h]; rfl
  · rw [decide_eq_false h, if_neg h]
    by_cases h2 : x < 0
    · rw [decide_eq_true h2, if_pos h2]; rfl
    · rw [decide_eq_false h2, if_neg h2]; rfl
theorem sem_law_sign (ds : List D) (M : Mu) (Q : DK) (E : DXK) (h : sp_law_sign ds M Q E) : t_law_sign (dEnd Q) (dstart 1 ds) M := by
  obtain ⟨n, rfl, h⟩ := h
  rw [sg_eq] at h
  unfold t_law_sign
  walk_at "go"
  refine r_dif ?_
  walk_at "st"
  refine ⟨fun z => ?_, fun z => ?_⟩
  · rw [if_pos (of_decide_eq_true z)] at h
    walk_at "st"
    exact Wq.now h
  · rw [if_neg (of_decide_eq_false z)] at h
    refine r_dif ?_
    walk_at "st"
    refine ⟨fun z => ?_, fun z => ?_⟩
    · rw [if_pos (of_decide_eq_true z)] at h
      walk_at "st"
      exact Wq.now h
    · rw [if_neg (of_decide_eq_false z)] at h
      walk_at "st"
      exact Wq.now h
theorem sg_bt (x : Int) : Bt 1 (sg x) := by
  rw [sg_eq]
  split
  · exact bt_lit 1 (by decide)
  · split <;> exact bt_lit 1 (by decide)
theorem sem_law_sign_two (ds : List D) (M : Mu) (Q : DK) (E : DXK) (h : sp_law_sign_two ds M Q E) : t_law_sign_two (dEnd Q) (dstart 3 ds) M := by
  obtain ⟨a, b, c, rfl, ha, hb, hc, h⟩ := h
  unfold t_law_sign_two
  unfold s2 at h
  walk_at "go"
  refine r_if (r_or ?_)
  walk_at "st"
  refine ⟨fun z => ?_, fun z => ?_⟩
  · rw [if_pos (.inl (of_decide_eq_true z))] at h
    refine ⟨fun _ => ?_, fun z => Bool.noConfusion z⟩
    walk_at "st"
    exact ⟨a, rfl, Wq.now h⟩
  have zb := of_decide_eq_false z
  walk_at "st"
  refine ⟨fun z => ?_, fun z => ?_⟩
  · rw [if_pos (.inr (of_decide_eq_true z))] at h
    walk_at "st"
    exact ⟨a, rfl, Wq.now h⟩
  have zc := of_decide_eq_false z
  rw [if_neg (by rintro (h | h); exact zb h; exact zc h)] at h
  walk_at "st"
  refine r_if (r_or ?_)
  walk_at "st"
  refine ⟨fun z => ?_, fun z => ?_⟩
  · rw [if_pos (.inl (of_decide_eq_true z))] at h
    refine ⟨fun _ => ?_, fun z => Bool.noConfusion z⟩
    walk_at "st"
    exact ⟨b, rfl, Wq.now h⟩
  have za := of_decide_eq_false z
  walk_at "st"
  refine ⟨fun z => ?_, fun z => ?_⟩
  · rw [if_pos (.inr (of_decide_eq_true z))] at h
    walk_at "st"
    exact ⟨b, rfl, Wq.now h⟩
  have zs := of_decide_eq_false z
  rw [if_neg (by rintro (h | h); exact za h; exact zs h)] at h
  walk_at "st"
  refine ⟨a, rfl, ?_⟩
  walk_at "st"
  refine ⟨cm_ok ha ha (by decide), ?_⟩
  walk_at "st"
  refine ⟨cm_ok hb hb (by decide), ?_⟩
  walk_at "st"
  refine ⟨cm_ok (bt_mul hb hb) hc (by decide), ?_⟩
  walk_at "st"
  refine ⟨_, rfl, ?_⟩
  walk_at "st"
  exact ⟨cm_ok (sg_bt _) (sg_bt _) (by decide), Wq.now h⟩
theorem s2_bt (a b c : Int) : Bt 2 (s2 a b c) := by
  unfold s2
  split
  · exact bt_up (sg_bt _) (by decide)
  · split
    · exact bt_up (sg_bt _) (by decide)
    · exact bt_mul (sg_bt _) (sg_bt _)
theorem sem_law_sign_three (ds : List D) (M : Mu) (Q : DK) (E : DXK) (h : sp_law_sign_three ds M Q E) : t_law_sign_three (dEnd Q) (dstart 7 ds) M := by
  obtain ⟨a, b, c, d, e, rfl, ha, hb, hc, hd, he, h⟩ := h
  unfold t_law_sign_three
  unfold s3 at h
  walk_at "go"
  refine ⟨a, b, c, rfl, bt_up ha (by decide), bt_up hb (by decide), bt_up hc (by decide), ?_⟩
  walk_at "st"
  obtain ⟨f, hf⟩ : ∃ f, f = s2 a b c := ⟨_, rfl⟩
  obtain ⟨l, hl⟩ : ∃ l : Int, l = if 0 < e then sg d else 0 := ⟨_, rfl⟩
  rw [← hf, ← hl] at h
  rw [← hf]
  refine via (P := fun d' M' => d' = .int l ∧ M = M') (fun Q' hQ' => ?_) ?_
  · refine r_dif ?_
    walk_at "st"
    refine ⟨fun z => ?_, fun z => ?_⟩
    · rw [if_pos (of_decide_eq_true z)] at hl
      walk_at "st"
      exact ⟨d, rfl, hQ' _ _ ⟨by rw [hl], rfl⟩⟩
    · rw [if_neg (of_decide_eq_false z)] at hl
      walk_at "st"
      exact hQ' _ _ ⟨by rw [hl], rfl⟩
  rintro _ _ ⟨rfl, rfl⟩
  walk_at "st"
  have pick : f = 0 ∨ l = 0 ∨ f = l → dRt (dIf (dTest (dOp dNe (dVar 5) (dC (.int 0)))) (dVar 5) (dVar 6)) { nx := fun x M => Wq Q D.non M, rt := Wq Q } [some (.int a), some (.int b), some (.int c), some (.int d), some (.int e), some (.int f), some (.int l)] M := by
    intro hor
    rw [if_pos hor] at h
    walk_at "st"
    refine r_dif ?_
    walk_at "st"
    refine ⟨fun z => ?_, fun z => ?_⟩
    · have z : f ≠ 0 := by simpa using z
      rw [if_pos z] at h
      walk_at "st"
      exact Wq.now h
    · have z : f = 0 := by simpa using z
      rw [if_neg (not_not_intro z)] at h
      walk_at "st"
      exact Wq.now h
  refine r_if (r_or ?_)
  walk_at "st"
  refine ⟨fun z => ⟨fun _ => pick (.inl (of_decide_eq_true z)), fun z => Bool.noConfusion z⟩, fun z => ?_⟩
  have z1 := of_decide_eq_false z
  refine r_or ?_
  walk_at "st"
  refine ⟨fun z => ⟨fun _ => pick (.inr (.inl (of_decide_eq_true z))), fun z => Bool.noConfusion z⟩, fun z => ?_⟩
  have z2 := of_decide_eq_false z
  walk_at "st"
  refine ⟨fun z => pick (.inr (.inr (of_decide_eq_true z))), fun z => ?_⟩
  have z3 := of_decide_eq_false z
  rw [if_neg (by rintro (h | h | h); exact z1 h; exact z2 h; exact z3 h)] at h
  walk_at "st"
  refine ⟨cm_ok ha ha (by decide), ?_⟩
  walk_at "st"
  refine ⟨cm_ok hb hb (by decide), ?_⟩
  walk_at "st"
  refine ⟨cm_ok (bt_mul hb hb) hc (by decide), ?_⟩
  walk_at "st"
  refine ⟨cm_ok hd hd (by decide), ?_⟩
  walk_at "st"
  refine ⟨cm_ok (bt_mul hd hd) he (by decide), ?_⟩
  walk_at "st"
  have b2 : Bt 2 (2 : Int) := bt_lit 2 (by decide)
  refine ⟨cm_ok b2 ha (by decide), ?_⟩
  walk_at "st"
  refine ⟨cm_ok (bt_mul b2 ha) hb (by decide), ?_⟩
  walk_at "st"
  have ad : ∀ {k : Nat} {i j : Int}, Bt k i → Bt k j → Bt (k + 1) (i + j) := fun h1 h2 => by
    unfold Bt at *; rw [Nat.pow_succ]; omega
  have sb : ∀ {k : Nat} {i j : Int}, Bt k i → Bt k j → Bt (k + 1) (i - j) := fun h1 h2 => by
    unfold Bt at *; rw [Nat.pow_succ]; omega
  refine ⟨_, _, c, rfl, ?_, bt_up (bt_mul (bt_mul b2 ha) hb) (by decide), bt_up hc (by decide), ?_⟩
  · refine bt_up (sb (k := 3065) (bt_up (ad (k := 3064) (bt_up (bt_mul ha ha) (by decide)) (bt_up (bt_mul (bt_mul hb hb) hc) (by decide))) (by decide)) (bt_up (bt_mul (bt_mul hd hd) he) (by decide))) (by decide)
  walk_at "st"
  rw [hf]
  refine ⟨cm_ok (s2_bt a b c) (s2_bt _ _ _) (by decide), ?_⟩
  rw [hf] at h
  exact Wq.now h
theorem sem_law_surd_order (ds : List D) (M : Mu) (Q : DK) (E : DXK) (h : sp_law_surd_order ds M Q E) : t_law_surd_order (dEnd Q) (dstart 2 ds) M := by
  obtain ⟨x, y, rfl, xa, xb, xc, xd, ya, yb, yc, yd, h⟩ := h
  unfold t_law_surd_order suD
  walk_at "go"
  walk_at "sm"
  refine ⟨cm_ok (bt_neg yb) xd (by decide), ?_⟩
  walk_at "sm"
  have sb : ∀ {k : Nat} {i j : Int}, Bt k i → Bt k j → Bt (k + 1) (i - j) := fun h1 h2 => by
    unfold Bt at *; rw [Nat.pow_succ]; omega
  exact ⟨_, _, _, _, _, rfl, bt_up (sb (bt_mul xa yd) (bt_mul ya xd)) (by decide), bt_up (bt_mul xb yd) (by decide), xc, bt_up (bt_mul (bt_neg yb) xd) (by decide), yc, Wq.now h⟩
/-! isqrt -/
theorem sq_le {s r n : Int} (hs : 0 ≤ s) (hr : 0 < r) (h : s * s ≤ n) : s ≤ (r + n / r) / 2 := by
  have h1 : (2 * s - r) * r ≤ n := by
    have h2 : 0 ≤ (s - r) * (s - r) := by
      rcases Int.le_total 0 (s - r) with h | h
      · exact Int.mul_nonneg h h
      · exact Int.mul_nonneg_of_nonpos_of_nonpos h h
    have h3 : (2 * s - r) * r = s * s - (s - r) * (s - r) := by grind
    omega
  have h4 : 2 * s - r ≤ n / r := (Int.le_ediv_iff_mul_le hr).mpr h1
  omega
theorem sq_lt {s r : Int} (hs : 0 ≤ s) (hr : 0 ≤ r) (h : s * s < r * r) : s < r := by
  rcases Int.lt_or_le s r with h1 | h1
  · exact h1
  · have := Int.mul_le_mul h1 h1 hr hs
    omega
theorem sem_law_isqrt (ds : List D) (M : Mu) (Q : DK) (E : DXK) (h : sp_law_isqrt ds M Q E) : t_law_isqrt (dEnd Q) (dstart 3 ds) M := by
  obtain ⟨n, rfl, hn, hb, h⟩ := h
  unfold t_law_isqrt
  walk_at "go"
  refine r_if ?_
  walk_at "st"
  refine ⟨fun z => ?_, fun z => ?_⟩
  · have z := of_decide_eq_true z
    walk_at "st"
    refine Wq.now (h n hn ?_ fun s hs hh => ?_)
    · have : n = 0 ∨ n = 1 := by omega
      rcases this with rfl | rfl <;> decide
    · rcases Int.lt_or_le n s with h1 | h1
      · have : (n + 1) * (n + 1) ≤ s * s := Int.mul_le_mul (by omega) (by omega) (by omega) hs
        have e : (n + 1) * (n + 1) = n * n + 2 * n + 1 := by grind
        have := Int.mul_nonneg hn hn
        omega
      · exact h1
  have hn2 : 2 ≤ n := by have := of_decide_eq_false z; omega
  clear z
  walk_at "st"
  refine r_bits ?_
  walk_at "st"
  refine ⟨n, rfl, ?_⟩
  have hbits : Builtin.Int.intBits n ≤ 4000 := PySem.intBits_le_iff.mpr hb
  have hlo : n.natAbs < 2 ^ Builtin.Int.intBits n := PySem.intBits_le_iff.mp (Nat.le_refl _)
  generalize Builtin.Int.intBits n = B at hbits hlo
  walk_at "st"
  refine ⟨div_fit 4 (by decide) (by decide), ?_⟩
  walk_at "st"
  rw [fdiv_pos (by decide)]
  obtain ⟨k, hk⟩ : ∃ k : Nat, ((B : Int) + 1) / 2 = k ∧ B ≤ 2 * k ∧ k ≤ 2001 := ⟨(((B : Int) + 1) / 2).toNat, by omega, by omega, by omega⟩
  rw [hk.1]
  refine ⟨⟨by omega, ?_⟩, ?_⟩
  · have : Builtin.Int.intBits (1 : Int) ≤ 1 := PySem.intBits_le_iff.mpr (by decide)
    have := hk.2.2
    omega
  rw [Int.toNat_natCast, Int.one_mul]
  have hr0 : (0 : Int) < 2 ^ k := Int.pow_pos (by decide)
  have hrb : Bt 2002 ((2 : Int) ^ k) := by
    unfold Bt
    rw [Int.natAbs_pow]
    exact Nat.pow_lt_pow_right (by decide) (by have := hk.2.2; omega)
  have hs0 : ∀ s : Int, 0 ≤ s → s * s ≤ n → s ≤ 2 ^ k := by
    intro s hs hh
    refine Int.le_of_lt (sq_lt hs (Int.le_of_lt hr0) ?_)
    have e : ((2 : Int) ^ k) * 2 ^ k = ((2 ^ (2 * k) : Nat) : Int) := by
      rw [← Int.pow_add, Int.natCast_pow]
      congr 1
      omega
    rw [e]
    have : 2 ^ B ≤ 2 ^ (2 * k) := Nat.pow_le_pow_right (by decide) hk.2.1
    omega
  generalize (2 : Int) ^ k = r at hr0 hrb hs0
  walk_at "st"
  have b2 : ∀ {r : Int}, 0 < r → Bt 2002 r → CDivX r := fun h1 h2 => cd_ok (by omega) h2 (by decide)
  refine ⟨b2 hr0 hrb, ?_⟩
  walk_at "st"
  refine ⟨div_fit 4 (by decide) (by decide), ?_⟩
  rw [fdiv_pos hr0, fdiv_pos (by decide)]
  walk_at "st"
  refine r_while (fun m δ M' => ∃ r : Int, m = r.toNat ∧ 0 < r ∧ Bt 2002 r ∧ (∀ s : Int, 0 ≤ s → s * s ≤ n → s ≤ r) ∧ M' = M ∧ δ = [some (.int n), some (.int r), some (.int ((r + n / r) / 2))]) _ ⟨r, rfl, hr0, hrb, hs0, rfl, rfl⟩ ?_
  rintro m δ M' ⟨r, rfl, hr0, hrb, hs0, rfl, rfl⟩
  have hq : 0 ≤ n / r := Int.ediv_nonneg hn (by omega)
  walk_at "st"
  refine ⟨fun z => ?_, fun z => ?_⟩
  · have z := of_decide_eq_true z
    have hb0 : 0 < (r + n / r) / 2 := by
      have := hs0 1 (by decide) (by omega)
      have h1 := sq_le (s := 1) (by decide) hr0 (show (1 : Int) * 1 ≤ n by omega)
      omega
    have hbb : Bt 2002 ((r + n / r) / 2) := by
      unfold Bt at *
      omega
    walk_at "st"
    refine ⟨b2 hb0 hbb, ?_⟩
    walk_at "st"
    refine ⟨div_fit 4 (by decide) (by decide), ?_⟩
    rw [fdiv_pos hb0, fdiv_pos (by decide)]
    walk_at "st"
    exact ⟨_, by omega, (r + n / r) / 2, rfl, hb0, hbb, fun s hs hh => sq_le hs hr0 hh, by simp⟩
  · have z := of_decide_eq_false z
    walk_at "st"
    refine Wq.now (h r (by omega) ?_ hs0)
    have h1 : r ≤ n / r := by omega
    exact (Int.le_ediv_iff_mul_le hr0).mp h1
end K64

namespace K64
open PySem PySem.Spec PyProof.Rows L2 TL DL
local macro_rules | `(tactic| walk_at "st1") => `(tactic| first
  | with_reducible refine r_sq ?_ | with_reducible refine r_nx ?_ | with_reducible refine r_rt ?_ | with_reducible refine r_rtN ?_ | with_reducible refine r_ex ?_ | with_reducible refine r_as ?_ | with_reducible refine r_bk ?_ | with_reducible refine r_ct ?_
  | ((with_reducible apply r_var); exact rfl) | with_reducible refine r_c ?_ | with_reducible refine r_op ?_ | with_reducible refine r_un ?_ | with_reducible refine r_neg ?_
  | ((with_reducible refine r_dgN rfl ?_); (try simp only [List.set]))
  | with_reducible refine r_dgSub ?_ | with_reducible refine r_dgT rfl ?_ | with_reducible refine r_dga0 ?_ | with_reducible refine r_dga1 ?_ | with_reducible refine r_auS ?_ | ((with_reducible apply r_au); exact rfl)
  | with_reducible refine r_par ?_ | ((with_reducible refine r_kPar rfl ?_); (try simp only [List.set]))
  | with_reducible refine r_addI ?_ | with_reducible refine r_addS ?_ | with_reducible refine r_addT ?_ | with_reducible refine r_addL ?_ | with_reducible refine r_subI ?_ | with_reducible refine r_mulI ?_ | with_reducible refine r_fdiv ?_ | with_reducible refine r_mod ?_ | with_reducible refine r_pow ?_ | with_reducible refine r_shl ?_
  | with_reducible refine r_eqI ?_ | with_reducible refine r_eqS ?_ | with_reducible refine r_eqB ?_ | with_reducible refine r_neI ?_ | with_reducible refine r_neS ?_ | with_reducible refine r_neB ?_ | with_reducible refine r_ltI ?_ | with_reducible refine r_gtI ?_ | with_reducible refine r_leI ?_ | with_reducible refine r_geI ?_ | with_reducible refine r_isN ?_ | with_reducible refine r_notN ?_ | with_reducible refine r_inS ?_
  | with_reducible refine r_test ?_ | with_reducible refine r_kB ?_ | with_reducible refine r_tru ?_ | with_reducible refine r_kTb ?_ | with_reducible refine r_kTi ?_ | with_reducible refine r_kTn ?_ | with_reducible refine r_kTl ?_ | with_reducible refine r_kTt ?_ | with_reducible refine r_kTs ?_ | with_reducible refine r_not ?_ | with_reducible refine r_notV ?_ | with_reducible refine r_yes ?_
  | with_reducible refine r_nil ?_ | with_reducible refine r_cons ?_ | with_reducible refine r_tup ?_ | with_reducible refine r_lst ?_ | with_reducible refine r_newF ?_ | with_reducible refine r_cb ?_
  | with_reducible refine r_lenS ?_ | with_reducible refine r_lenL ?_ | with_reducible refine r_lenT ?_ | with_reducible refine r_lenSrc ?_ | with_reducible refine r_abs ?_ | with_reducible refine r_min2 ?_ | with_reducible refine r_max2 ?_ | with_reducible refine r_intI ?_ | with_reducible refine r_str ?_ | with_reducible refine r_tupT ?_ | with_reducible refine r_tupL ?_ | with_reducible refine r_divmod ?_
  | with_reducible refine r_sl ?_ | with_reducible refine r_noP ?_ | with_reducible refine r_part ?_ | with_reducible refine r_kP ?_ | with_reducible refine r_slS ?_ | with_reducible refine r_slT ?_ | with_reducible refine r_slL ?_ | with_reducible refine r_slSrc ?_
  | with_reducible refine r_bm ?_ | with_reducible refine r_tyS ?_ | with_reducible refine r_starts ?_ | with_reducible refine r_count ?_ | with_reducible refine r_call ?_ | with_reducible refine r_for ?_ | with_reducible refine r_seq ?_ | with_reducible refine r_kIt ?_ | with_reducible refine r_kIl ?_ | with_reducible refine r_kIs ?_ | with_reducible refine r_kIsrc ?_ | with_reducible refine r_r1 ?_ | with_reducible refine r_r2 ?_ | with_reducible refine r_lc ?_
  | with_reducible refine lit0 ?_ | with_reducible refine lit1 ?_ | with_reducible refine lit2 ?_ | with_reducible refine lit3 ?_ | with_reducible refine lit4 ?_ | with_reducible refine lit5 ?_ | with_reducible refine lit6 ?_ | with_reducible refine lit7 ?_
  | with_reducible refine r_subB ?_ | with_reducible refine r_r3 ?_ | with_reducible refine r_rev ?_ | with_reducible refine r_kRv ?_
  | fail)
local macro_rules | `(tactic| walk_at "st") => `(tactic| repeat (first | walk_at "st1" | dsimp only))
local macro_rules | `(tactic| walk_at "go") => `(tactic| (simp only [dstart, dEnd, List.map_cons, List.map_nil, List.length_cons, List.length_nil, Nat.reduceAdd, Nat.reduceSub, Nat.zero_add, List.replicate, List.cons_append, List.nil_append]; walk_at "st"))

local macro_rules | `(tactic| walk_at "bt") => `(tactic| first | assumption | (refine bt_mul ?_ ?_ <;> walk_at "bt") | (refine bt_sub ?_ ?_ <;> walk_at "bt") | (refine bt_add ?_ ?_ <;> walk_at "bt") | (refine bt_neg ?_ <;> walk_at "bt") | (refine bt_abs ?_ <;> walk_at "bt") | exact bt_lit 64 (by decide +kernel))
local macro_rules | `(tactic| walk_at "cm") => `(tactic| ((refine And.intro ?_ ?_); (focus ((apply cm_ok) <;> first | decide | walk_at "bt"))))
local macro_rules | `(tactic| walk_at "sm") => `(tactic| repeat (first | walk_at "st1" | ((with_reducible apply r_idxT); exact rfl) | ((with_reducible apply r_idxL); exact rfl) | dsimp only | walk_at "cm"))

theorem tri (z : Int) : (0 < z ∧ sg z = 1) ∨ (z = 0 ∧ sg z = 0) ∨ (z < 0 ∧ sg z = -1) := by
  rcases Int.lt_trichotomy 0 z with h | h | h
  · exact .inl ⟨h, sg_pos h⟩
  · subst h; exact .inr (.inl ⟨rfl, rfl⟩)
  · refine .inr (.inr ⟨h, ?_⟩)
    rw [sg_eq, if_neg (by omega), if_pos h]
theorem id1 (g a b c : Int) : g * g * (b * b - 4 * (a * c)) = (g * b) * (g * b) - 4 * ((g * a) * (g * c)) := by grind
theorem id2 (p q r s : Int) : -2 * p * s * (-2 * p * s) - 4 * ((p * p - q * q * r) * (s * s)) = 4 * (q * q * r * (s * s)) := by grind
theorem id3 (g a b c n m : Int) : g * (c * n * n + b * m * n + a * m * m) = (g * c) * n * n + (g * b) * m * n + (g * a) * m * m := by grind
theorem id4 (p q r s n m : Int) : s * s * n * n + -2 * p * s * m * n + (p * p - q * q * r) * m * m = (s * n - p * m) * (s * n - p * m) - q * m * (q * m) * r := by grind
theorem id5 (g b c n m : Int) : g * (c * 2 * n + b * m) = 2 * (g * c) * n + (g * b) * m := by grind
theorem id6 (p s n m : Int) : 2 * (s * s) * n + -2 * p * s * m = 2 * s * (s * n - p * m) := by grind
theorem id7 (p s n m : Int) : p * m - n * s = -(s * n - p * m) := by grind
theorem id9 (p s n m : Int) : n * s - p * m = s * n - p * m := by grind
theorem id10 (A q r s m : Int) : A * A + 0 * s * (0 * s) * 0 - -q * m * (-q * m) * r = A * A - q * m * (q * m) * r := by grind
theorem id11 (q m : Int) : -q * m = -(q * m) := by grind
theorem id12 (B k : Int) : B * B * (k * k) = B * k * (B * k) := by grind
theorem id13 (p s n m : Int) : p * m - n * s = -(s * n + -p * m) := by grind
theorem id14 (p s n m : Int) : n * s - p * m = s * n + -p * m := by grind
/-! a square times c is no square -/
theorem nonsq_ne {c A B : Int} (hc : NonSq c) (hB : B ≠ 0) : A * A ≠ B * B * c := by
  intro h
  have h1 : B * B ∣ A * A := ⟨c, h⟩
  have h2 : (B * B).natAbs ∣ (A * A).natAbs := Int.natAbs_dvd_natAbs.mpr h1
  rw [Int.natAbs_mul, Int.natAbs_mul, ← Nat.pow_two, ← Nat.pow_two] at h2
  have h3 : B.natAbs ∣ A.natAbs := (Nat.pow_dvd_pow_iff (by decide)).mp h2
  obtain ⟨k, rfl⟩ := Int.natAbs_dvd_natAbs.mp h3
  have h4 : B * B * (k * k) = B * B * c := by
    rw [← h]; exact id12 B k
  have h5 : B * B ≠ 0 := Int.mul_ne_zero hB hB
  exact hc k (Int.eq_of_mul_eq_mul_left h5 h4)
section
variable {x y : Su} {n m : Int}
theorem so_left (x : Su) (n m : Int) : so x (qSu n m) = s2 (x.a * m - n * x.d) (x.b * m) x.c := by
  show s3 (x.a * m - n * x.d) (x.b * m) x.c (-0 * x.d) 0 = _
  unfold s3
  have : (if (0 : Int) < 0 then sg (-0 * x.d) else 0) = 0 := rfl
  rw [this, if_pos (.inr (.inl rfl))]
  by_cases h : s2 (x.a * m - n * x.d) (x.b * m) x.c = 0
  · rw [if_neg (not_not_intro h), h]
  · rw [if_pos h]
theorem so_right (y : Su) (n m : Int) : so (qSu n m) y = s3 (n * y.d - y.a * m) (0 * y.d) 0 (-y.b * m) y.c := rfl
theorem s2_zero (a b : Int) : s2 a b 0 = sg a := if_pos (.inr rfl)
theorem key_sh {ms : List Int} {i : Int} (hx : SuOk 200 90 x) (k : Key x ms i) : Sh ms := by
  cases k with
  | lin h => exact .lin hx.d0
  | quad h g ms hg e =>
    have hl := congrArg List.length e
    rw [List.length_map] at hl
    match ms, hl, e with
    | [a, b, c], _, e =>
      have e : [x.a * x.a - x.b * x.b * x.c, -2 * x.a * x.d, x.d * x.d] = [g * a, g * b, g * c] := e
      obtain ⟨e0, e⟩ := List.cons.inj e
      obtain ⟨e1, e⟩ := List.cons.inj e
      obtain ⟨e2, e⟩ := List.cons.inj e
      have hd2 : 0 < x.d * x.d := Int.mul_pos hx.d0 hx.d0
      refine .quad (posm hg (by rw [← e2]; exact hd2)) ?_
      have hc : 0 < x.c := by
        rcases hx.or with h1 | h1
        · exact absurd h1.1 h
        · exact h1.2.1
      have hb2 : 0 < x.b * x.b := by
        rcases Int.lt_or_gt_of_ne h with h1 | h1
        · exact Int.mul_pos_of_neg_of_neg h1 h1
        · exact Int.mul_pos h1 h1
      refine posm (Int.mul_pos hg hg) ?_
      rw [id1, ← e0, ← e1, ← e2, id2]
      have := Int.mul_pos (Int.mul_pos hb2 hc) hd2
      omega
/-- the quadratic's signs at n / m -/
theorem quad_sg {g : Int} {ms : List Int} (hx : SuOk 200 90 x) (hg : 0 < g) (e : rowL x = ms.map (g * ·)) :
    ∃ a b c, ms = [a, b, c] ∧ sg (hom ms n m) = sg ((x.d * n - x.a * m) * (x.d * n - x.a * m) - x.b * m * (x.b * m) * x.c) ∧ sg (hom (derP ms) n m) = sg (x.d * n - x.a * m) := by
  have hl := congrArg List.length e
  rw [List.length_map] at hl
  match ms, hl, e with
  | [a, b, c], _, e =>
    have e : [x.a * x.a - x.b * x.b * x.c, -2 * x.a * x.d, x.d * x.d] = [g * a, g * b, g * c] := e
    obtain ⟨e0, e⟩ := List.cons.inj e
    obtain ⟨e1, e⟩ := List.cons.inj e
    obtain ⟨e2, e⟩ := List.cons.inj e
    refine ⟨a, b, c, rfl, ?_, ?_⟩
    · rw [← sg_mul hg, hom3]
      rw [id3, ← e0, ← e1, ← e2, id4]
    · show sg (hom [b, c * 2] n m) = _
      rw [← sg_mul hg, hom2, id5, ← e1, ← e2, id6, sg_mul (by have := hx.d0; omega)]
theorem low_core {S A B t u : Int} (hS : S ≠ 0) (hzero : A = 0 → S < 0) (hB : B ≠ 0) (ht : t = if 0 < B then 2 else 1) (hu : u = if -A = 0 ∨ decide (0 < -A) = decide (0 < B) then sg B else sg (-A) * sg S) : (2 - chg [sg S, sg A, 1] < t) ↔ 0 ≤ u := by
  have dn : ∀ {z : Int}, z < 0 → decide (0 < z) = false := fun h => decide_eq_false (by omega)
  rcases tri S with ⟨h1, h2⟩ | ⟨h1, h2⟩ | ⟨h1, h2⟩
  · rcases tri A with ⟨h3, h4⟩ | ⟨h3, h4⟩ | ⟨h3, h4⟩
    · rcases tri (-A) with ⟨h5, h6⟩ | ⟨h5, h6⟩ | ⟨h5, h6⟩
      · omega
      · omega
      · rcases tri B with ⟨h7, h8⟩ | ⟨h7, h8⟩ | ⟨h7, h8⟩
        · have hn : ¬ (-A = 0 ∨ decide (0 < -A) = decide (0 < B)) := by
            rw [dn h5, decide_eq_true h7]
            rintro (h | h)
            · omega
            · exact Bool.noConfusion h
          rw [if_pos h7] at ht
          rw [if_neg hn] at hu
          rw [ht, hu, h2, h4, h6]; decide
        · exact absurd h7 hB
        · rw [if_neg (by omega)] at ht
          rw [if_pos (.inr (by rw [dn h5, dn h7]))] at hu
          rw [ht, hu, h2, h4, h8]; decide
    · exact absurd (hzero h3) (by omega)
    · rcases tri (-A) with ⟨h5, h6⟩ | ⟨h5, h6⟩ | ⟨h5, h6⟩
      · rcases tri B with ⟨h7, h8⟩ | ⟨h7, h8⟩ | ⟨h7, h8⟩
        · rw [if_pos h7] at ht
          rw [if_pos (.inr (by rw [decide_eq_true h5, decide_eq_true h7]))] at hu
          rw [ht, hu, h2, h4, h8]; decide
        · exact absurd h7 hB
        · have hn : ¬ (-A = 0 ∨ decide (0 < -A) = decide (0 < B)) := by
            rw [dn h7, decide_eq_true h5]
            rintro (h | h)
            · omega
            · exact Bool.noConfusion h
          rw [if_neg (by omega)] at ht
          rw [if_neg hn] at hu
          rw [ht, hu, h2, h4, h6]; decide
      · omega
      · omega
  · exact absurd h1 hS
  · rcases tri A with ⟨h3, h4⟩ | ⟨h3, h4⟩ | ⟨h3, h4⟩
    · rcases tri (-A) with ⟨h5, h6⟩ | ⟨h5, h6⟩ | ⟨h5, h6⟩
      · omega
      · omega
      · rcases tri B with ⟨h7, h8⟩ | ⟨h7, h8⟩ | ⟨h7, h8⟩
        · have hn : ¬ (-A = 0 ∨ decide (0 < -A) = decide (0 < B)) := by
            rw [dn h5, decide_eq_true h7]
            rintro (h | h)
            · omega
            · exact Bool.noConfusion h
          rw [if_pos h7] at ht
          rw [if_neg hn] at hu
          rw [ht, hu, h2, h4, h6]; decide
        · exact absurd h7 hB
        · rw [if_neg (by omega)] at ht
          rw [if_pos (.inr (by rw [dn h5, dn h7]))] at hu
          rw [ht, hu, h2, h4, h8]; decide
    · rcases tri B with ⟨h7, h8⟩ | ⟨h7, h8⟩ | ⟨h7, h8⟩
      · rw [if_pos h7] at ht
        rw [if_pos (.inl (by omega))] at hu
        rw [ht, hu, h2, h4, h8]; decide
      · exact absurd h7 hB
      · rw [if_neg (by omega)] at ht
        rw [if_pos (.inl (by omega))] at hu
        rw [ht, hu, h2, h4, h8]; decide
    · rcases tri (-A) with ⟨h5, h6⟩ | ⟨h5, h6⟩ | ⟨h5, h6⟩
      · rcases tri B with ⟨h7, h8⟩ | ⟨h7, h8⟩ | ⟨h7, h8⟩
        · rw [if_pos h7] at ht
          rw [if_pos (.inr (by rw [decide_eq_true h5, decide_eq_true h7]))] at hu
          rw [ht, hu, h2, h4, h8]; decide
        · exact absurd h7 hB
        · have hn : ¬ (-A = 0 ∨ decide (0 < -A) = decide (0 < B)) := by
            rw [dn h7, decide_eq_true h5]
            rintro (h | h)
            · omega
            · exact Bool.noConfusion h
          rw [if_neg (by omega)] at ht
          rw [if_neg hn] at hu
          rw [ht, hu, h2, h4, h6]; decide
      · omega
      · omega
theorem high_core {S A B t : Int} (hS : S ≠ 0) (hzero : A = 0 → S < 0) (hB : B ≠ 0) (ht : t = if 0 < B then 2 else 1) :
    (t ≤ 2 - chg [sg S, sg A, 1]) ↔ 0 ≤ if sg A = 0 ∨ sg (-B) = 0 ∨ sg A = sg (-B) then (if sg A ≠ 0 then sg A else sg (-B)) else sg A * sg S := by
  rcases tri (-B) with ⟨h7, h8⟩ | ⟨h7, h8⟩ | ⟨h7, h8⟩
  · rw [if_neg (by omega)] at ht
    rcases tri S with ⟨h1, h2⟩ | ⟨h1, h2⟩ | ⟨h1, h2⟩
    · rcases tri A with ⟨h3, h4⟩ | ⟨h3, h4⟩ | ⟨h3, h4⟩
      · rw [ht, h2, h4, h8]; decide
      · exact absurd (hzero h3) (by omega)
      · rw [ht, h2, h4, h8]; decide
    · exact absurd h1 hS
    · rcases tri A with ⟨h3, h4⟩ | ⟨h3, h4⟩ | ⟨h3, h4⟩ <;> (rw [ht, h2, h4, h8]; decide)
  · omega
  · rw [if_pos (by omega)] at ht
    rcases tri S with ⟨h1, h2⟩ | ⟨h1, h2⟩ | ⟨h1, h2⟩
    · rcases tri A with ⟨h3, h4⟩ | ⟨h3, h4⟩ | ⟨h3, h4⟩
      · rw [ht, h2, h4, h8]; decide
      · exact absurd (hzero h3) (by omega)
      · rw [ht, h2, h4, h8]; decide
    · exact absurd h1 hS
    · rcases tri A with ⟨h3, h4⟩ | ⟨h3, h4⟩ | ⟨h3, h4⟩ <;> (rw [ht, h2, h4, h8]; decide)
theorem low_iff {ms : List Int} {i : Int} (hx : SuOk 200 90 x) (k : Key x ms i) (hm : 0 < m) : ((if sg (hom ms n m) = 0 then rootsV ms n m - 1 else rootsV ms n m) < i) ↔ 0 ≤ so x (qSu n m) := by
  rw [so_left]
  cases k with
  | lin h =>
    have hc : x.c = 0 := by
      rcases hx.or with h1 | h1
      · exact h1.2
      · exact absurd h h1.1
    rw [hc, s2_zero]
    show ((if sg (hom [-x.a, x.d] n m) = 0 then 1 - chg [sg (hom [-x.a, x.d] n m), 1] - 1 else 1 - chg [sg (hom [-x.a, x.d] n m), 1]) < 1) ↔ _
    rw [hom2]
    have e : x.a * m - n * x.d = -(x.d * n + -x.a * m) := id13 _ _ _ _
    rw [e]
    generalize x.d * n + -x.a * m = A
    rcases tri A with ⟨h1, h2⟩ | ⟨h1, h2⟩ | ⟨h1, h2⟩ <;> rcases tri (-A) with ⟨h3, h4⟩ | ⟨h3, h4⟩ | ⟨h3, h4⟩ <;> first | omega | (rw [h2, h4]; decide)
  | quad h g ms hg e =>
    obtain ⟨a, b, c, rfl, q1, q2⟩ := quad_sg (n := n) (m := m) hx hg e
    have hc : 0 < x.c ∧ NonSq x.c := by
      rcases hx.or with h1 | h1
      · exact absurd h1.1 h
      · exact h1.2
    have hbm : x.b * m ≠ 0 := Int.mul_ne_zero h (by omega)
    have hS : (x.d * n - x.a * m) * (x.d * n - x.a * m) - x.b * m * (x.b * m) * x.c ≠ 0 := by
      have := nonsq_ne (A := x.d * n - x.a * m) hc.2 hbm
      omega
    show ((if sg (hom [a, b, c] n m) = 0 then 2 - chg [sg (hom [a, b, c] n m), sg (hom (derP [a, b, c]) n m), 1] - 1 else 2 - chg [sg (hom [a, b, c] n m), sg (hom (derP [a, b, c]) n m), 1]) < _) ↔ _
    rw [q1, q2]
    have hneg : x.b * m * (x.b * m) * x.c > 0 := by
      refine Int.mul_pos ?_ hc.1
      rcases Int.lt_or_gt_of_ne hbm with h1 | h1
      · exact Int.mul_pos_of_neg_of_neg h1 h1
      · exact Int.mul_pos h1 h1
    have hzero : x.d * n - x.a * m = 0 → (x.d * n - x.a * m) * (x.d * n - x.a * m) - x.b * m * (x.b * m) * x.c < 0 := fun hz => by
      rw [hz]; omega
    have hbs : (0 < x.b ↔ 0 < x.b * m) := ⟨fun hh => Int.mul_pos hh hm, fun hh => posm hm (by rw [Int.mul_comm]; exact hh)⟩
    have hsS : ¬ sg ((x.d * n - x.a * m) * (x.d * n - x.a * m) - x.b * m * (x.b * m) * x.c) = 0 := fun hz => by
      rcases tri ((x.d * n - x.a * m) * (x.d * n - x.a * m) - x.b * m * (x.b * m) * x.c) with ⟨h1, h2⟩ | ⟨h1, h2⟩ | ⟨h1, h2⟩ <;> omega
    rw [if_neg hsS]
    have hu : s2 (x.a * m - n * x.d) (x.b * m) x.c = if -(x.d * n - x.a * m) = 0 ∨ decide (0 < -(x.d * n - x.a * m)) = decide (0 < x.b * m) then sg (x.b * m) else sg (-(x.d * n - x.a * m)) * sg ((x.d * n - x.a * m) * (x.d * n - x.a * m) - x.b * m * (x.b * m) * x.c) := by
      have hcond : ¬ (x.b * m = 0 ∨ x.c = 0) := by
        rintro (h1 | h1)
        · exact hbm h1
        · omega
      unfold s2
      rw [if_neg hcond, id7, Int.neg_mul_neg]
    have ht : (if 0 < x.b then (2 : Int) else 1) = if 0 < x.b * m then 2 else 1 := by
      by_cases hb : 0 < x.b
      · rw [if_pos hb, if_pos (hbs.mp hb)]
      · rw [if_neg hb, if_neg (fun hh => hb (hbs.mpr hh))]
    exact low_core hS hzero hbm ht hu
theorem high_iff {ms : List Int} {i : Int} (hy : SuOk 200 90 y) (k : Key y ms i) (hm : 0 < m) : (i ≤ rootsV ms n m) ↔ 0 ≤ so (qSu n m) y := by
  rw [so_right]
  cases k with
  | lin h =>
    have hc : y.c = 0 := by
      rcases hy.or with h1 | h1
      · exact h1.2
      · exact absurd h h1.1
    rw [hc]
    unfold s3
    rw [s2_zero, show (if (0 : Int) < 0 then sg (-y.b * m) else 0) = 0 from rfl, if_pos (.inr (.inl rfl))]
    show (1 ≤ 1 - chg [sg (hom [-y.a, y.d] n m), 1]) ↔ _
    rw [hom2]
    have e : n * y.d - y.a * m = y.d * n + -y.a * m := id14 _ _ _ _
    rw [e]
    generalize y.d * n + -y.a * m = A
    rcases tri A with ⟨h1, h2⟩ | ⟨h1, h2⟩ | ⟨h1, h2⟩ <;> (rw [h2]; decide)
  | quad h g ms hg e =>
    obtain ⟨a, b, c, rfl, q1, q2⟩ := quad_sg (n := n) (m := m) hy hg e
    have hc : 0 < y.c ∧ NonSq y.c := by
      rcases hy.or with h1 | h1
      · exact absurd h1.1 h
      · exact h1.2
    have hbm : y.b * m ≠ 0 := Int.mul_ne_zero h (by omega)
    have hS : (y.d * n - y.a * m) * (y.d * n - y.a * m) - y.b * m * (y.b * m) * y.c ≠ 0 := by
      have := nonsq_ne (A := y.d * n - y.a * m) hc.2 hbm
      omega
    show (_ ≤ 2 - chg [sg (hom [a, b, c] n m), sg (hom (derP [a, b, c]) n m), 1]) ↔ _
    rw [q1, q2]
    have hneg : y.b * m * (y.b * m) * y.c > 0 := by
      refine Int.mul_pos ?_ hc.1
      rcases Int.lt_or_gt_of_ne hbm with h1 | h1
      · exact Int.mul_pos_of_neg_of_neg h1 h1
      · exact Int.mul_pos h1 h1
    have hzero : y.d * n - y.a * m = 0 → (y.d * n - y.a * m) * (y.d * n - y.a * m) - y.b * m * (y.b * m) * y.c < 0 := fun hz => by
      rw [hz]; omega
    have hbs : (0 < y.b ↔ 0 < y.b * m) := ⟨fun hh => Int.mul_pos hh hm, fun hh => posm hm (by rw [Int.mul_comm]; exact hh)⟩
    have hu : s3 (n * y.d - y.a * m) (0 * y.d) 0 (-y.b * m) y.c = if sg (y.d * n - y.a * m) = 0 ∨ sg (-(y.b * m)) = 0 ∨ sg (y.d * n - y.a * m) = sg (-(y.b * m)) then (if sg (y.d * n - y.a * m) ≠ 0 then sg (y.d * n - y.a * m) else sg (-(y.b * m))) else sg (y.d * n - y.a * m) * sg ((y.d * n - y.a * m) * (y.d * n - y.a * m) - y.b * m * (y.b * m) * y.c) := by
      unfold s3
      rw [s2_zero, s2_zero, if_pos hc.1, id9, id10, id11]
    rw [hu]
    have ht : (if 0 < y.b then (2 : Int) else 1) = if 0 < y.b * m then 2 else 1 := by
      by_cases hb : 0 < y.b
      · rw [if_pos hb, if_pos (hbs.mp hb)]
      · rw [if_neg hb, if_neg (fun hh => hb (hbs.mpr hh))]
    exact high_core hS hzero hbm ht
theorem judge_due {ma mb : List Int} {ia ib : Int} (hx : SuOk 200 90 x) (hy : SuOk 200 90 y) (ka : Key x ma ia) (kb : Key y mb ib) (hm : 0 < m) : judgeV ma ia mb ib n m = dueV x y n m := by
  unfold judgeV dueV
  have h1 := low_iff (n := n) hx ka hm
  have h2 := high_iff (n := n) hy kb hm
  by_cases c1 : 0 ≤ so x (qSu n m)
  · rw [if_pos (h1.mpr c1), if_pos c1]
  · rw [if_neg (fun hh => c1 (h1.mp hh)), if_neg c1]
    by_cases c2 : 0 ≤ so (qSu n m) y
    · rw [if_pos (h2.mpr c2), if_pos c2]
    · rw [if_neg (fun hh => c2 (h2.mp hh)), if_neg c2]
end
end K64

namespace K64
open PySem PySem.Spec PyProof.Rows L2 TL DL
local macro_rules | `(tactic| walk_at "st1") => `(tactic| first
  | with_reducible refine r_sq ?_ | with_reducible refine r_nx ?_ | with_reducible refine r_rt ?_ | with_reducible refine r_rtN ?_ | with_reducible refine r_ex ?_ | with_reducible refine r_as ?_ | with_reducible refine r_bk ?_ | with_reducible refine r_ct ?_
  | ((with_reducible apply r_var); exact rfl) | with_reducible refine r_c ?_ | with_reducible refine r_op ?_ | with_reducible refine r_un ?_ | with_reducible refine r_neg ?_
  | ((with_reducible refine r_dgN rfl ?_); (try simp only [List.set]))
  | with_reducible refine r_dgSub ?_ | with_reducible refine r_dgT rfl ?_ | with_reducible refine r_dga0 ?_ | with_reducible refine r_dga1 ?_ | with_reducible refine r_auS ?_ | ((with_reducible apply r_au); exact rfl)
  | with_reducible refine r_par ?_ | ((with_reducible refine r_kPar rfl ?_); (try simp only [List.set]))
  | with_reducible refine r_addI ?_ | with_reducible refine r_addS ?_ | with_reducible refine r_addT ?_ | with_reducible refine r_addL ?_ | with_reducible refine r_subI ?_ | with_reducible refine r_mulI ?_ | with_reducible refine r_fdiv ?_ | with_reducible refine r_mod ?_ | with_reducible refine r_pow ?_ | with_reducible refine r_shl ?_
  | with_reducible refine r_eqI ?_ | with_reducible refine r_eqS ?_ | with_reducible refine r_eqB ?_ | with_reducible refine r_neI ?_ | with_reducible refine r_neS ?_ | with_reducible refine r_neB ?_ | with_reducible refine r_ltI ?_ | with_reducible refine r_gtI ?_ | with_reducible refine r_leI ?_ | with_reducible refine r_geI ?_ | with_reducible refine r_isN ?_ | with_reducible refine r_notN ?_ | with_reducible refine r_inS ?_
  | with_reducible refine r_test ?_ | with_reducible refine r_kB ?_ | with_reducible refine r_tru ?_ | with_reducible refine r_kTb ?_ | with_reducible refine r_kTi ?_ | with_reducible refine r_kTn ?_ | with_reducible refine r_kTl ?_ | with_reducible refine r_kTt ?_ | with_reducible refine r_kTs ?_ | with_reducible refine r_not ?_ | with_reducible refine r_notV ?_ | with_reducible refine r_yes ?_
  | with_reducible refine r_nil ?_ | with_reducible refine r_cons ?_ | with_reducible refine r_tup ?_ | with_reducible refine r_lst ?_ | with_reducible refine r_newF ?_ | with_reducible refine r_cb ?_
  | with_reducible refine r_lenS ?_ | with_reducible refine r_lenL ?_ | with_reducible refine r_lenT ?_ | with_reducible refine r_lenSrc ?_ | with_reducible refine r_abs ?_ | with_reducible refine r_min2 ?_ | with_reducible refine r_max2 ?_ | with_reducible refine r_intI ?_ | with_reducible refine r_str ?_ | with_reducible refine r_tupT ?_ | with_reducible refine r_tupL ?_ | with_reducible refine r_divmod ?_
  | with_reducible refine r_sl ?_ | with_reducible refine r_noP ?_ | with_reducible refine r_part ?_ | with_reducible refine r_kP ?_ | with_reducible refine r_slS ?_ | with_reducible refine r_slT ?_ | with_reducible refine r_slL ?_ | with_reducible refine r_slSrc ?_
  | with_reducible refine r_bm ?_ | with_reducible refine r_tyS ?_ | with_reducible refine r_starts ?_ | with_reducible refine r_count ?_ | with_reducible refine r_call ?_ | with_reducible refine r_for ?_ | with_reducible refine r_seq ?_ | with_reducible refine r_kIt ?_ | with_reducible refine r_kIl ?_ | with_reducible refine r_kIs ?_ | with_reducible refine r_kIsrc ?_ | with_reducible refine r_r1 ?_ | with_reducible refine r_r2 ?_ | with_reducible refine r_lc ?_
  | with_reducible refine lit0 ?_ | with_reducible refine lit1 ?_ | with_reducible refine lit2 ?_ | with_reducible refine lit3 ?_ | with_reducible refine lit4 ?_ | with_reducible refine lit5 ?_ | with_reducible refine lit6 ?_ | with_reducible refine lit7 ?_
  | with_reducible refine r_subB ?_ | with_reducible refine r_r3 ?_ | with_reducible refine r_rev ?_ | with_reducible refine r_kRv ?_
  | fail)
local macro_rules | `(tactic| walk_at "st") => `(tactic| repeat (first | walk_at "st1" | dsimp only))
local macro_rules | `(tactic| walk_at "go") => `(tactic| (simp only [dstart, dEnd, List.map_cons, List.map_nil, List.length_cons, List.length_nil, Nat.reduceAdd, Nat.reduceSub, Nat.zero_add, List.replicate, List.cons_append, List.nil_append]; walk_at "st"))

local macro_rules | `(tactic| walk_at "bt") => `(tactic| first | assumption | (refine bt_mul ?_ ?_ <;> walk_at "bt") | (refine bt_sub ?_ ?_ <;> walk_at "bt") | (refine bt_add ?_ ?_ <;> walk_at "bt") | (refine bt_neg ?_ <;> walk_at "bt") | (refine bt_abs ?_ <;> walk_at "bt") | exact bt_lit 64 (by decide +kernel))
local macro_rules | `(tactic| walk_at "cm") => `(tactic| ((refine And.intro ?_ ?_); (focus ((apply cm_ok) <;> first | decide | walk_at "bt"))))
local macro_rules | `(tactic| walk_at "sm") => `(tactic| repeat (first | walk_at "st1" | ((with_reducible apply r_idxT); exact rfl) | ((with_reducible apply r_idxL); exact rfl) | dsimp only | walk_at "cm"))

theorem bt_add1 {k : Nat} {i j : Int} (h1 : Bt k i) (h2 : Bt k j) : Bt (k + 1) (i + j) := by
  unfold Bt at *; rw [Nat.pow_succ]; omega
theorem bt_le {k : Nat} {i j : Int} (h : Bt k j) (h1 : 0 ≤ i) (h2 : i ≤ j) : Bt k i := by
  unfold Bt at *; omega
theorem SuOk.up {ka kb la lb : Nat} {x : Su} (h : SuOk ka kb x) (h1 : ka ≤ la) (h2 : kb ≤ lb) : SuOk la lb x := ⟨bt_up h.a h1, bt_up h.b h2, bt_up h.d h2, h.d0, h.c0, h.or⟩
theorem bt_quot {k : Nat} {g n : Int} (h : Bt k (g * n)) (hg : 0 < g) : Bt k n := by
  unfold Bt at *
  rw [Int.natAbs_mul] at h
  have : n.natAbs ≤ g.natAbs * n.natAbs := Nat.le_mul_of_pos_left _ (by omega)
  omega
theorem sem_law_surd (ds : List D) (M : Mu) (Q : DK) (E : DXK) (h : sp_law_surd ds M Q E) : t_law_surd (dEnd Q) (dstart 6 ds) M := by
  obtain ⟨a, b, c, d, ka, kb, rfl, ha, hb, hd, hk, hk7, d0, c0, c1, h⟩ := h
  unfold t_law_surd
  walk_at "go"
  refine ⟨c, rfl, c0, ?_, fun r r0 r1 r2 => ?_⟩
  · unfold Bt
    have : (20 : Nat) < 2 ^ 4000 := by decide +kernel
    omega
  have hr4 : r ≤ 4 := by
    rcases Int.lt_or_le r 5 with h1 | h1
    · omega
    · have := Int.mul_le_mul h1 h1 (by decide) r0
      omega
  have hrb : Bt 5 r := by unfold Bt; omega
  have tail : ∀ (a' b' c' : Int), Bt (ka + 1) a' → Bt kb b' → (0 ≤ c' ∧ c' ≤ 19) → ((b' = 0 ∧ c' = 0) ∨ (b' ≠ 0 ∧ 0 < c' ∧ NonSq c')) →
      (dSq (dAs (dCall sp_law_common [] dX0 (dCons (dCall sp_law_common [] dX0 (dCons (dVar 0) (dCons (dVar 1) dNil))) (dCons (dVar 3) dNil))) (dgN 5)) (dSq (dIfS (dTest (dOp dLt (dVar 3) (dC (.int 0)))) (dAs (dUn dNeg (dVar 5)) (dgN 5)) dNx) (dRt (dTup (dCons (dOp dFdiv (dVar 0) (dVar 5)) (dCons (dOp dFdiv (dVar 1) (dVar 5)) (dCons (dVar 2) (dCons (dOp dFdiv (dVar 3) (dVar 5)) dNil)))))))) { nx := fun x M => Wq Q D.non M, rt := Wq Q } [some (.int a'), some (.int b'), some (.int c'), some (.int d), some (.int r), none] M := by
    intro a' b' c' ha' hb' hc' hor
    walk_at "st"
    refine ⟨a', b', rfl, bt_up ha' (by omega), bt_up hb' (by omega), ?_⟩
    walk_at "st"
    have hg1 : Bt 8000 (Int.gcd a' b' : Int) := by
      by_cases hz : b' = 0
      · rw [hz, Int.gcd_zero_right]
        exact bt_up (bt_abs ha') (by omega)
      · exact gcd_bt (bt_up hb' (by omega)) hz
    refine ⟨_, d, rfl, hg1, bt_up hd (by omega), ?_⟩
    have hG := gcd_pos (a := (Int.gcd a' b' : Int)) (b := d) (by omega)
    have hGb : Bt 8000 (Int.gcd (Int.gcd a' b' : Int) d : Int) := gcd_bt (bt_up hd (by omega)) (by omega)
    have hGd : (Int.gcd (Int.gcd a' b' : Int) d : Int) ∣ d := Int.gcd_dvd_right ..
    have hGb' : (Int.gcd (Int.gcd a' b' : Int) d : Int) ∣ b' := Int.dvd_trans (Int.gcd_dvd_left ..) (Int.gcd_dvd_right ..)
    generalize (Int.gcd (Int.gcd a' b' : Int) d : Int) = G at hG hGb hGd hGb'
    walk_at "st"
    refine r_if ?_
    walk_at "st"
    refine ⟨fun z => absurd (of_decide_eq_true z) (by omega), fun _ => ?_⟩
    have cd : CDivX G := cd_ok (by omega) hGb (by decide)
    walk_at "st"
    refine ⟨cd, ?_⟩
    walk_at "st"
    refine ⟨cd, ?_⟩
    walk_at "st"
    refine ⟨cd, ?_⟩
    walk_at "st"
    obtain ⟨v, rfl⟩ := hGd
    obtain ⟨u, rfl⟩ := hGb'
    have e1 : (G * v).fdiv G = v := Int.mul_fdiv_cancel_left _ (by omega)
    have e2 : (G * u).fdiv G = u := Int.mul_fdiv_cancel_left _ (by omega)
    refine Wq.now (h ⟨a'.fdiv G, (G * u).fdiv G, c', (G * v).fdiv G⟩ ⟨bt_fdiv ha', bt_fdiv hb', bt_fdiv hd, ?_, hc', ?_⟩)
    · show 0 < (G * v).fdiv G
      rw [e1]
      exact posm hG d0
    · show (((G * u).fdiv G = 0 ∧ c' = 0) ∨ ((G * u).fdiv G ≠ 0 ∧ 0 < c' ∧ NonSq c'))
      rw [e2]
      rcases hor with ⟨h1, h2⟩ | ⟨h1, h2⟩
      · left
        refine ⟨?_, h2⟩
        rcases Int.mul_eq_zero.mp h1 with h3 | h3
        · omega
        · exact h3
      · right
        exact ⟨fun hz => h1 (by rw [hz, Int.mul_zero]), h2⟩
  walk_at "st"
  have hns : r * r ≠ c → NonSq c := fun hne s hs => by
    have h1 : (s.natAbs : Int) * (s.natAbs : Int) = c := by rw [Int.natAbs_mul_self' s]; exact hs
    have h2 := r2 (s.natAbs : Int) (by omega) (by omega)
    have h3 := Int.mul_le_mul h2 h2 (by omega) r0
    omega
  refine r_if ?_
  walk_at "st"
  refine ⟨cm_ok hrb hrb (by decide), ?_⟩
  walk_at "st"
  refine ⟨fun z => ?_, fun z => ?_⟩
  · walk_at "st"
    refine ⟨cm_ok hb hrb (by omega), ?_⟩
    walk_at "st"
    refine r_if ?_
    walk_at "st"
    refine ⟨fun _ => ?_, fun z => absurd z (by decide)⟩
    walk_at "st1"
    walk_at "st1"
    walk_at "st1"
    exact tail _ 0 0 (bt_add1 ha (bt_up (bt_mul hb hrb) (by omega))) (bt_up (bt_lit 0 (by decide)) (by omega)) (by decide) (.inl ⟨rfl, rfl⟩)
  · have hne := hns (of_decide_eq_false z)
    walk_at "st"
    refine r_if ?_
    walk_at "st"
    refine ⟨fun z => ?_, fun z => ?_⟩
    · have z := of_decide_eq_true z
      subst z
      walk_at "st1"
      walk_at "st1"
      walk_at "st1"
      exact tail a 0 0 (bt_up ha (by omega)) hb (by decide) (.inl ⟨rfl, rfl⟩)
    · have z := of_decide_eq_false z
      have hc0 : 0 < c := by
        rcases Int.lt_or_eq_of_le c0 with h1 | h1
        · exact h1
        · exact absurd h1 (by have := hne 0; omega)
      walk_at "st1"
      exact tail a b c (bt_up ha (by omega)) hb ⟨c0, c1⟩ (.inr ⟨z, hc0, hne⟩)
theorem sem_law_surd_floor (ds : List D) (M : Mu) (Q : DK) (E : DXK) (h : sp_law_surd_floor ds M Q E) : t_law_surd_floor (dEnd Q) (dstart 3 ds) M := by
  obtain ⟨x, n, rfl, hx, n0, hn, h⟩ := h
  have hc : Bt 5 x.c := by unfold Bt; have := hx.c0; omega
  have hdd : CDivX x.d := cd_ok (by have := hx.d0; omega) hx.d (by decide)
  unfold t_law_surd_floor suD
  walk_at "go"
  refine r_if ?_
  walk_at "sm"
  refine ⟨fun _ => ?_, fun z => ?_⟩
  · walk_at "st"
    refine r_idxT atI_zero ?_
    walk_at "st"
    refine ⟨cm_ok hx.a hn (by decide), ?_⟩
    walk_at "st"
    refine r_idxT (d := .int x.d) (by rfl) ?_
    walk_at "st"
    refine ⟨hdd, ?_⟩
    exact Wq.now (h _ (bt_up (bt_fdiv (bt_mul hx.a hn)) (by decide)))
  have z := of_decide_eq_false z
  walk_at "st"
  refine r_idxT atI_one ?_
  walk_at "st"
  refine r_idxT atI_one ?_
  walk_at "st"
  refine ⟨cm_ok hx.b hx.b (by decide), ?_⟩
  walk_at "st"
  refine r_idxT atI_two ?_
  walk_at "st"
  refine ⟨cm_ok (bt_mul hx.b hx.b) hc (by decide), ?_⟩
  walk_at "st"
  refine ⟨cm_ok (bt_mul (bt_mul hx.b hx.b) hc) hn (by decide), ?_⟩
  walk_at "st"
  refine ⟨cm_ok (bt_mul (bt_mul (bt_mul hx.b hx.b) hc) hn) hn (by decide), ?_⟩
  walk_at "st"
  have hbb : 0 ≤ x.b * x.b := by
    rcases Int.le_total 0 x.b with h1 | h1
    · exact Int.mul_nonneg h1 h1
    · exact Int.mul_nonneg_of_nonpos_of_nonpos h1 h1
  have hnn : 0 ≤ x.b * x.b * x.c * n * n := Int.mul_nonneg (Int.mul_nonneg (Int.mul_nonneg hbb hx.c0.1) (Int.le_of_lt n0)) (Int.le_of_lt n0)
  have hbt : Bt 405 (x.b * x.b * x.c * n * n) := bt_up (bt_mul (bt_mul (bt_mul (bt_mul hx.b hx.b) hc) hn) hn) (by decide)
  refine ⟨_, rfl, hnn, bt_up hbt (by decide), fun r r0 r1 _ => ?_⟩
  have hrb : Bt 405 r := by
    refine bt_le hbt r0 ?_
    rcases Int.lt_or_eq_of_le r0 with h1 | h1
    · have := Int.mul_le_mul (show 1 ≤ r by omega) (Int.le_refl r) r0 r0
      omega
    · omega
  generalize x.b * x.b * x.c * n * n = Z at *
  walk_at "st"
  have hxn : Bt 310 (x.a * n) := bt_mul hx.a hn
  refine r_dif ?_
  walk_at "st"
  refine r_idxT atI_one ?_
  walk_at "st"
  refine ⟨fun _ => ?_, fun _ => ?_⟩
  · walk_at "st"
    refine r_idxT atI_zero ?_
    walk_at "st"
    refine ⟨cm_ok hx.a hn (by decide), ?_⟩
    walk_at "st"
    refine r_idxT (d := .int x.d) (by rfl) ?_
    walk_at "st"
    refine ⟨hdd, ?_⟩
    exact Wq.now (h _ (bt_up (bt_fdiv (bt_add1 (bt_up hxn (by decide)) hrb)) (by decide)))
  · walk_at "st"
    refine r_idxT atI_zero ?_
    walk_at "st"
    refine ⟨cm_ok hx.a hn (by decide), ?_⟩
    walk_at "st"
    refine r_idxT (d := .int x.d) (by rfl) ?_
    walk_at "st"
    refine ⟨hdd, ?_⟩
    refine Wq.now (h _ (bt_up (bt_fdiv (a := 407) ?_) (by decide)))
    rw [Int.sub_eq_add_neg, Int.sub_eq_add_neg]
    exact bt_add1 (bt_add1 (bt_up hxn (by decide)) (bt_neg hrb)) (bt_lit 406 (by decide +kernel))
theorem sem_law_surd_key (ds : List D) (M : Mu) (Q : DK) (E : DXK) (h : sp_law_surd_key ds M Q E) : t_law_surd_key (dEnd Q) (dstart 4 ds) M := by
  obtain ⟨x, rfl, hx, h⟩ := h
  have hc : Bt 5 x.c := by unfold Bt; have := hx.c0; omega
  unfold t_law_surd_key suD
  walk_at "go"
  refine r_if ?_
  walk_at "st"
  refine r_idxT atI_one ?_
  walk_at "st"
  refine ⟨fun z => ?_, fun z => ?_⟩
  · walk_at "st"
    refine r_idxT atI_zero ?_
    walk_at "st"
    refine r_idxT (d := .int x.d) (by rfl) ?_
    walk_at "st"
    refine Wq.now (h [-x.a, x.d] 1 (.lin (of_decide_eq_true z)) ⟨by simp, fun c hc => ?_⟩)
    simp only [List.mem_cons, List.not_mem_nil, or_false] at hc
    rcases hc with rfl | rfl
    · exact bt_up (bt_neg hx.a) (by decide)
    · exact bt_up hx.d (by decide)
  have z := of_decide_eq_false z
  have b2 : Bt 2 (-2 : Int) := bt_lit 2 (by decide)
  walk_at "st"
  refine r_idxT atI_zero ?_
  walk_at "st"
  refine r_idxT atI_zero ?_
  walk_at "st"
  refine ⟨cm_ok hx.a hx.a (by decide), ?_⟩
  walk_at "st"
  refine r_idxT atI_one ?_
  walk_at "st"
  refine r_idxT atI_one ?_
  walk_at "st"
  refine ⟨cm_ok hx.b hx.b (by decide), ?_⟩
  walk_at "st"
  refine r_idxT atI_two ?_
  walk_at "st"
  refine ⟨cm_ok (bt_mul hx.b hx.b) hc (by decide), ?_⟩
  walk_at "st"
  refine r_idxT atI_zero ?_
  walk_at "st"
  refine ⟨cm_ok b2 hx.a (by decide), ?_⟩
  walk_at "st"
  refine r_idxT (d := .int x.d) (by rfl) ?_
  walk_at "st"
  refine ⟨cm_ok (bt_mul b2 hx.a) hx.d (by decide), ?_⟩
  walk_at "st"
  refine r_idxT (d := .int x.d) (by rfl) ?_
  walk_at "st"
  refine r_idxT (d := .int x.d) (by rfl) ?_
  walk_at "st"
  refine ⟨cm_ok hx.d hx.d (by decide), ?_⟩
  have hr0 : Bt 700 (x.a * x.a - x.b * x.b * x.c) := bt_up (bt_sub (bt_mul hx.a hx.a) (bt_mul (bt_mul hx.b hx.b) hc)) (by decide)
  have hr1 : Bt 700 (-2 * x.a * x.d) := bt_up (bt_mul (bt_mul b2 hx.a) hx.d) (by decide)
  have hr2 : Bt 700 (x.d * x.d) := bt_up (bt_mul hx.d hx.d) (by decide)
  have hd2 : 0 < x.d * x.d := Int.mul_pos hx.d0 hx.d0
  walk_at "st"
  refine r_idxL atI_zero ?_
  walk_at "st"
  refine r_idxL atI_one ?_
  walk_at "st"
  refine ⟨_, _, rfl, bt_up hr0 (by decide), bt_up hr1 (by decide), ?_⟩
  walk_at "st"
  refine r_idxL atI_two ?_
  walk_at "st"
  have hg1 : Bt 8000 (Int.gcd (x.a * x.a - x.b * x.b * x.c) (-2 * x.a * x.d) : Int) := by
    by_cases hz : -2 * x.a * x.d = 0
    · rw [hz, Int.gcd_zero_right]
      exact bt_up (bt_abs hr0) (by decide)
    · exact bt_up (gcd_bt hr1 hz) (by decide)
  refine ⟨_, _, rfl, hg1, bt_up hr2 (by decide), ?_⟩
  have hG := gcd_pos (a := (Int.gcd (x.a * x.a - x.b * x.b * x.c) (-2 * x.a * x.d) : Int)) (b := x.d * x.d) (by omega)
  have hGb := gcd_bt (a := (Int.gcd (x.a * x.a - x.b * x.b * x.c) (-2 * x.a * x.d) : Int)) hr2 (by omega)
  have hGd : (Int.gcd (Int.gcd (x.a * x.a - x.b * x.b * x.c) (-2 * x.a * x.d) : Int) (x.d * x.d) : Int) ∣ x.d * x.d := Int.gcd_dvd_right ..
  have hG0 : (Int.gcd (Int.gcd (x.a * x.a - x.b * x.b * x.c) (-2 * x.a * x.d) : Int) (x.d * x.d) : Int) ∣ (x.a * x.a - x.b * x.b * x.c) := Int.dvd_trans (Int.gcd_dvd_left ..) (Int.gcd_dvd_left ..)
  have hG1 : (Int.gcd (Int.gcd (x.a * x.a - x.b * x.b * x.c) (-2 * x.a * x.d) : Int) (x.d * x.d) : Int) ∣ (-2 * x.a * x.d) := Int.dvd_trans (Int.gcd_dvd_left ..) (Int.gcd_dvd_right ..)
  generalize (Int.gcd (Int.gcd (x.a * x.a - x.b * x.b * x.c) (-2 * x.a * x.d) : Int) (x.d * x.d) : Int) = G at hG hGb hGd hG0 hG1
  walk_at "st"
  have hrow : [D.int (x.a * x.a - x.b * x.b * x.c), D.int (-2 * x.a * x.d), D.int (x.d * x.d)] = iD (rowL x) := rfl
  rw [hrow]
  have hrb : ∀ c ∈ rowL x, Bt 700 c := by
    intro c hc
    simp only [rowL, List.mem_cons, List.not_mem_nil, or_false] at hc
    rcases hc with rfl | rfl | rfl
    · exact hr0
    · exact hr1
    · exact hr2
  refine lc_ints (fun c => c.fdiv G) (rowL x) trivial (by simp [rowL]) (fun c hc R hR => ?_) ?_
  · simp only [dwipe, List.set]
    walk_at "st"
    exact ⟨cd_ok (by omega) hGb (by decide), hR⟩
  walk_at "st"
  have key : ∀ i : Int, i = (if 0 < x.b then 2 else 1) → Q (.tup [.tup (iD ((rowL x).map fun c => c.fdiv G)), .int i]) M := by
    intro i hi
    refine h _ i ?_ ⟨by simp [rowL], ?_⟩
    · rw [hi]
      refine .quad z G _ hG ?_
      show [_, _, _] = [G * _, G * _, G * _]
      obtain ⟨u, hu⟩ := hG0
      obtain ⟨v, hv⟩ := hG1
      obtain ⟨w, hw⟩ := hGd
      rw [hu, hv, hw]
      show _ = [G * (G * u).fdiv G, G * (G * v).fdiv G, G * (G * w).fdiv G]
      rw [Int.mul_fdiv_cancel_left _ (by omega), Int.mul_fdiv_cancel_left _ (by omega), Int.mul_fdiv_cancel_left _ (by omega)]
    · intro c hc
      obtain ⟨y, hy, rfl⟩ := List.mem_map.mp hc
      exact bt_fdiv (hrb y hy)
  refine r_dif ?_
  walk_at "st"
  refine r_idxT atI_one ?_
  walk_at "st"
  refine ⟨fun z2 => ?_, fun z2 => ?_⟩
  · walk_at "st"
    exact Wq.now (key 2 (by rw [if_pos (of_decide_eq_true z2)]))
  · walk_at "st"
    exact Wq.now (key 1 (by rw [if_neg (of_decide_eq_false z2)]))
theorem sem_law_surd_shift (ds : List D) (M : Mu) (Q : DK) (E : DXK) (h : sp_law_surd_shift ds M Q E) : t_law_surd_shift (dEnd Q) (dstart 3 ds) M := by
  obtain ⟨x, q, rfl, hx, q0, hq, h⟩ := h
  have b1 : Bt 1 (1 : Int) := bt_lit 1 (by decide)
  unfold t_law_surd_shift suD
  walk_at "go"
  refine r_idxT atI_zero ?_
  walk_at "st"
  refine ⟨cm_ok hx.a hq (by decide), ?_⟩
  walk_at "st"
  refine r_idxT (d := .int x.d) (by rfl) ?_
  walk_at "st"
  refine ⟨cm_ok b1 hx.d (by decide), ?_⟩
  walk_at "st"
  refine r_idxT atI_one ?_
  walk_at "st"
  refine ⟨cm_ok hx.b hq (by decide), ?_⟩
  walk_at "st"
  refine r_idxT atI_two ?_
  walk_at "st"
  refine r_idxT (d := .int x.d) (by rfl) ?_
  walk_at "st"
  refine ⟨cm_ok hx.d hq (by decide), ?_⟩
  walk_at "st"
  refine ⟨_, _, _, _, 197, 88, rfl, bt_add1 (k := 196) (bt_up (bt_mul hx.a hq) (by decide)) (bt_up (bt_mul b1 hx.d) (by decide)), bt_up (bt_mul hx.b hq) (by decide), bt_up (bt_mul hx.d hq) (by decide), by decide, by decide, Int.mul_pos hx.d0 q0, hx.c0.1, hx.c0.2, fun y hy => Wq.now (h y (hy.up (by decide) (by decide)))⟩
theorem sem_law_wide (ds : List D) (M : Mu) (Q : DK) (E : DXK) (h : sp_law_wide ds M Q E) : t_law_wide (dEnd Q) (dstart 3 ds) M := by
  obtain ⟨a, o, k, small, great, rfl, hM, hS, s0, sg', g0, h⟩ := h
  have b2 : Bt 2 (2 : Int) := bt_lit 2 (by decide)
  have hgb : Bt 105 great := by unfold Bt; have : (2 : Int) ^ 105 = ((2 ^ 105 : Nat) : Int) := by decide +kernel
                                omega
  have hsb : Bt 105 small := by unfold Bt at *; omega
  have big : (2 : Int) * 2 ^ 105 + 1 < 2 ^ 1000 := by decide +kernel
  have vb : ∀ {r s : Int}, Bt 105 s → 0 ≤ r → r < 2 * s + 1 → Bt 106 (r - s) := fun h1 h2 h3 => by
    unfold Bt at *; rw [Nat.pow_succ]; omega
  unfold t_law_wide
  walk_at "go"
  refine r_if ?_
  walk_at "st"
  refine ⟨a, 8, o, k + 1, rfl, hM, hS, by decide, by decide, fun r o1 _ _ hS1 => ?_⟩
  walk_at "st"
  refine ⟨fun _ => ?_, fun _ => ?_⟩
  · walk_at "st"
    refine ⟨cm_ok b2 hgb (by decide), ?_⟩
    walk_at "st"
    refine ⟨a, _, o1, k, rfl, mset_same, hS1, by omega, by omega, fun r2 o2 r0 r1 hS2 => ?_⟩
    rw [mset_mset]
    walk_at "st"
    exact Wq.now (h _ o2 (vb hgb r0 r1) hS2)
  · walk_at "st"
    refine ⟨cm_ok b2 hsb (by decide), ?_⟩
    walk_at "st"
    refine ⟨a, _, o1, k, rfl, mset_same, hS1, by omega, by omega, fun r2 o2 r0 r1 hS2 => ?_⟩
    rw [mset_mset]
    walk_at "st"
    exact Wq.now (h _ o2 (vb hsb r0 r1) hS2)
theorem sem_law_drawn_surd (ds : List D) (M : Mu) (Q : DK) (E : DXK) (h : sp_law_drawn_surd ds M Q E) : t_law_drawn_surd (dEnd Q) (dstart 6 ds) M := by
  obtain ⟨a, o, k, roots, great, rfl, hM, hS, g9, g0, h⟩ := h
  unfold t_law_drawn_surd
  walk_at "go"
  refine ⟨a, 6, o, k + 5, rfl, hM, hS, by decide, by decide, fun d o1 d0 d1 hS1 => ?_⟩
  walk_at "st"
  refine ⟨a, o1, k + 3, 9, great, rfl, mset_same, hS1, by decide, g9, g0, fun v o2 hv hS2 => ?_⟩
  rw [mset_mset]
  walk_at "st"
  refine via (P := fun d' M' => ∃ (b : Int) (o' : DO), d' = .int b ∧ Bt 3 b ∧ M' = mset M a o' ∧ Src (k + 1) o') (fun Q' hQ' => ?_) ?_
  · refine r_dif ?_
    walk_at "st"
    refine ⟨a, 4, o2, k + 2, rfl, mset_same, hS2, by decide, by decide, fun r o3 _ _ hS3 => ?_⟩
    rw [mset_mset]
    walk_at "st"
    refine ⟨fun _ => ?_, fun _ => ?_⟩
    · walk_at "st"
      exact hQ' _ _ ⟨0, o3, rfl, bt_lit 3 (by decide), rfl, hS3.less (by omega)⟩
    · walk_at "st"
      refine ⟨a, 5, o3, k + 1, rfl, mset_same, hS3, by decide, by decide, fun r o4 r0 r1 hS4 => ?_⟩
      rw [mset_mset]
      obtain ⟨j, rfl⟩ := Int.eq_ofNat_of_zero_le r0
      obtain ⟨b, hb, hb3⟩ : ∃ b : Int, ([D.int 1, D.int (-1), D.int 2, D.int (-3), D.int 5] : List D)[j]? = some (.int b) ∧ Bt 3 b := by
        have hj : j < 5 := by omega
        match j, hj with
        | 0, _ => exact ⟨1, rfl, bt_lit 3 (by decide)⟩
        | 1, _ => exact ⟨-1, rfl, bt_lit 3 (by decide)⟩
        | 2, _ => exact ⟨2, rfl, bt_lit 3 (by decide)⟩
        | 3, _ => exact ⟨-3, rfl, bt_lit 3 (by decide)⟩
        | 4, _ => exact ⟨5, rfl, bt_lit 3 (by decide)⟩
      refine r_idxL (atI_nat hb) ?_
      exact hQ' _ _ ⟨b, o4, rfl, hb3, rfl, hS4⟩
  rintro _ _ ⟨b, o', rfl, hb, rfl, hS'⟩
  walk_at "st"
  refine ⟨a, 18, o', k, rfl, mset_same, hS', by decide, by decide, fun c o5 c0 c1 hS5 => ?_⟩
  rw [mset_mset]
  walk_at "st"
  have hd3 : Bt 3 (1 + d) := by unfold Bt; omega
  exact ⟨v, b, 2 + c, 1 + d, 106, 3, rfl, hv, hb, hd3, by decide, by decide, by omega, by omega, by omega, fun x hx => Wq.now (h x o5 (hx.up (by decide) (by decide)) hS5)⟩
end K64

namespace K64
open PySem PySem.Spec PyProof.Rows L2 TL DL
local macro_rules | `(tactic| walk_at "st1") => `(tactic| first
  | with_reducible refine r_sq ?_ | with_reducible refine r_nx ?_ | with_reducible refine r_rt ?_ | with_reducible refine r_rtN ?_ | with_reducible refine r_ex ?_ | with_reducible refine r_as ?_ | with_reducible refine r_bk ?_ | with_reducible refine r_ct ?_
  | ((with_reducible apply r_var); exact rfl) | with_reducible refine r_c ?_ | with_reducible refine r_op ?_ | with_reducible refine r_un ?_ | with_reducible refine r_neg ?_
  | ((with_reducible refine r_dgN rfl ?_); (try simp only [List.set]))
  | with_reducible refine r_dgSub ?_ | with_reducible refine r_dgT rfl ?_ | with_reducible refine r_dga0 ?_ | with_reducible refine r_dga1 ?_ | with_reducible refine r_auS ?_ | ((with_reducible apply r_au); exact rfl)
  | with_reducible refine r_par ?_ | ((with_reducible refine r_kPar rfl ?_); (try simp only [List.set]))
  | with_reducible refine r_addI ?_ | with_reducible refine r_addS ?_ | with_reducible refine r_addT ?_ | with_reducible refine r_addL ?_ | with_reducible refine r_subI ?_ | with_reducible refine r_mulI ?_ | with_reducible refine r_fdiv ?_ | with_reducible refine r_mod ?_ | with_reducible refine r_pow ?_ | with_reducible refine r_shl ?_
  | with_reducible refine r_eqI ?_ | with_reducible refine r_eqS ?_ | with_reducible refine r_eqB ?_ | with_reducible refine r_neI ?_ | with_reducible refine r_neS ?_ | with_reducible refine r_neB ?_ | with_reducible refine r_ltI ?_ | with_reducible refine r_gtI ?_ | with_reducible refine r_leI ?_ | with_reducible refine r_geI ?_ | with_reducible refine r_isN ?_ | with_reducible refine r_notN ?_ | with_reducible refine r_inS ?_
  | with_reducible refine r_test ?_ | with_reducible refine r_kB ?_ | with_reducible refine r_tru ?_ | with_reducible refine r_kTb ?_ | with_reducible refine r_kTi ?_ | with_reducible refine r_kTn ?_ | with_reducible refine r_kTl ?_ | with_reducible refine r_kTt ?_ | with_reducible refine r_kTs ?_ | with_reducible refine r_not ?_ | with_reducible refine r_notV ?_ | with_reducible refine r_yes ?_
  | with_reducible refine r_nil ?_ | with_reducible refine r_cons ?_ | with_reducible refine r_tup ?_ | with_reducible refine r_lst ?_ | with_reducible refine r_newF ?_ | with_reducible refine r_cb ?_
  | with_reducible refine r_lenS ?_ | with_reducible refine r_lenL ?_ | with_reducible refine r_lenT ?_ | with_reducible refine r_lenSrc ?_ | with_reducible refine r_abs ?_ | with_reducible refine r_min2 ?_ | with_reducible refine r_max2 ?_ | with_reducible refine r_intI ?_ | with_reducible refine r_str ?_ | with_reducible refine r_tupT ?_ | with_reducible refine r_tupL ?_ | with_reducible refine r_divmod ?_
  | with_reducible refine r_sl ?_ | with_reducible refine r_noP ?_ | with_reducible refine r_part ?_ | with_reducible refine r_kP ?_ | with_reducible refine r_slS ?_ | with_reducible refine r_slT ?_ | with_reducible refine r_slL ?_ | with_reducible refine r_slSrc ?_
  | with_reducible refine r_bm ?_ | with_reducible refine r_tyS ?_ | with_reducible refine r_starts ?_ | with_reducible refine r_count ?_ | with_reducible refine r_call ?_ | with_reducible refine r_for ?_ | with_reducible refine r_seq ?_ | with_reducible refine r_kIt ?_ | with_reducible refine r_kIl ?_ | with_reducible refine r_kIs ?_ | with_reducible refine r_kIsrc ?_ | with_reducible refine r_r1 ?_ | with_reducible refine r_r2 ?_ | with_reducible refine r_lc ?_
  | with_reducible refine lit0 ?_ | with_reducible refine lit1 ?_ | with_reducible refine lit2 ?_ | with_reducible refine lit3 ?_ | with_reducible refine lit4 ?_ | with_reducible refine lit5 ?_ | with_reducible refine lit6 ?_ | with_reducible refine lit7 ?_
  | with_reducible refine r_subB ?_ | with_reducible refine r_r3 ?_ | with_reducible refine r_rev ?_ | with_reducible refine r_kRv ?_
  | fail)
local macro_rules | `(tactic| walk_at "st") => `(tactic| repeat (first | walk_at "st1" | dsimp only))
local macro_rules | `(tactic| walk_at "go") => `(tactic| (simp only [dstart, dEnd, List.map_cons, List.map_nil, List.length_cons, List.length_nil, Nat.reduceAdd, Nat.reduceSub, Nat.zero_add, List.replicate, List.cons_append, List.nil_append]; walk_at "st"))

local macro_rules | `(tactic| walk_at "bt") => `(tactic| first | assumption | (refine bt_mul ?_ ?_ <;> walk_at "bt") | (refine bt_sub ?_ ?_ <;> walk_at "bt") | (refine bt_add ?_ ?_ <;> walk_at "bt") | (refine bt_neg ?_ <;> walk_at "bt") | (refine bt_abs ?_ <;> walk_at "bt") | exact bt_lit 64 (by decide +kernel))
local macro_rules | `(tactic| walk_at "cm") => `(tactic| ((refine And.intro ?_ ?_); (focus ((apply cm_ok) <;> first | decide | walk_at "bt"))))
local macro_rules | `(tactic| walk_at "sm") => `(tactic| repeat (first | walk_at "st1" | ((with_reducible apply r_idxT); exact rfl) | ((with_reducible apply r_idxL); exact rfl) | dsimp only | walk_at "cm"))

theorem upd_in {M : Mu} {a p : Addr} {o o' l : DO} (h : p ≠ a) : mset (mset (mset M a o) p l) a o' = mset (mset M a o') p l := by
  rw [mset_swap h, mset_mset]
theorem get_in {M : Mu} {a p : Addr} {o l : DO} (h : p ≠ a) : mset (mset M a o) p l a = some o := by
  rw [mset_ne (fun z => h z.symm), mset_same]
theorem pw30 : (10 : Int) ^ Int.toNat 30 = 10 ^ 30 := rfl
theorem fr_ok {p q g n m : Int} (hp : Bt 700 p) (hq : Bt 700 q) (q0 : 0 < q) (hg : 0 < g) (e1 : p = g * n) (e2 : q = g * m) : FrOk (frD n m) := by
  subst e1 e2
  exact ⟨n, m, rfl, posm hg q0, bt_quot hp hg, bt_quot hq hg⟩
theorem sem_law_k64_due (ds : List D) (M : Mu) (Q : DK) (E : DXK) (h : sp_law_k64_due ds M Q E) : t_law_k64_due (dEnd Q) (dstart 4 ds) M := by
  obtain ⟨x, y, n, m, rfl, hx, hy, hn, hm, h⟩ := h
  have hxc : Bt 64 x.c := by unfold Bt; have := hx.c0; omega
  have hyc : Bt 64 y.c := by unfold Bt; have := hy.c0; omega
  have z0 : ∀ k, Bt k (0 : Int) := fun k => bt_up (bt_lit 0 (by decide)) (Nat.zero_le k)
  have up2 : ∀ {i : Int}, Bt 200 i → Bt 700 i := fun h => bt_up h (by decide)
  have up9 : ∀ {i : Int}, Bt 90 i → Bt 700 i := fun h => bt_up h (by decide)
  unfold dueV at h
  unfold t_law_k64_due frD
  walk_at "go"
  refine r_idxT atI_zero ?_
  walk_at "st"
  refine r_idxT atI_one ?_
  walk_at "st"
  refine r_if ?_
  walk_at "st"
  refine ⟨x, qSu n m, rfl, up2 hx.a, up9 hx.b, hxc, up9 hx.d, hn, z0 _, z0 _, hm, ?_⟩
  walk_at "st"
  refine ⟨fun z => ?_, fun z => ?_⟩
  · rw [if_pos (of_decide_eq_true z)] at h
    walk_at "st"
    exact Wq.now h
  rw [if_neg (of_decide_eq_false z)] at h
  walk_at "st"
  refine r_dif ?_
  walk_at "st"
  refine ⟨qSu n m, y, rfl, hn, z0 _, z0 _, hm, up2 hy.a, up9 hy.b, hyc, up9 hy.d, ?_⟩
  walk_at "st"
  refine ⟨fun z => ?_, fun z => ?_⟩
  · rw [if_pos (of_decide_eq_true z)] at h
    walk_at "st"
    exact Wq.now h
  · rw [if_neg (of_decide_eq_false z)] at h
    walk_at "st"
    exact Wq.now h
theorem sem_law_k64_fractions (ds : List D) (M : Mu) (Q : DK) (E : DXK) (h : sp_law_k64_fractions ds M Q E) : t_law_k64_fractions (dEnd Q) (dstart 7 ds) M := by
  obtain ⟨a, o, k, x, y, rfl, hM, hS, hx, hy, h⟩ := h
  have cp : ∀ j : Int, 0 ≤ j → j ≤ 100 → CPow 10 j := fun j h1 h2 => ⟨h1, by omega, by decide⟩
  have hp30 : Bt 100 ((10 : Int) ^ 30) := bt_lit 100 (by decide +kernel)
  have hp30' : (0 : Int) < 10 ^ 30 := by decide +kernel
  unfold t_law_k64_fractions
  walk_at "go"
  refine ⟨cp 30 (by decide) (by decide), ?_⟩
  rw [pw30]
  walk_at "st"
  refine ⟨a, o, k + 18, 20, 10 ^ 30, rfl, hM, hS, by decide, by decide +kernel, by decide +kernel, fun v o1 hv hS1 => ?_⟩
  walk_at "st"
  refine ⟨a, 9, o1, k + 17, rfl, mset_same, hS1, by decide, by decide, fun r o2 r0 r1 hS2 => ?_⟩
  rw [mset_mset]
  walk_at "st"
  have hq1 : Bt 8 (1 + r) := by unfold Bt; omega
  refine ⟨v, 1 + r, rfl, by omega, bt_up hv (by decide), bt_up hq1 (by decide), fun g n m hg e1 e2 => ?_⟩
  have f1 := fr_ok (bt_up hv (by decide)) (bt_up hq1 (by decide)) (by omega) hg e1 e2
  walk_at "st"
  refine r_newT fun f hf => ?_
  have hfa : f ≠ a := fun z => by rw [z, mset_same] at hf; cases hf
  have hMf : M f = none := by rw [mset_ne hfa] at hf; exact hf
  walk_at "st"
  refine for_inv (fun xs δ M' => ∃ (qs : List D) (o : DO) (s4 s5 s6 : Option D), (∀ z ∈ xs, ∃ w, z = suD w ∧ SuOk 200 90 w) ∧ qs.length + 10 * xs.length ≤ 30 ∧ (∀ q ∈ qs, FrOk q) ∧ Src (k + 8 * xs.length) o ∧ M' = mset (mset M a o) f (.lst qs) ∧ δ = [some (.ref a), some (suD x), some (suD y), some (.ref f), s4, s5, s6]) (fun _ _ _ _ => trivial) ?_ ?_ _ _ _
    ⟨[frD n m], o2, none, none, none, ?_, by simp, ?_, hS2.less (by simp), rfl, rfl⟩
  · rintro z zs δ M' N ⟨qs, o, s4, s5, s6, hxs, hl, hqs, hS, rfl, rfl⟩ hN
    rw [List.length_cons] at hl hS
    obtain ⟨w, rfl, hw⟩ := hxs z (List.mem_cons_self ..)
    walk_at "st"
    refine ⟨cp 6 (by decide) (by decide), ?_⟩
    walk_at "st"
    refine ⟨cp 30 (by decide) (by decide), ?_⟩
    walk_at "st"
    refine ⟨a, _, o, k + 8 * zs.length + 7, rfl, get_in hfa, hS.less (by omega), by simp, by simp, fun s o1 hs hS1 => ?_⟩
    rw [upd_in hfa]
    obtain ⟨sc, rfl, sc0, scb⟩ : ∃ sc : Int, s = .int sc ∧ 0 < sc ∧ Bt 100 sc := by
      simp only [List.mem_cons, List.not_mem_nil, or_false] at hs
      rcases hs with rfl | rfl | rfl | rfl | rfl
      · exact ⟨_, rfl, by decide, bt_lit 100 (by decide +kernel)⟩
      · exact ⟨_, rfl, by decide, bt_lit 100 (by decide +kernel)⟩
      · exact ⟨_, rfl, by decide, bt_lit 100 (by decide +kernel)⟩
      · exact ⟨_, rfl, by decide +kernel, bt_lit 100 (by decide +kernel)⟩
      · exact ⟨_, rfl, by decide +kernel, bt_lit 100 (by decide +kernel)⟩
    walk_at "st"
    refine ⟨w, sc, rfl, hw, sc0, bt_up scb (by decide), fun fl hfl => ?_⟩
    have hfl1 : Bt 601 (fl + 1) := bt_add1 hfl (bt_lit 600 (by decide +kernel))
    walk_at "st"
    refine r_tyR mset_same ?_
    walk_at "st"
    refine ⟨fl, sc, rfl, sc0, bt_up hfl (by decide), bt_up scb (by decide), fun g n m hg e1 e2 => ?_⟩
    have f2 := fr_ok (bt_up hfl (by decide)) (bt_up scb (by decide)) sc0 hg e1 e2
    walk_at "st"
    refine r_append mset_same (szlt (by omega)) ?_
    rw [mset_mset]
    walk_at "st"
    refine r_tyR mset_same ?_
    walk_at "st"
    refine ⟨fl + 1, sc, rfl, sc0, bt_up hfl1 (by decide), bt_up scb (by decide), fun g n' m' hg e1 e2 => ?_⟩
    have f3 := fr_ok (bt_up hfl1 (by decide)) (bt_up scb (by decide)) sc0 hg e1 e2
    walk_at "st"
    refine r_append mset_same (szlt (by simp; omega)) ?_
    rw [mset_mset]
    have hqs2 : ∀ q ∈ qs ++ [frD n m] ++ [frD n' m'], FrOk q := by
      intro q hq
      rcases List.mem_append.mp hq with hq | hq
      · rcases List.mem_append.mp hq with hq | hq
        · exact hqs q hq
        · rw [List.mem_singleton.mp hq]; exact f2
      · rw [List.mem_singleton.mp hq]; exact f3
    have hl2 : (qs ++ [frD n m] ++ [frD n' m']).length = qs.length + 2 := by simp
    generalize qs ++ [frD n m] ++ [frD n' m'] = qs2 at hqs2 hl2 ⊢
    walk_at "st"
    refine r_if ?_
    walk_at "st"
    refine r_idxT (d := .int w.b) (by rfl) ?_
    walk_at "st"
    refine ⟨fun _ => ?_, fun _ => ?_⟩
    · walk_at "st"
      refine r_tyR mset_same ?_
      walk_at "st"
      refine r_idxT (d := .int w.a) (by rfl) ?_
      walk_at "st"
      refine r_idxT (d := .int w.d) (by rfl) ?_
      walk_at "st"
      refine ⟨_, _, rfl, hw.d0, bt_up hw.a (by decide), bt_up hw.d (by decide), fun g n m hg e1 e2 => ?_⟩
      have f4 := fr_ok (bt_up hw.a (by decide)) (bt_up hw.d (by decide)) hw.d0 hg e1 e2
      walk_at "st"
      refine r_append mset_same (szlt (by omega)) ?_
      rw [mset_mset]
      walk_at "st"
      refine r_tyR mset_same ?_
      walk_at "st"
      refine r_idxT (d := .int w.a) (by rfl) ?_
      walk_at "st"
      refine ⟨cp 30 (by decide) (by decide), ?_⟩
      walk_at "st"
      rw [pw30]
      refine ⟨cm_ok hw.a hp30 (by decide), ?_⟩
      walk_at "st"
      refine ⟨a, 2, o1, k + 8 * zs.length + 6, rfl, get_in hfa, hS1.less (by omega), by decide, by decide, fun r o3 r0 r1 hS3 => ?_⟩
      rw [upd_in hfa]
      have hrb : Bt 2 r := by unfold Bt; omega
      have hb2 : Bt 2 (2 : Int) := bt_lit 2 (by decide)
      walk_at "st"
      refine ⟨cm_ok hb2 hrb (by decide), ?_⟩
      walk_at "st"
      refine r_idxT (d := .int w.d) (by rfl) ?_
      walk_at "st"
      refine ⟨cp 30 (by decide) (by decide), ?_⟩
      walk_at "st"
      rw [pw30]
      refine ⟨cm_ok hw.d hp30 (by decide), ?_⟩
      walk_at "st"
      have hP : Bt 700 (w.a * 10 ^ 30 + 1 - 2 * r) := bt_up (bt_sub (bt_add (bt_mul hw.a hp30) (bt_lit 1 (by decide))) (bt_mul hb2 hrb)) (by decide)
      have hQ : Bt 700 (w.d * 10 ^ 30) := bt_up (bt_mul hw.d hp30) (by decide)
      have hQ0 : 0 < w.d * 10 ^ 30 := Int.mul_pos hw.d0 hp30'
      refine ⟨_, _, rfl, hQ0, bt_up hP (by decide), bt_up hQ (by decide), fun g n' m' hg e1 e2 => ?_⟩
      have f5 := fr_ok hP hQ hQ0 hg e1 e2
      walk_at "st"
      refine r_append mset_same (szlt (by simp; omega)) ?_
      rw [mset_mset]
      refine hN _ _ ⟨qs2 ++ [frD n m] ++ [frD n' m'], o3, _, _, _, fun z hz => hxs z (List.mem_cons_of_mem _ hz), by simp; omega, ?_, hS3.less (by omega), rfl, rfl⟩
      intro q hq
      rcases List.mem_append.mp hq with hq | hq
      · rcases List.mem_append.mp hq with hq | hq
        · exact hqs2 q hq
        · rw [List.mem_singleton.mp hq]; exact f4
      · rw [List.mem_singleton.mp hq]; exact f5
    · walk_at "st"
      exact hN _ _ ⟨qs2, o1, _, _, _, fun z hz => hxs z (List.mem_cons_of_mem _ hz), by omega, hqs2, hS1.less (by omega), rfl, rfl⟩
  · rintro δ M' ⟨qs, o, s4, s5, s6, hxs, hl, hqs, hS, rfl, rfl⟩
    walk_at "st"
    exact Wq.frz mset_same (sub_new (by rw [mset_ne hfa]; exact hMf)) (by rw [mset_ne hfa]; exact hMf) (h qs o hqs (hS.less (by omega)))
  · intro z hz
    simp only [List.mem_cons, List.not_mem_nil, or_false] at hz
    rcases hz with rfl | rfl
    · exact ⟨x, rfl, hx⟩
    · exact ⟨y, rfl, hy⟩
  · intro q hq
    rw [List.mem_singleton.mp hq]
    exact f1
/-! the cube -/
theorem cube_ne {n q0 q1 : Int} (hq1 : q1 ≠ 0) (hn : ∀ k : Int, k * k * k ≠ n) : q0 * q0 * q0 ≠ n * q1 * q1 * q1 := by
  intro h
  have h1 : q1 * q1 * q1 ∣ q0 * q0 * q0 := ⟨n, by rw [h]; grind⟩
  have h2 : (q1 * q1 * q1).natAbs ∣ (q0 * q0 * q0).natAbs := Int.natAbs_dvd_natAbs.mpr h1
  rw [Int.natAbs_mul, Int.natAbs_mul, Int.natAbs_mul, Int.natAbs_mul] at h2
  have e : ∀ z : Nat, z * z * z = z ^ 3 := fun z => by rw [Nat.pow_succ, Nat.pow_two]
  rw [e, e] at h2
  have h3 : q1.natAbs ∣ q0.natAbs := (Nat.pow_dvd_pow_iff (by decide)).mp h2
  obtain ⟨k, rfl⟩ := Int.natAbs_dvd_natAbs.mp h3
  have h4 : q1 * q1 * q1 * (k * k * k) = q1 * q1 * q1 * n := by grind
  exact hn k (Int.eq_of_mul_eq_mul_left (Int.mul_ne_zero (Int.mul_ne_zero hq1 hq1) hq1) h4)
theorem no_cube {n : Int} (hn : n ∈ ([2, 3, 5, 6, 7, 9, 10] : List Int)) : ∀ k : Int, k * k * k ≠ n := by
  intro k h
  have hk : k ≤ 2 ∨ 3 ≤ k := by omega
  have hn2 : 2 ≤ n ∧ n ≤ 10 := by
    simp only [List.mem_cons, List.not_mem_nil, or_false] at hn
    omega
  rcases hk with hk | hk
  · rcases Int.lt_or_le k 1 with h1 | h1
    · have h2 : 0 ≤ k * k := by
        have := Int.mul_nonneg_of_nonpos_of_nonpos (show k ≤ 0 by omega) (show k ≤ 0 by omega)
        exact this
      have h3 : k * k * k ≤ 0 := Int.mul_nonpos_of_nonneg_of_nonpos h2 (by omega)
      omega
    · have : k = 1 ∨ k = 2 := by omega
      rcases this with rfl | rfl
      · omega
      · simp only [List.mem_cons, List.not_mem_nil, or_false] at hn
        omega
  · have h2 : 3 * 3 ≤ k * k := Int.mul_le_mul hk hk (by decide) (by omega)
    have h3 : 3 * 3 * 3 ≤ k * k * k := Int.mul_le_mul h2 hk (by decide) (by omega)
    omega
theorem hom4 (n a b : Int) : hom [-n, 0, 0, 1] a b = a * a * a - n * b * b * b := by
  show (((0 * a + 1 * 1) * a + 0 * (1 * b)) * a + 0 * (1 * b * b)) * a + -n * (1 * b * b * b) = _
  grind
theorem hom033 (a b : Int) : hom [0, 0, 3] a b = 3 * (a * a) := by
  show ((0 * a + 3 * 1) * a + 0 * (1 * b)) * a + 0 * (1 * b * b) = _
  grind
theorem rootsC (n a b : Int) : rootsV [-n, 0, 0, 1] a b = if a * a * a - n * b * b * b < 0 then 0 else 1 := by
  show 1 - chg [sg (hom [-n, 0, 0, 1] a b), sg (hom [0, 0, 3] a b), 1] = _
  rw [hom4, hom033]
  have h0 : 0 ≤ a * a := by
    rcases Int.le_total 0 a with h1 | h1
    · exact Int.mul_nonneg h1 h1
    · exact Int.mul_nonneg_of_nonpos_of_nonpos h1 h1
  generalize a * a * a - n * b * b * b = C
  rcases tri (3 * (a * a)) with ⟨h1, h2⟩ | ⟨h1, h2⟩ | ⟨h1, h2⟩
  · rcases tri C with ⟨h3, h4⟩ | ⟨h3, h4⟩ | ⟨h3, h4⟩
    · rw [h2, h4, if_neg (by omega)]; rfl
    · rw [h2, h4, if_neg (by omega)]; rfl
    · rw [h2, h4, if_pos h3]; rfl
  · rcases tri C with ⟨h3, h4⟩ | ⟨h3, h4⟩ | ⟨h3, h4⟩
    · rw [h2, h4, if_neg (by omega)]; rfl
    · rw [h2, h4, if_neg (by omega)]; rfl
    · rw [h2, h4, if_pos h3]; rfl
  · omega
theorem rootsL (c0 c1 a b : Int) : rootsV [c0, c1] a b = if c1 * a + c0 * b < 0 then 0 else 1 := by
  show 1 - chg [sg (hom [c0, c1] a b), 1] = _
  rw [hom2]
  rcases tri (c1 * a + c0 * b) with ⟨h3, h4⟩ | ⟨h3, h4⟩ | ⟨h3, h4⟩
  · rw [h4, if_neg (by omega)]; rfl
  · rw [h4, if_neg (by omega)]; rfl
  · rw [h4, if_pos h3]; rfl
end K64

namespace K64
open PySem PySem.Spec PyProof.Rows L2 TL DL
local macro_rules | `(tactic| walk_at "st1") => `(tactic| first
  | with_reducible refine r_sq ?_ | with_reducible refine r_nx ?_ | with_reducible refine r_rt ?_ | with_reducible refine r_rtN ?_ | with_reducible refine r_ex ?_ | with_reducible refine r_as ?_ | with_reducible refine r_bk ?_ | with_reducible refine r_ct ?_
  | ((with_reducible apply r_var); exact rfl) | with_reducible refine r_c ?_ | with_reducible refine r_op ?_ | with_reducible refine r_un ?_ | with_reducible refine r_neg ?_
  | ((with_reducible refine r_dgN rfl ?_); (try simp only [List.set]))
  | with_reducible refine r_dgSub ?_ | with_reducible refine r_dgT rfl ?_ | with_reducible refine r_dga0 ?_ | with_reducible refine r_dga1 ?_ | with_reducible refine r_auS ?_ | ((with_reducible apply r_au); exact rfl)
  | with_reducible refine r_par ?_ | ((with_reducible refine r_kPar rfl ?_); (try simp only [List.set]))
  | with_reducible refine r_addI ?_ | with_reducible refine r_addS ?_ | with_reducible refine r_addT ?_ | with_reducible refine r_addL ?_ | with_reducible refine r_subI ?_ | with_reducible refine r_mulI ?_ | with_reducible refine r_fdiv ?_ | with_reducible refine r_mod ?_ | with_reducible refine r_pow ?_ | with_reducible refine r_shl ?_
  | with_reducible refine r_eqI ?_ | with_reducible refine r_eqS ?_ | with_reducible refine r_eqB ?_ | with_reducible refine r_neI ?_ | with_reducible refine r_neS ?_ | with_reducible refine r_neB ?_ | with_reducible refine r_ltI ?_ | with_reducible refine r_gtI ?_ | with_reducible refine r_leI ?_ | with_reducible refine r_geI ?_ | with_reducible refine r_isN ?_ | with_reducible refine r_notN ?_ | with_reducible refine r_inS ?_
  | with_reducible refine r_test ?_ | with_reducible refine r_kB ?_ | with_reducible refine r_tru ?_ | with_reducible refine r_kTb ?_ | with_reducible refine r_kTi ?_ | with_reducible refine r_kTn ?_ | with_reducible refine r_kTl ?_ | with_reducible refine r_kTt ?_ | with_reducible refine r_kTs ?_ | with_reducible refine r_not ?_ | with_reducible refine r_notV ?_ | with_reducible refine r_yes ?_
  | with_reducible refine r_nil ?_ | with_reducible refine r_cons ?_ | with_reducible refine r_tup ?_ | with_reducible refine r_lst ?_ | with_reducible refine r_newF ?_ | with_reducible refine r_cb ?_
  | with_reducible refine r_lenS ?_ | with_reducible refine r_lenL ?_ | with_reducible refine r_lenT ?_ | with_reducible refine r_lenSrc ?_ | with_reducible refine r_abs ?_ | with_reducible refine r_min2 ?_ | with_reducible refine r_max2 ?_ | with_reducible refine r_intI ?_ | with_reducible refine r_str ?_ | with_reducible refine r_tupT ?_ | with_reducible refine r_tupL ?_ | with_reducible refine r_divmod ?_
  | with_reducible refine r_sl ?_ | with_reducible refine r_noP ?_ | with_reducible refine r_part ?_ | with_reducible refine r_kP ?_ | with_reducible refine r_slS ?_ | with_reducible refine r_slT ?_ | with_reducible refine r_slL ?_ | with_reducible refine r_slSrc ?_
  | with_reducible refine r_bm ?_ | with_reducible refine r_tyS ?_ | with_reducible refine r_starts ?_ | with_reducible refine r_count ?_ | with_reducible refine r_call ?_ | with_reducible refine r_for ?_ | with_reducible refine r_seq ?_ | with_reducible refine r_kIt ?_ | with_reducible refine r_kIl ?_ | with_reducible refine r_kIs ?_ | with_reducible refine r_kIsrc ?_ | with_reducible refine r_r1 ?_ | with_reducible refine r_r2 ?_ | with_reducible refine r_lc ?_
  | with_reducible refine lit0 ?_ | with_reducible refine lit1 ?_ | with_reducible refine lit2 ?_ | with_reducible refine lit3 ?_ | with_reducible refine lit4 ?_ | with_reducible refine lit5 ?_ | with_reducible refine lit6 ?_ | with_reducible refine lit7 ?_
  | with_reducible refine r_subB ?_ | with_reducible refine r_r3 ?_ | with_reducible refine r_rev ?_ | with_reducible refine r_kRv ?_
  | fail)
local macro_rules | `(tactic| walk_at "st") => `(tactic| repeat (first | walk_at "st1" | dsimp only))
local macro_rules | `(tactic| walk_at "go") => `(tactic| (simp only [dstart, dEnd, List.map_cons, List.map_nil, List.length_cons, List.length_nil, Nat.reduceAdd, Nat.reduceSub, Nat.zero_add, List.replicate, List.cons_append, List.nil_append]; walk_at "st"))

local macro_rules | `(tactic| walk_at "bt") => `(tactic| first | assumption | (refine bt_mul ?_ ?_ <;> walk_at "bt") | (refine bt_sub ?_ ?_ <;> walk_at "bt") | (refine bt_add ?_ ?_ <;> walk_at "bt") | (refine bt_neg ?_ <;> walk_at "bt") | (refine bt_abs ?_ <;> walk_at "bt") | exact bt_lit 64 (by decide +kernel))
local macro_rules | `(tactic| walk_at "cm") => `(tactic| ((refine And.intro ?_ ?_); (focus ((apply cm_ok) <;> first | decide | walk_at "bt"))))
local macro_rules | `(tactic| walk_at "sm") => `(tactic| repeat (first | walk_at "st1" | ((with_reducible apply r_idxT); exact rfl) | ((with_reducible apply r_idxL); exact rfl) | dsimp only | walk_at "cm"))

theorem judge1 {n a b : Int} (hC : a * a * a - n * b * b * b ≠ 0) : judgeV [-n, 0, 0, 1] 1 [-n, 1] 1 a b = if a * a * a < n * b * b * b then .str lowW else if n * b ≤ a then .str highW else .non := by
  unfold judgeV
  rw [rootsC, rootsL, hom4]
  have hs : ¬ sg (a * a * a - n * b * b * b) = 0 := fun hz => by
    rcases tri (a * a * a - n * b * b * b) with ⟨h1, h2⟩ | ⟨h1, h2⟩ | ⟨h1, h2⟩ <;> omega
  rw [if_neg hs]
  have e1 : 1 * a + -n * b = a - n * b := by grind
  rw [e1]
  by_cases h1 : a * a * a < n * b * b * b
  · rw [if_pos h1, if_pos (show a * a * a - n * b * b * b < 0 by omega), if_pos (by decide)]
  · rw [if_neg h1, if_neg (show ¬ a * a * a - n * b * b * b < 0 by omega), if_neg (by decide)]
    by_cases h2 : n * b ≤ a
    · rw [if_pos h2, if_neg (show ¬ a - n * b < 0 by omega), if_pos (by decide)]
    · rw [if_neg h2, if_pos (show a - n * b < 0 by omega), if_neg (by decide)]
theorem judge2 (n a b : Int) : judgeV [0, 1] 1 [-n, 0, 0, 1] 1 a b = if a ≤ 0 then .str lowW else if a * a * a < n * b * b * b then .non else .str highW := by
  unfold judgeV
  rw [rootsC, rootsL, hom2]
  have e1 : 1 * a + 0 * b = a := by grind
  rw [e1]
  by_cases h1 : a ≤ 0
  · rw [if_pos h1]
    rcases tri a with ⟨h3, h4⟩ | ⟨h3, h4⟩ | ⟨h3, h4⟩
    · omega
    · rw [if_pos h4, if_neg (show ¬ a < 0 by omega), if_pos (by decide)]
    · rw [if_neg (show ¬ sg a = 0 by rw [h4]; decide), if_pos h3, if_pos (by decide)]
  · rw [if_neg h1]
    rcases tri a with ⟨h3, h4⟩ | ⟨h3, h4⟩ | ⟨h3, h4⟩
    · rw [if_neg (show ¬ sg a = 0 by rw [h4]; decide), if_neg (show ¬ a < 0 by omega), if_neg (by decide)]
      by_cases h2 : a * a * a < n * b * b * b
      · rw [if_pos h2, if_pos (show a * a * a - n * b * b * b < 0 by omega), if_neg (by decide)]
      · rw [if_neg h2, if_neg (show ¬ a * a * a - n * b * b * b < 0 by omega), if_pos (by decide)]
    · omega
    · omega
theorem pl_word (d : D) (h : d = .str lowW ∨ d = .str highW ∨ d = .non) : Pl 8 d := by
  rcases h with rfl | rfl | rfl <;> exact True.intro
theorem same_self {M : Mu} {d : D} {Q : DK} {E : DXK} (hd : d = .str lowW ∨ d = .str highW ∨ d = .non) (h : Q (.bl true) M) : sp_law_same [d, d] M Q E := same_of d (.inl rfl) (.inl rfl) (pl_word d hd) h
theorem sem_law_k64_cube (ds : List D) (M : Mu) (Q : DK) (E : DXK) (h : sp_law_k64_cube ds M Q E) : t_law_k64_cube (dEnd Q) (dstart 9 ds) M := by
  obtain ⟨a, o, k, rfl, hM, hS, h⟩ := h
  unfold t_law_k64_cube
  walk_at "go"
  refine ⟨a, _, o, k + 9, rfl, hM, hS, by simp, by simp, fun x o1 hx hS1 => ?_⟩
  obtain ⟨n, rfl, hn⟩ : ∃ n : Int, x = .int n ∧ n ∈ ([2, 3, 5, 6, 7, 9, 10] : List Int) := by
    simp only [List.mem_cons, List.not_mem_nil, or_false] at hx
    rcases hx with rfl | rfl | rfl | rfl | rfl | rfl | rfl <;> exact ⟨_, rfl, by decide⟩
  have hn2 : 2 ≤ n ∧ n ≤ 10 := by
    simp only [List.mem_cons, List.not_mem_nil, or_false] at hn
    omega
  have hnc := no_cube hn
  have hnb : Bt 4 n := by unfold Bt; omega
  have hB1 : B4 [-n, 0, 0, 1] := ⟨by simp, fun c hc => by
    simp only [List.mem_cons, List.not_mem_nil, or_false] at hc
    rcases hc with rfl | rfl | rfl | rfl
    · exact bt_up (bt_neg hnb) (by decide)
    · exact bt_up (bt_lit 0 (by decide)) (by decide)
    · exact bt_up (bt_lit 0 (by decide)) (by decide)
    · exact bt_up (bt_lit 1 (by decide)) (by decide)⟩
  have hB2 : B4 [-n, 1] := ⟨by simp, fun c hc => by
    simp only [List.mem_cons, List.not_mem_nil, or_false] at hc
    rcases hc with rfl | rfl
    · exact bt_up (bt_neg hnb) (by decide)
    · exact bt_up (bt_lit 1 (by decide)) (by decide)⟩
  have hB3 : B4 [0, 1] := ⟨by simp, fun c hc => by
    simp only [List.mem_cons, List.not_mem_nil, or_false] at hc
    rcases hc with rfl | rfl
    · exact bt_up (bt_lit 0 (by decide)) (by decide)
    · exact bt_up (bt_lit 1 (by decide)) (by decide)⟩
  have hS1' : Sh [-n, 0, 0, 1] := .cub (by omega)
  have hS2' : Sh [-n, 1] := .lin (by decide)
  have hS3' : Sh [0, 1] := .lin (by decide)
  walk_at "st"
  rw [Int.zero_sub]
  refine r_kR1 (by decide) (by decide) ?_
  refine for_inv (fun xs δ M' => ∃ (o : DO) (s4 s5 s6 s7 s8 : Option D), xs.length ≤ 3 ∧ Src (k + 3 * xs.length) o ∧ M' = mset M a o ∧ δ = [some (.ref a), some (.int n), some (.tup [.tup (iD [-n, 0, 0, 1]), .int 1]), some (.tup [.tup (iD [-n, 1]), .int 1]), s4, s5, s6, s7, s8]) (fun _ _ _ _ => trivial) ?_ ?_ _ _ _
    ⟨o1, none, none, none, none, none, by rw [rngD_len]; decide, hS1.less (by rw [rngD_len]; show k + 3 * 3 ≤ k + 9; omega), rfl, rfl⟩
  · rintro x xs δ M' N ⟨o, s4, s5, s6, s7, s8, hl, hS, rfl, rfl⟩ hN
    rw [List.length_cons] at hl hS
    walk_at "st"
    refine ⟨a, 4000, o, k + 3 * xs.length + 2, rfl, mset_same, hS.less (by omega), by decide, by decide, fun p o1 p0 p1 hS1 => ?_⟩
    rw [mset_mset]
    walk_at "st"
    refine ⟨a, 1000, o1, k + 3 * xs.length + 1, rfl, mset_same, hS1, by decide, by decide, fun r o2 r0 r1 hS2 => ?_⟩
    rw [mset_mset]
    walk_at "st"
    have hpb : Bt 12 p := by unfold Bt; omega
    have hrb : Bt 12 (1 + r) := by unfold Bt; omega
    refine ⟨p, 1 + r, rfl, by omega, bt_up hpb (by decide), bt_up hrb (by decide), fun g q0 q1 hg e1 e2 => ?_⟩
    have hq1 : 0 < q1 := posm hg (by rw [← e2]; omega)
    have b0 : Bt 12 q0 := bt_quot (by rw [← e1]; exact hpb) hg
    have b1 : Bt 12 q1 := bt_quot (by rw [← e2]; exact hrb) hg
    have hC : q0 * q0 * q0 - n * q1 * q1 * q1 ≠ 0 := by
      have := cube_ne (q0 := q0) (show q1 ≠ 0 by omega) hnc
      omega
    unfold frD
    walk_at "st"
    refine r_idxT atI_zero ?_
    walk_at "st"
    refine r_idxT atI_zero ?_
    walk_at "st"
    refine ⟨cm_ok b0 b0 (by decide), ?_⟩
    walk_at "st"
    refine r_idxT atI_zero ?_
    walk_at "st"
    refine ⟨cm_ok (bt_mul b0 b0) b0 (by decide), ?_⟩
    walk_at "st"
    refine r_idxT atI_one ?_
    walk_at "st"
    refine ⟨cm_ok hnb b1 (by decide), ?_⟩
    walk_at "st"
    refine r_idxT atI_one ?_
    walk_at "st"
    refine ⟨cm_ok (bt_mul hnb b1) b1 (by decide), ?_⟩
    walk_at "st"
    refine r_idxT atI_one ?_
    walk_at "st"
    refine ⟨cm_ok (bt_mul (bt_mul hnb b1) b1) b1 (by decide), ?_⟩
    walk_at "st"
    have hj1 := judge1 hC
    have hj2 := judge2 n q0 q1
    obtain ⟨due, hdue⟩ : ∃ d : D, d = if q0 * q0 * q0 < n * q1 * q1 * q1 then .str lowW else if n * q1 ≤ q0 then .str highW else .non := ⟨_, rfl⟩
    obtain ⟨zero, hzero⟩ : ∃ d : D, d = if q0 ≤ 0 then .str lowW else if q0 * q0 * q0 < n * q1 * q1 * q1 then .non else .str highW := ⟨_, rfl⟩
    have hdw : due = .str lowW ∨ due = .str highW ∨ due = .non := by
      rw [hdue]; split
      · exact .inl rfl
      · split
        · exact .inr (.inl rfl)
        · exact .inr (.inr rfl)
    have hzw : zero = .str lowW ∨ zero = .str highW ∨ zero = .non := by
      rw [hzero]; split
      · exact .inl rfl
      · split
        · exact .inr (.inr rfl)
        · exact .inr (.inl rfl)
    rw [← hdue] at hj1
    rw [← hzero] at hj2
    refine via (P := fun d M' => d = due ∧ mset M a o2 = M') (fun Q' hQ' => ?_) ?_
    · refine r_dif ?_
      walk_at "st"
      refine ⟨fun z => ?_, fun z => ?_⟩
      · rw [if_pos (of_decide_eq_true z)] at hdue
        walk_at "st"
        exact hQ' _ _ ⟨hdue.symm, rfl⟩
      · rw [if_neg (of_decide_eq_false z)] at hdue
        refine r_dif ?_
        walk_at "st"
        refine r_idxT atI_zero ?_
        walk_at "st"
        refine r_idxT atI_one ?_
        walk_at "st"
        refine ⟨cm_ok hnb b1 (by decide), ?_⟩
        walk_at "st"
        refine ⟨fun z => ?_, fun z => ?_⟩
        · rw [if_pos (of_decide_eq_true z)] at hdue
          walk_at "st"
          exact hQ' _ _ ⟨hdue.symm, rfl⟩
        · rw [if_neg (of_decide_eq_false z)] at hdue
          walk_at "st"
          exact hQ' _ _ ⟨hdue.symm, rfl⟩
    rintro _ _ ⟨rfl, rfl⟩
    walk_at "st"
    refine r_if ?_
    walk_at "st"
    refine ⟨[-n, 0, 0, 1], [-n, 1], 1, 1, q0, q1, rfl, hS1', hB1, hS2', hB2, bt_up b0 (by decide), bt_up b1 (by decide), ?_⟩
    rw [hj1]
    walk_at "st"
    refine same_self hdw ?_
    walk_at "st"
    refine ⟨fun z => Bool.noConfusion z, fun _ => ?_⟩
    walk_at "st"
    refine via (P := fun d M' => d = zero ∧ mset M a o2 = M') (fun Q' hQ' => ?_) ?_
    · refine r_dif ?_
      walk_at "st"
      refine r_idxT atI_zero ?_
      walk_at "st"
      refine ⟨fun z => ?_, fun z => ?_⟩
      · rw [if_pos (of_decide_eq_true z)] at hzero
        walk_at "st"
        exact hQ' _ _ ⟨hzero.symm, rfl⟩
      · rw [if_neg (of_decide_eq_false z)] at hzero
        refine r_dif ?_
        walk_at "st"
        refine ⟨fun z => ?_, fun z => ?_⟩
        · rw [if_pos (of_decide_eq_true z)] at hzero
          walk_at "st"
          exact hQ' _ _ ⟨hzero.symm, rfl⟩
        · rw [if_neg (of_decide_eq_false z)] at hzero
          walk_at "st"
          exact hQ' _ _ ⟨hzero.symm, rfl⟩
    rintro _ _ ⟨rfl, rfl⟩
    walk_at "st"
    refine r_if ?_
    walk_at "st"
    refine ⟨[0, 1], [-n, 0, 0, 1], 1, 1, q0, q1, rfl, hS3', hB3, hS1', hB1, bt_up b0 (by decide), bt_up b1 (by decide), ?_⟩
    rw [hj2]
    walk_at "st"
    refine same_self hzw ?_
    walk_at "st"
    refine ⟨fun z => Bool.noConfusion z, fun _ => ?_⟩
    walk_at "st"
    exact hN _ _ ⟨o2, _, _, _, _, _, by omega, hS2.less (by omega), rfl, rfl⟩
  · rintro δ M' ⟨o, s4, s5, s6, s7, s8, hl, hS, rfl, rfl⟩
    walk_at "st"
    exact Wq.now (h o (hS.less (by omega)))
theorem due_word (x y : Su) (n m : Int) : dueV x y n m = .str lowW ∨ dueV x y n m = .str highW ∨ dueV x y n m = .non := by
  unfold dueV
  split
  · exact .inl rfl
  · split
    · exact .inr (.inl rfl)
    · exact .inr (.inr rfl)
theorem sem_law (ds : List D) (M : Mu) (Q : DK) (E : DXK) (h : sp_law ds M Q E) : t_law (dEnd Q) (dstart 8 ds) M := by
  obtain ⟨ns, rfl, h⟩ := h
  have cp : ∀ j : Int, 0 ≤ j → j ≤ 100 → CPow 10 j := fun j h1 h2 => ⟨h1, by omega, by decide⟩
  have g9 : (9 : Int) ≤ 10 ^ 30 := by decide +kernel
  have g105 : (10 : Int) ^ 30 < 2 ^ 105 := by decide +kernel
  have z0 : ∀ k, Bt k (0 : Int) := fun k => bt_up (bt_lit 0 (by decide)) (Nat.zero_le k)
  unfold t_law
  walk_at "go"
  refine ⟨ns, 0, rfl, by decide, by decide, fun p o hp hS => ?_⟩
  walk_at "st"
  refine ⟨cp 30 (by decide) (by decide), ?_⟩
  rw [pw30]
  walk_at "st"
  refine ⟨p, o, 2 ^ 58, 2, 10 ^ 30, rfl, mset_same, hS.less (by decide), g9, g105, fun one o1 hone hS1 => ?_⟩
  rw [mset_mset]
  walk_at "st"
  refine ⟨p, 4, o1, 2 ^ 58 - 1, rfl, mset_same, hS1.less (by decide), by decide, by decide, fun sort o2 _ _ hS2 => ?_⟩
  rw [mset_mset]
  walk_at "st"
  refine via (P := fun d M' => ∃ (two : Su) (o' : DO), d = suD two ∧ SuOk 200 90 two ∧ M' = mset M p o' ∧ Src (2 ^ 57) o') (fun Q' hQ' => ?_) ?_
  · refine r_dif ?_
    walk_at "st"
    refine ⟨fun _ => ?_, fun _ => ?_⟩
    · walk_at "st"
      refine ⟨cp 9 (by decide) (by decide), ?_⟩
      walk_at "st"
      refine ⟨cp 25 (by decide) (by decide), ?_⟩
      walk_at "st"
      refine ⟨p, _, o2, 2 ^ 57, rfl, mset_same, hS2.less (by decide), by simp, by simp, fun x o3 hx hS3 => ?_⟩
      rw [mset_mset]
      obtain ⟨sc, rfl, sc0, scb⟩ : ∃ sc : Int, x = .int sc ∧ 0 < sc ∧ Bt 84 sc := by
        simp only [List.mem_cons, List.not_mem_nil, or_false] at hx
        rcases hx with rfl | rfl | rfl | rfl
        · exact ⟨_, rfl, by decide, bt_lit 84 (by decide +kernel)⟩
        · exact ⟨_, rfl, by decide, bt_lit 84 (by decide +kernel)⟩
        · exact ⟨_, rfl, by decide +kernel, bt_lit 84 (by decide +kernel)⟩
        · exact ⟨_, rfl, by decide +kernel, bt_lit 84 (by decide +kernel)⟩
      walk_at "st"
      exact ⟨one, sc, rfl, hone, sc0, scb, fun y hy => hQ' _ _ ⟨y, o3, rfl, hy, rfl, hS3⟩⟩
    · refine r_dif ?_
      walk_at "st"
      refine ⟨fun _ => ?_, fun _ => ?_⟩
      · walk_at "st"
        exact hQ' _ _ ⟨one, o2, rfl, hone.up (by decide) (by decide), rfl, hS2.less (by decide)⟩
      · walk_at "st"
        refine ⟨cp 30 (by decide) (by decide), ?_⟩
        rw [pw30]
        walk_at "st"
        refine ⟨p, o2, 2 ^ 57, 1, 10 ^ 30, rfl, mset_same, hS2.less (by decide), g9, g105, fun two o3 htwo hS3 => ?_⟩
        rw [mset_mset]
        exact hQ' _ _ ⟨two, o3, rfl, htwo.up (by decide) (by decide), rfl, hS3⟩
  rintro _ _ ⟨two, o3, rfl, htwo, rfl, hS3⟩
  have hone2 : SuOk 200 90 one := hone.up (by decide) (by decide)
  have cc : ∀ {x : Su}, SuOk 200 90 x → Bt 64 x.c := fun hx => by unfold Bt; have := hx.c0; omega
  walk_at "st"
  refine viaS (P := fun δ' M' => ∃ (x y : Su) (o' : DO), SuOk 200 90 x ∧ SuOk 200 90 y ∧ M' = mset M p o' ∧ Src (2 ^ 56) o' ∧ δ' = [some (.src ns), some (.ref p), some (suD x), some (.int sort), some (suD y), none, none, none]) (fun Nx hNx => ?_) ?_
  · refine r_if (r_and ?_)
    walk_at "st"
    refine ⟨two, one, rfl, bt_up htwo.a (by decide), bt_up htwo.b (by decide), cc htwo, bt_up htwo.d (by decide), bt_up hone2.a (by decide), bt_up hone2.b (by decide), cc hone2, bt_up hone2.d (by decide), ?_⟩
    walk_at "st"
    refine ⟨fun _ => ?_, fun _ => ⟨fun z => Bool.noConfusion z, fun _ => ?_⟩⟩
    · walk_at "st"
      refine ⟨p, 3, o3, 2 ^ 56, rfl, mset_same, hS3.less (by decide), by decide, by decide, fun r o4 _ _ hS4 => ?_⟩
      rw [mset_mset]
      walk_at "st"
      refine ⟨fun _ => ?_, fun _ => ?_⟩
      · walk_at "st"
        exact hNx _ _ ⟨two, one, o4, htwo, hone2, rfl, hS4, rfl⟩
      · walk_at "st"
        exact hNx _ _ ⟨one, two, o4, hone2, htwo, rfl, hS4, rfl⟩
    · walk_at "st"
      exact hNx _ _ ⟨one, two, o3, hone2, htwo, rfl, hS3.less (by decide), rfl⟩
  clear hone2 htwo hone
  rintro _ _ ⟨x, y, o4, hx, hy, rfl, hS4, rfl⟩
  walk_at "st"
  refine ⟨x, rfl, hx, fun ma ia ka hBa => ?_⟩
  walk_at "st"
  refine ⟨y, rfl, hy, fun mb ib kb hBb => ?_⟩
  have hSa := key_sh hx ka
  have hSb := key_sh hy kb
  walk_at "st"
  refine ⟨p, o4, 2 ^ 55, x, y, rfl, mset_same, hS4.less (by decide), hx, hy, fun qs o5 hqs hS5 => ?_⟩
  rw [mset_mset]
  walk_at "st"
  refine for_inv (fun xs δ M' => ∃ (s7 : Option D), (∀ q ∈ xs, FrOk q) ∧ M' = mset M p o5 ∧ δ = [some (.src ns), some (.ref p), some (suD x), some (.int sort), some (suD y), some (.tup [.tup (iD ma), .int ia]), some (.tup [.tup (iD mb), .int ib]), s7]) (fun _ _ _ _ => trivial) ?_ ?_ _ _ _ ⟨none, hqs, rfl, rfl⟩
  · rintro q xs δ M' N ⟨s7, hq, rfl, rfl⟩ hN
    obtain ⟨n, m, rfl, hm, hnb, hmb⟩ := hq q (List.mem_cons_self ..)
    walk_at "st"
    refine r_if (r_or ?_)
    walk_at "st"
    refine ⟨ma, mb, ia, ib, n, m, rfl, hSa, hBa, hSb, hBb, bt_up hnb (by decide), bt_up hmb (by decide), ?_⟩
    rw [judge_due hx hy ka kb hm]
    walk_at "st"
    refine ⟨x, y, n, m, rfl, hx, hy, hnb, hmb, ?_⟩
    walk_at "st"
    refine same_self (due_word x y n m) ?_
    walk_at "st"
    refine ⟨fun z => Bool.noConfusion z, fun _ => ?_⟩
    walk_at "st"
    refine ⟨mb, ma, ib, ia, n, m, rfl, hSb, hBb, hSa, hBa, bt_up hnb (by decide), bt_up hmb (by decide), ?_⟩
    rw [judge_due hy hx kb ka hm]
    walk_at "st"
    refine ⟨y, x, n, m, rfl, hy, hx, hnb, hmb, ?_⟩
    walk_at "st"
    refine same_self (due_word y x n m) ?_
    walk_at "st"
    refine ⟨fun z => Bool.noConfusion z, fun _ => ?_⟩
    walk_at "st"
    exact hN _ _ ⟨_, fun q h => hq q (List.mem_cons_of_mem _ h), rfl, rfl⟩
  rintro δ M' ⟨s7, _, rfl, rfl⟩
  walk_at "st"
  refine ⟨ns, 1, rfl, by decide, by decide, fun c oc hc hSc => ?_⟩
  have hcp : c ≠ p := fun z => by rw [z, mset_same] at hc; cases hc
  have hMc : M c = none := by rw [mset_ne hcp] at hc; exact hc
  walk_at "st"
  refine ⟨c, oc, 2 ^ 50, rfl, mset_same, hSc.less (by decide), fun o' _ => ?_⟩
  rw [mset_mset]
  exact Wq.drop (sub_upd (sub_new hp) hMc) h
end K64

set_option maxHeartbeats 0
namespace K64
open PySem PySem.Spec PyProof.Rows L2 TL DL
def top (i : Nat) : Stmt := PySem.Challenge.pw_readapart_k64_fractions_strictly_between.main.body.getD i (.Pass ⟨0, 0, 0, 0⟩)
abbrev s_gcd_of : Stmt := top 4
abbrev N_gcd_of : List Str := ["a", "b"]
theorem sc_gcd_of : FnScope N_gcd_of ["a", "b"] (defScope s_gcd_of) := ⟨rfl, rfl, rfl, by decide +kernel, rfl, by decide +kernel, by decide +kernel⟩
abbrev s_less_q : Stmt := top 5
abbrev N_less_q : List Str := ["a", "b"]
theorem sc_less_q : FnScope N_less_q ["a", "b"] (defScope s_less_q) := ⟨rfl, rfl, rfl, by decide +kernel, rfl, by decide +kernel, by decide +kernel⟩
abbrev s_trimmed : Stmt := top 7
abbrev N_trimmed : List Str := ["coefficients", "many"]
theorem sc_trimmed : FnScope N_trimmed ["coefficients"] (defScope s_trimmed) := ⟨rfl, rfl, rfl, by decide +kernel, rfl, by decide +kernel, by decide +kernel⟩
abbrev s_content : Stmt := top 8
abbrev N_content : List Str := ["p", "found", "c"]
theorem sc_content : FnScope N_content ["p"] (defScope s_content) := ⟨rfl, rfl, rfl, by decide +kernel, rfl, by decide +kernel, by decide +kernel⟩
abbrev s_primitive : Stmt := top 9
abbrev N_primitive : List Str := ["p", "shared", "c"]
theorem sc_primitive : FnScope N_primitive ["p"] (defScope s_primitive) := ⟨rfl, rfl, rfl, by decide +kernel, rfl, by decide +kernel, by decide +kernel⟩
abbrev s_homogeneous : Stmt := top 10
abbrev N_homogeneous : List Str := ["p", "q", "n", "d", "total", "weight", "c"]
theorem sc_homogeneous : FnScope N_homogeneous ["p", "q"] (defScope s_homogeneous) := ⟨rfl, rfl, rfl, by decide +kernel, rfl, by decide +kernel, by decide +kernel⟩
abbrev s_sign : Stmt := top 11
abbrev N_sign : List Str := ["p", "q", "total"]
theorem sc_sign : FnScope N_sign ["p", "q"] (defScope s_sign) := ⟨rfl, rfl, rfl, by decide +kernel, rfl, by decide +kernel, by decide +kernel⟩
abbrev s_derived : Stmt := top 12
abbrev N_derived : List Str := ["p", "at"]
theorem sc_derived : FnScope N_derived ["p"] (defScope s_derived) := ⟨rfl, rfl, rfl, by decide +kernel, rfl, by decide +kernel, by decide +kernel⟩
abbrev s_remainder : Stmt := top 13
abbrev N_remainder : List Str := ["p", "d", "rest", "head", "by", "top", "shift", "at", "shared", "c"]
theorem sc_remainder : FnScope N_remainder ["p", "d"] (defScope s_remainder) := ⟨rfl, rfl, rfl, by decide +kernel, rfl, by decide +kernel, by decide +kernel⟩
abbrev s_quotient : Stmt := top 14
abbrev N_quotient : List Str := ["p", "d", "rest", "found", "shift", "part", "left", "at", "c"]
theorem sc_quotient : FnScope N_quotient ["p", "d"] (defScope s_quotient) := ⟨rfl, rfl, rfl, by decide +kernel, rfl, by decide +kernel, by decide +kernel⟩
abbrev s_common : Stmt := top 15
abbrev N_common : List Str := ["p", "d"]
theorem sc_common : FnScope N_common ["p", "d"] (defScope s_common) := ⟨rfl, rfl, rfl, by decide +kernel, rfl, by decide +kernel, by decide +kernel⟩
abbrev s_free : Stmt := top 16
abbrev N_free : List Str := ["p", "whole", "shared"]
theorem sc_free : FnScope N_free ["p"] (defScope s_free) := ⟨rfl, rfl, rfl, by decide +kernel, rfl, by decide +kernel, by decide +kernel⟩
abbrev s_chain_of : Stmt := top 18
abbrev N_chain_of : List Str := ["p", "chain", "c"]
theorem sc_chain_of : FnScope N_chain_of ["p"] (defScope s_chain_of) := ⟨rfl, rfl, rfl, by decide +kernel, rfl, by decide +kernel, by decide +kernel⟩
abbrev s_changes : Stmt := top 19
abbrev N_changes : List Str := ["signs", "found", "last", "one"]
theorem sc_changes : FnScope N_changes ["signs"] (defScope s_changes) := ⟨rfl, rfl, rfl, by decide +kernel, rfl, by decide +kernel, by decide +kernel⟩
abbrev s_changes_at : Stmt := top 20
abbrev N_changes_at : List Str := ["chain", "q", "p"]
theorem sc_changes_at : FnScope N_changes_at ["chain", "q"] (defScope s_changes_at) := ⟨rfl, rfl, rfl, by decide +kernel, rfl, by decide +kernel, by decide +kernel⟩
abbrev s_changes_far : Stmt := top 21
abbrev N_changes_far : List Str := ["chain", "side", "found", "p", "head"]
theorem sc_changes_far : FnScope N_changes_far ["chain", "side"] (defScope s_changes_far) := ⟨rfl, rfl, rfl, by decide +kernel, rfl, by decide +kernel, by decide +kernel⟩
abbrev s_count_between : Stmt := top 22
abbrev N_count_between : List Str := ["chain", "low", "high", "first", "last"]
theorem sc_count_between : FnScope N_count_between ["chain", "low", "high"] (defScope s_count_between) := ⟨rfl, rfl, rfl, by decide +kernel, rfl, by decide +kernel, by decide +kernel⟩
abbrev s_roots_in : Stmt := top 23
abbrev N_roots_in : List Str := ["p", "low", "high", "plain"]
theorem sc_roots_in : FnScope N_roots_in ["p", "low", "high"] (defScope s_roots_in) := ⟨rfl, rfl, rfl, by decide +kernel, rfl, by decide +kernel, by decide +kernel⟩
abbrev s_judge_order : Stmt := top 25
abbrev N_judge_order : List Str := ["a", "b", "q", "below"]
theorem sc_judge_order : FnScope N_judge_order ["a", "b", "q"] (defScope s_judge_order) := ⟨rfl, rfl, rfl, by decide +kernel, rfl, by decide +kernel, by decide +kernel⟩
abbrev s_law_source : Stmt := top 27
abbrev N_law_source : List Str := ["script", "at", "cell", "size", "small", "one"]
theorem sc_law_source : FnScope N_law_source ["script", "at"] (defScope s_law_source) := ⟨rfl, rfl, rfl, by decide +kernel, rfl, by decide +kernel, by decide +kernel⟩
abbrev s_law_pick : Stmt := top 28
abbrev N_law_pick : List Str := ["source", "many", "found"]
theorem sc_law_pick : FnScope N_law_pick ["source", "many"] (defScope s_law_pick) := ⟨rfl, rfl, rfl, by decide +kernel, rfl, by decide +kernel, by decide +kernel⟩
abbrev s_law_one : Stmt := top 29
abbrev N_law_one : List Str := ["source", "things"]
theorem sc_law_one : FnScope N_law_one ["source", "things"] (defScope s_law_one) := ⟨rfl, rfl, rfl, by decide +kernel, rfl, by decide +kernel, by decide +kernel⟩
abbrev s_law_same : Stmt := top 30
abbrev N_law_same : List Str := ["answer", "due", "at"]
theorem sc_law_same : FnScope N_law_same ["answer", "due"] (defScope s_law_same) := ⟨rfl, rfl, rfl, by decide +kernel, rfl, by decide +kernel, by decide +kernel⟩
abbrev s_law_common : Stmt := top 31
abbrev N_law_common : List Str := ["a", "b", "left"]
theorem sc_law_common : FnScope N_law_common ["a", "b"] (defScope s_law_common) := ⟨rfl, rfl, rfl, by decide +kernel, rfl, by decide +kernel, by decide +kernel⟩
abbrev s_law_ratio : Stmt := top 32
abbrev N_law_ratio : List Str := ["p", "q", "shared"]
theorem sc_law_ratio : FnScope N_law_ratio ["p", "q"] (defScope s_law_ratio) := ⟨rfl, rfl, rfl, by decide +kernel, rfl, by decide +kernel, by decide +kernel⟩
abbrev s_law_isqrt : Stmt := top 33
abbrev N_law_isqrt : List Str := ["n", "root", "better"]
theorem sc_law_isqrt : FnScope N_law_isqrt ["n"] (defScope s_law_isqrt) := ⟨rfl, rfl, rfl, by decide +kernel, rfl, by decide +kernel, by decide +kernel⟩
abbrev s_law_surd : Stmt := top 34
abbrev N_law_surd : List Str := ["a", "b", "c", "d", "root", "shared"]
theorem sc_law_surd : FnScope N_law_surd ["a", "b", "c", "d"] (defScope s_law_surd) := ⟨rfl, rfl, rfl, by decide +kernel, rfl, by decide +kernel, by decide +kernel⟩
abbrev s_law_sign : Stmt := top 35
abbrev N_law_sign : List Str := ["n"]
theorem sc_law_sign : FnScope N_law_sign ["n"] (defScope s_law_sign) := ⟨rfl, rfl, rfl, by decide +kernel, rfl, by decide +kernel, by decide +kernel⟩
abbrev s_law_sign_two : Stmt := top 36
abbrev N_law_sign_two : List Str := ["a", "b", "c"]
theorem sc_law_sign_two : FnScope N_law_sign_two ["a", "b", "c"] (defScope s_law_sign_two) := ⟨rfl, rfl, rfl, by decide +kernel, rfl, by decide +kernel, by decide +kernel⟩
abbrev s_law_sign_three : Stmt := top 37
abbrev N_law_sign_three : List Str := ["a", "b", "c", "d", "e", "first", "last"]
theorem sc_law_sign_three : FnScope N_law_sign_three ["a", "b", "c", "d", "e"] (defScope s_law_sign_three) := ⟨rfl, rfl, rfl, by decide +kernel, rfl, by decide +kernel, by decide +kernel⟩
abbrev s_law_surd_order : Stmt := top 38
abbrev N_law_surd_order : List Str := ["x", "y"]
theorem sc_law_surd_order : FnScope N_law_surd_order ["x", "y"] (defScope s_law_surd_order) := ⟨rfl, rfl, rfl, by decide +kernel, rfl, by decide +kernel, by decide +kernel⟩
abbrev s_law_surd_floor : Stmt := top 39
abbrev N_law_surd_floor : List Str := ["x", "n", "root"]
theorem sc_law_surd_floor : FnScope N_law_surd_floor ["x", "n"] (defScope s_law_surd_floor) := ⟨rfl, rfl, rfl, by decide +kernel, rfl, by decide +kernel, by decide +kernel⟩
abbrev s_law_surd_key : Stmt := top 40
abbrev N_law_surd_key : List Str := ["x", "row", "shared", "one"]
theorem sc_law_surd_key : FnScope N_law_surd_key ["x"] (defScope s_law_surd_key) := ⟨rfl, rfl, rfl, by decide +kernel, rfl, by decide +kernel, by decide +kernel⟩
abbrev s_law_surd_shift : Stmt := top 41
abbrev N_law_surd_shift : List Str := ["x", "p", "q"]
theorem sc_law_surd_shift : FnScope N_law_surd_shift ["x", "p", "q"] (defScope s_law_surd_shift) := ⟨rfl, rfl, rfl, by decide +kernel, rfl, by decide +kernel, by decide +kernel⟩
abbrev s_law_wide : Stmt := top 42
abbrev N_law_wide : List Str := ["source", "small", "great"]
theorem sc_law_wide : FnScope N_law_wide ["source", "small", "great"] (defScope s_law_wide) := ⟨rfl, rfl, rfl, by decide +kernel, rfl, by decide +kernel, by decide +kernel⟩
abbrev s_law_drawn_surd : Stmt := top 43
abbrev N_law_drawn_surd : List Str := ["source", "roots", "great", "d", "a", "b"]
theorem sc_law_drawn_surd : FnScope N_law_drawn_surd ["source", "roots", "great"] (defScope s_law_drawn_surd) := ⟨rfl, rfl, rfl, by decide +kernel, rfl, by decide +kernel, by decide +kernel⟩
abbrev s_law_k64_fractions : Stmt := top 44
abbrev N_law_k64_fractions : List Str := ["source", "one", "two", "found", "x", "scale", "floor"]
theorem sc_law_k64_fractions : FnScope N_law_k64_fractions ["source", "one", "two"] (defScope s_law_k64_fractions) := ⟨rfl, rfl, rfl, by decide +kernel, rfl, by decide +kernel, by decide +kernel⟩
abbrev s_law_k64_due : Stmt := top 45
abbrev N_law_k64_due : List Str := ["one", "two", "q", "mine"]
theorem sc_law_k64_due : FnScope N_law_k64_due ["one", "two", "q"] (defScope s_law_k64_due) := ⟨rfl, rfl, rfl, by decide +kernel, rfl, by decide +kernel, by decide +kernel⟩
abbrev s_law_k64_cube : Stmt := top 46
abbrev N_law_k64_cube : List Str := ["source", "n", "root", "high", "turn", "q", "below", "due", "zero"]
theorem sc_law_k64_cube : FnScope N_law_k64_cube ["source"] (defScope s_law_k64_cube) := ⟨rfl, rfl, rfl, by decide +kernel, rfl, by decide +kernel, by decide +kernel⟩
abbrev s_law : Stmt := top 47
abbrev N_law : List Str := ["script", "source", "one", "sort", "two", "a", "b", "q"]
theorem sc_law : FnScope N_law ["script"] (defScope s_law) := ⟨rfl, rfl, rfl, by decide +kernel, rfl, by decide +kernel, by decide +kernel⟩
section
variable {P : Program} {w : World} {K : PySem.W.Frag} {mg : Str → Option Value} {base : Heap} {k : Nat} {f : Addr} {cdv : Value} {A : Around} {outer : List Env} {s : Shared} {H : Hp} {E : XK}
theorem body_gcd_of (b_abs : mg "abs" = none) (hr : Room k (A.deeper (envOfC "gcd_of" (defScope s_gcd_of) s.heap.objs.size f cdv))) :
    DSs (cxOf CX0 P w K mg base N_gcd_of "gcd_of" (defScope s_gcd_of) f cdv A outer s H E).nox (defBody s_gcd_of) t_gcd_of :=
  (dss_cons (ds_while PassesOwn.never (dt_ne hr.units (de_var 1) de_int) (dss_one (ds_par (i := 0) (j := 1) rfl sc_gcd_of.nd (da_cons (de_var 1) (da_cons (de_mod (de_var 0) (de_var 1)) da_nil))))) (dss_one (ds_ret (de_callB call_abs rel_abs (by rfl) b_abs (by decide +kernel) (da_cons (de_var 0) da_nil)))))
theorem body_less_q  (hr : Room k (A.deeper (envOfC "less_q" (defScope s_less_q) s.heap.objs.size f cdv))) :
    DSs (cxOf CX0 P w K mg base N_less_q "less_q" (defScope s_less_q) f cdv A outer s H E).nox (defBody s_less_q) t_less_q :=
  (dss_one (ds_ret (de_lt (de_mul false (de_idx (de_var 0) de_int) (de_idx (de_var 1) de_int)) (de_mul false (de_idx (de_var 1) de_int) (de_idx (de_var 0) de_int)))))
theorem body_trimmed (b_len : mg "len" = none) (b_tuple : mg "tuple" = none) (hr : Room k (A.deeper (envOfC "trimmed" (defScope s_trimmed) s.heap.objs.size f cdv))) :
    DSs (cxOf CX0 P w K mg base N_trimmed "trimmed" (defScope s_trimmed) f cdv A outer s H E).nox (defBody s_trimmed) t_trimmed :=
  (dss_cons (ds_set (i := 1) sc_trimmed.nd (de_callB call_len rel_len (by rfl) b_len (by decide +kernel) (da_cons (de_var 0) da_nil))) (dss_cons (ds_while PassesOwn.never (PW.pt (dw_and (dt_gt (de_var 1) de_int) (dw_and1 (dt_eq hr.units (de_idx (de_var 0) (de_sub (de_var 1) de_int)) de_int)))) (dss_one (ds_aug (i := 1) sc_trimmed.nd pip_sub rel_sub de_int))) (dss_one (ds_ret (de_callTy call_tuple_of rel_tupOf (by rfl) b_tuple (by decide +kernel) (da_cons (de_slice false (de_var 0) do_none (do_some (de_var 1))) da_nil))))))
theorem body_content (C_gcd_of : Cal P w K mg base k "gcd_of" ["a", "b"] sp_gcd_of) (hr : Room k (A.deeper (envOfC "content" (defScope s_content) s.heap.objs.size f cdv))) :
    DSs (cxOf CX0 P w K mg base N_content "content" (defScope s_content) f cdv A outer s H E).nox (defBody s_content) t_content :=
  (dss_cons (ds_set (i := 1) sc_content.nd de_int) (dss_cons (ds_for (vs := [2]) PassesOwn.never rfl (di_seq (de_var 0)) (pg_name (i := 2) sc_content.nd rfl (by first | exact Or.inl rfl | exact Or.inr rfl)) (relg_name 2) (dss_cons (ds_set (i := 1) sc_content.nd (de_cal C_gcd_of hr (da_cons (de_var 1) (da_cons (de_var 2) da_nil)))) (dss_one (ds_if (dt_eq hr.units (de_var 1) de_int) (dss_one (ds_ret de_int)) dss_nil)))) (dss_one (ds_ret (de_var 1)))))
theorem body_primitive (C_content : Cal P w K mg base k "content" ["p"] sp_content) (b_len : mg "len" = none) (b_tuple : mg "tuple" = none) (hr : Room k (A.deeper (envOfC "primitive" (defScope s_primitive) s.heap.objs.size f cdv))) :
    DSs (cxOf CX0 P w K mg base N_primitive "primitive" (defScope s_primitive) f cdv A outer s H E).nox (defBody s_primitive) t_primitive :=
  (dss_cons (ds_if (dt_eq hr.units (de_callB call_len rel_len (by rfl) b_len (by decide +kernel) (da_cons (de_var 0) da_nil)) de_int) (dss_one ds_never) dss_nil) (dss_cons (ds_set (i := 1) sc_primitive.nd (de_cal C_content hr (da_cons (de_var 0) da_nil))) (dss_cons (ds_if (dt_lt (de_idx (de_var 0) (de_neg de_int)) de_int) (dss_one (ds_set (i := 1) sc_primitive.nd (de_neg (de_var 1)))) dss_nil) (dss_one (ds_ret (de_callTy call_tuple_of rel_tupOf (by rfl) b_tuple (by decide +kernel) (da_cons (de_lc (own := [("c", 2)]) false rfl sc_primitive.nd (di_seq (de_var 0)) (blkOk_by (own := [("c", 2)]) (N := N_primitive) (sc := defScope s_primitive) (by decide +kernel)) (relg_name 2) (fun _ _ _ _ _ => (pg_name (i := 2) sc_primitive.nd rfl (by first | exact Or.inl rfl | exact Or.inr rfl))) (fun _ _ _ _ _ => dps_nil) (fun _ _ _ _ _ => (de_fdiv (de_var 2) (de_var 1)))) da_nil)))))))
theorem body_homogeneous (b_reversed : mg "reversed" = none) (hr : Room k (A.deeper (envOfC "homogeneous" (defScope s_homogeneous) s.heap.objs.size f cdv))) :
    DSs (cxOf CX0 P w K mg base N_homogeneous "homogeneous" (defScope s_homogeneous) f cdv A outer s H E).nox (defBody s_homogeneous) t_homogeneous :=
  (dss_cons (ds_asg (vs := [2, 3]) (pg_tup rfl (pgs_cons (pg_name (i := 2) sc_homogeneous.nd rfl (by first | exact Or.inl rfl | exact Or.inr rfl)) (pgs_cons (pg_name (i := 3) sc_homogeneous.nd rfl (by first | exact Or.inl rfl | exact Or.inr rfl)) pgs_nil))) (relg_tup 2 rfl (relgs_cons (relg_name 2) (relgs_cons (relg_name 3) relgs_nil))) (de_var 1)) (dss_cons (ds_set (i := 4) sc_homogeneous.nd de_int) (dss_cons (ds_set (i := 5) sc_homogeneous.nd de_int) (dss_cons (ds_for (vs := [6]) PassesOwn.never rfl (di_rev (by rfl) b_reversed (de_var 0)) (pg_name (i := 6) sc_homogeneous.nd rfl (by first | exact Or.inl rfl | exact Or.inr rfl)) (relg_name 6) (dss_cons (ds_set (i := 4) sc_homogeneous.nd (de_add false (de_mul false (de_var 4) (de_var 2)) (de_mul false (de_var 6) (de_var 5)))) (dss_one (ds_set (i := 5) sc_homogeneous.nd (de_mul false (de_var 5) (de_var 3)))))) (dss_one (ds_ret (de_var 4)))))))
theorem body_sign (C_homogeneous : Cal P w K mg base k "homogeneous" ["p", "q"] sp_homogeneous) (hr : Room k (A.deeper (envOfC "sign" (defScope s_sign) s.heap.objs.size f cdv))) :
    DSs (cxOf CX0 P w K mg base N_sign "sign" (defScope s_sign) f cdv A outer s H E).nox (defBody s_sign) t_sign :=
  (dss_cons (ds_set (i := 2) sc_sign.nd (de_cal C_homogeneous hr (da_cons (de_var 0) (da_cons (de_var 1) da_nil)))) (dss_one (ds_ret (de_subB (de_gt (de_var 2) de_int) (de_lt (de_var 2) de_int)))))
theorem body_derived (C_trimmed : Cal P w K mg base k "trimmed" ["coefficients"] sp_trimmed) (b_range : mg "range" = none) (b_len : mg "len" = none) (hr : Room k (A.deeper (envOfC "derived" (defScope s_derived) s.heap.objs.size f cdv))) :
    DSs (cxOf CX0 P w K mg base N_derived "derived" (defScope s_derived) f cdv A outer s H E).nox (defBody s_derived) t_derived :=
  (dss_one (ds_ret (de_cal C_trimmed hr (da_cons (de_lc (own := [("at", 1)]) false rfl sc_derived.nd (di_r2 (by rfl) b_range (da_cons de_int (da_cons (de_callB call_len rel_len (by rfl) b_len (by decide +kernel) (da_cons (de_var 0) da_nil)) da_nil))) (blkOk_by (own := [("at", 1)]) (N := N_derived) (sc := defScope s_derived) (by decide +kernel)) (relg_name 1) (fun _ _ _ _ _ => (pg_name (i := 1) sc_derived.nd rfl (by first | exact Or.inl rfl | exact Or.inr rfl))) (fun _ _ _ _ _ => dps_nil) (fun _ _ _ _ _ => (de_mul false (de_idx (de_var 0) (de_var 1)) (de_var 1)))) da_nil))))
theorem body_remainder (C_trimmed : Cal P w K mg base k "trimmed" ["coefficients"] sp_trimmed) (C_content : Cal P w K mg base k "content" ["p"] sp_content) (b_list : mg "list" = none) (b_abs : mg "abs" = none) (b_len : mg "len" = none) (b_range : mg "range" = none) (b_tuple : mg "tuple" = none) (hr : Room k (A.deeper (envOfC "remainder" (defScope s_remainder) s.heap.objs.size f cdv))) :
    DSs (cxOf CX0 P w K mg base N_remainder "remainder" (defScope s_remainder) f cdv A outer s H E).nox (defBody s_remainder) t_remainder :=
  (dss_cons (ds_set (i := 2) sc_remainder.nd (de_callTy call_list_of rel_listOf (by rfl) b_list (by decide +kernel) (da_cons (de_var 0) da_nil))) (dss_cons (ds_set (i := 3) sc_remainder.nd (de_idx (de_var 1) (de_neg de_int))) (dss_cons (ds_set (i := 4) sc_remainder.nd (de_callB call_abs rel_abs (by rfl) b_abs (by decide +kernel) (da_cons (de_var 3) da_nil))) (dss_cons (ds_while PassesOwn.never (dt_ge (de_callB call_len rel_len (by rfl) b_len (by decide +kernel) (da_cons (de_var 2) da_nil)) (de_callB call_len rel_len (by rfl) b_len (by decide +kernel) (da_cons (de_var 1) da_nil))) (dss_cons (ds_set (i := 5) sc_remainder.nd (de_ifx (dt_gt (de_var 3) de_int) (de_idx (de_var 2) (de_neg de_int)) (de_neg (de_idx (de_var 2) (de_neg de_int))))) (dss_cons (ds_set (i := 6) sc_remainder.nd (de_sub (de_callB call_len rel_len (by rfl) b_len (by decide +kernel) (da_cons (de_var 2) da_nil)) (de_callB call_len rel_len (by rfl) b_len (by decide +kernel) (da_cons (de_var 1) da_nil)))) (dss_cons (ds_setLc (i := 2) (own := [("c", 9)]) true rfl sc_remainder.nd (di_seq (de_var 2)) (blkOk_by (own := [("c", 9)]) (N := N_remainder) (sc := defScope s_remainder) (by decide +kernel)) (relg_name 9) (fun _ _ _ _ _ => (pg_name (i := 9) sc_remainder.nd rfl (by first | exact Or.inl rfl | exact Or.inr rfl))) (fun _ _ _ _ _ => dps_nil) (fun _ _ _ _ _ => (de_mul false (de_var 9) (de_var 4))) (sw_true rfl rfl rfl (by decide +kernel))) (dss_cons (ds_for (vs := [7]) PassesOwn.never rfl (di_r1 (by rfl) b_range (da_cons (de_callB call_len rel_len (by rfl) b_len (by decide +kernel) (da_cons (de_var 1) da_nil)) da_nil)) (pg_name (i := 7) sc_remainder.nd rfl (by first | exact Or.inl rfl | exact Or.inr rfl)) (relg_name 7) (dss_one (ds_setIx (de_var 2) (de_add false (de_var 6) (de_var 7)) (de_sub (de_idx (de_var 2) (de_add false (de_var 6) (de_var 7))) (de_mul false (de_var 5) (de_idx (de_var 1) (de_var 7))))))) (dss_one (ds_set (i := 2) sc_remainder.nd (de_callTy call_list_of rel_listOf (by rfl) b_list (by decide +kernel) (da_cons (de_cal C_trimmed hr (da_cons (de_var 2) da_nil)) da_nil))))))))) (dss_cons (ds_set (i := 8) sc_remainder.nd (de_cal C_content hr (da_cons (de_var 2) da_nil))) (dss_one (ds_ret (de_callTy call_tuple_of rel_tupOf (by rfl) b_tuple (by decide +kernel) (da_cons (de_lc (own := [("c", 9)]) false rfl sc_remainder.nd (di_seq (de_var 2)) (blkOk_by (own := [("c", 9)]) (N := N_remainder) (sc := defScope s_remainder) (by decide +kernel)) (relg_name 9) (fun _ _ _ _ _ => (pg_name (i := 9) sc_remainder.nd rfl (by first | exact Or.inl rfl | exact Or.inr rfl))) (fun _ _ _ _ _ => dps_nil) (fun _ _ _ _ _ => (de_fdiv (de_var 9) (de_var 8)))) da_nil)))))))))
theorem body_quotient (b_len : mg "len" = none) (b_list : mg "list" = none) (b_range : mg "range" = none) (b_divmod : mg "divmod" = none) (b_any : mg "any" = none) (b_tuple : mg "tuple" = none) (hr : Room k (A.deeper (envOfC "quotient" (defScope s_quotient) s.heap.objs.size f cdv))) :
    DSs (cxOf CX0 P w K mg base N_quotient "quotient" (defScope s_quotient) f cdv A outer s H E).nox (defBody s_quotient) t_quotient :=
  (dss_cons (ds_if (dt_lt (de_callB call_len rel_len (by rfl) b_len (by decide +kernel) (da_cons (de_var 0) da_nil)) (de_callB call_len rel_len (by rfl) b_len (by decide +kernel) (da_cons (de_var 1) da_nil))) (dss_one (ds_ret (de_ifx (dt_eq hr.units (de_callB call_len rel_len (by rfl) b_len (by decide +kernel) (da_cons (de_var 0) da_nil)) de_int) (de_tup da_nil) de_non))) dss_nil) (dss_cons (ds_set (i := 2) sc_quotient.nd (de_callTy call_list_of rel_listOf (by rfl) b_list (by decide +kernel) (da_cons (de_var 0) da_nil))) (dss_cons (ds_set (i := 3) sc_quotient.nd (de_mul true (de_lst false (da_cons de_int da_nil)) (de_add false (de_sub (de_callB call_len rel_len (by rfl) b_len (by decide +kernel) (da_cons (de_var 0) da_nil)) (de_callB call_len rel_len (by rfl) b_len (by decide +kernel) (da_cons (de_var 1) da_nil))) de_int))) (dss_cons (ds_for (vs := [4]) PassesOwn.never rfl (di_r3 (by rfl) b_range (da_cons (de_sub (de_callB call_len rel_len (by rfl) b_len (by decide +kernel) (da_cons (de_var 0) da_nil)) (de_callB call_len rel_len (by rfl) b_len (by decide +kernel) (da_cons (de_var 1) da_nil))) (da_cons (de_neg de_int) (da_cons (de_neg de_int) da_nil)))) (pg_name (i := 4) sc_quotient.nd rfl (by first | exact Or.inl rfl | exact Or.inr rfl)) (relg_name 4) (dss_cons (ds_asg (vs := [5, 6]) (pg_tup rfl (pgs_cons (pg_name (i := 5) sc_quotient.nd rfl (by first | exact Or.inl rfl | exact Or.inr rfl)) (pgs_cons (pg_name (i := 6) sc_quotient.nd rfl (by first | exact Or.inl rfl | exact Or.inr rfl)) pgs_nil))) (relg_tup 2 rfl (relgs_cons (relg_name 5) (relgs_cons (relg_name 6) relgs_nil))) (de_callB call_divmodW rel_divmod (by rfl) b_divmod (by decide +kernel) (da_cons (de_idx (de_var 2) (de_sub (de_add false (de_var 4) (de_callB call_len rel_len (by rfl) b_len (by decide +kernel) (da_cons (de_var 1) da_nil))) de_int)) (da_cons (de_idx (de_var 1) (de_neg de_int)) da_nil)))) (dss_cons (ds_if (dt_ne hr.units (de_var 6) de_int) (dss_one (ds_ret de_non)) dss_nil) (dss_cons (ds_setIx (de_var 3) (de_var 4) (de_var 5)) (dss_one (ds_if (dt_ne hr.units (de_var 5) de_int) (dss_one (ds_for (vs := [7]) PassesOwn.never rfl (di_r1 (by rfl) b_range (da_cons (de_callB call_len rel_len (by rfl) b_len (by decide +kernel) (da_cons (de_var 1) da_nil)) da_nil)) (pg_name (i := 7) sc_quotient.nd rfl (by first | exact Or.inl rfl | exact Or.inr rfl)) (relg_name 7) (dss_one (ds_setIx (de_var 2) (de_add false (de_var 4) (de_var 7)) (de_sub (de_idx (de_var 2) (de_add false (de_var 4) (de_var 7))) (de_mul false (de_var 5) (de_idx (de_var 1) (de_var 7)))))))) dss_nil)))))) (dss_one (ds_ret (de_ifx (dt_not (dt_tru (de_callB (cr_any rfl) rel_any (by rfl) b_any (by decide +kernel) (da_cons (de_lc (own := [("c", 8)]) false rfl sc_quotient.nd (di_seq (de_var 2)) (blkOk_by (own := [("c", 8)]) (N := N_quotient) (sc := defScope s_quotient) (by decide +kernel)) (relg_name 8) (fun _ _ _ _ _ => (pg_name (i := 8) sc_quotient.nd rfl (by first | exact Or.inl rfl | exact Or.inr rfl))) (fun _ _ _ _ _ => dps_nil) (fun _ _ _ _ _ => (de_ne hr.units (de_var 8) de_int))) da_nil)))) (de_callTy call_tuple_of rel_tupOf (by rfl) b_tuple (by decide +kernel) (da_cons (de_var 3) da_nil)) de_non)))))))
theorem body_common (C_remainder : Cal P w K mg base k "remainder" ["p", "d"] sp_remainder) (C_primitive : Cal P w K mg base k "primitive" ["p"] sp_primitive) (b_len : mg "len" = none) (hr : Room k (A.deeper (envOfC "common" (defScope s_common) s.heap.objs.size f cdv))) :
    DSs (cxOf CX0 P w K mg base N_common "common" (defScope s_common) f cdv A outer s H E).nox (defBody s_common) t_common :=
  (dss_cons (ds_if (PW.pt (dw_and (dt_eq hr.units (de_callB call_len rel_len (by rfl) b_len (by decide +kernel) (da_cons (de_var 0) da_nil)) de_int) (dw_and1 (dt_eq hr.units (de_callB call_len rel_len (by rfl) b_len (by decide +kernel) (da_cons (de_var 1) da_nil)) de_int)))) (dss_one ds_never) dss_nil) (dss_cons (ds_while PassesOwn.never (dt_gt (de_callB call_len rel_len (by rfl) b_len (by decide +kernel) (da_cons (de_var 1) da_nil)) de_int) (dss_one (ds_par (i := 0) (j := 1) rfl sc_common.nd (da_cons (de_var 1) (da_cons (de_cal C_remainder hr (da_cons (de_var 0) (da_cons (de_var 1) da_nil))) da_nil))))) (dss_one (ds_ret (de_cal C_primitive hr (da_cons (de_var 0) da_nil))))))
theorem body_free (C_primitive : Cal P w K mg base k "primitive" ["p"] sp_primitive) (C_derived : Cal P w K mg base k "derived" ["p"] sp_derived) (C_common : Cal P w K mg base k "common" ["p", "d"] sp_common) (C_quotient : Cal P w K mg base k "quotient" ["p", "d"] sp_quotient) (hr : Room k (A.deeper (envOfC "free" (defScope s_free) s.heap.objs.size f cdv))) :
    DSs (cxOf CX0 P w K mg base N_free "free" (defScope s_free) f cdv A outer s H E).nox (defBody s_free) t_free :=
  (dss_cons (ds_set (i := 1) sc_free.nd (de_cal C_primitive hr (da_cons (de_var 0) da_nil))) (dss_cons (ds_set (i := 2) sc_free.nd (de_cal C_common hr (da_cons (de_var 1) (da_cons (de_cal C_derived hr (da_cons (de_var 1) da_nil)) da_nil)))) (dss_one (ds_ret (de_cal C_quotient hr (da_cons (de_var 1) (da_cons (de_var 2) da_nil)))))))
theorem body_chain_of (C_derived : Cal P w K mg base k "derived" ["p"] sp_derived) (C_remainder : Cal P w K mg base k "remainder" ["p", "d"] sp_remainder) (b_len : mg "len" = none) (b_tuple : mg "tuple" = none) (hr : Room k (A.deeper (envOfC "chain_of" (defScope s_chain_of) s.heap.objs.size f cdv))) :
    DSs (cxOf CX0 P w K mg base N_chain_of "chain_of" (defScope s_chain_of) f cdv A outer s H E).nox (defBody s_chain_of) t_chain_of :=
  (dss_cons (ds_set (i := 1) sc_chain_of.nd (de_lst true (da_cons (de_var 0) (da_cons (de_cal C_derived hr (da_cons (de_var 0) da_nil)) da_nil)))) (dss_cons (ds_while PassesOwn.never (dt_gt (de_callB call_len rel_len (by rfl) b_len (by decide +kernel) (da_cons (de_idx (de_var 1) (de_neg de_int)) da_nil)) de_int) (dss_one (ds_expr (de_bm tyV_list rel_append PySem.F.plainAttrs_list PySem.F.slot_list_append PySem.F.type_list_append mt_append (de_var 1) (da_cons (de_callTy call_tuple_of rel_tupOf (by rfl) b_tuple (by decide +kernel) (da_cons (de_lc (own := [("c", 2)]) false rfl sc_chain_of.nd (di_seq (de_cal C_remainder hr (da_cons (de_idx (de_var 1) (de_neg de_int)) (da_cons (de_idx (de_var 1) (de_neg de_int)) da_nil)))) (blkOk_by (own := [("c", 2)]) (N := N_chain_of) (sc := defScope s_chain_of) (by decide +kernel)) (relg_name 2) (fun _ _ _ _ _ => (pg_name (i := 2) sc_chain_of.nd rfl (by first | exact Or.inl rfl | exact Or.inr rfl))) (fun _ _ _ _ _ => dps_nil) (fun _ _ _ _ _ => (de_neg (de_var 2)))) da_nil)) da_nil))))) (dss_one (ds_ret (de_slice false (de_var 1) do_none (do_some (de_neg de_int)))))))
theorem body_changes  (hr : Room k (A.deeper (envOfC "changes" (defScope s_changes) s.heap.objs.size f cdv))) :
    DSs (cxOf CX0 P w K mg base N_changes "changes" (defScope s_changes) f cdv A outer s H E).nox (defBody s_changes) t_changes :=
  (dss_cons (ds_set (i := 1) sc_changes.nd de_int) (dss_cons (ds_set (i := 2) sc_changes.nd de_int) (dss_cons (ds_for (vs := [3]) PassesOwn.never rfl (di_seq (de_var 0)) (pg_name (i := 3) sc_changes.nd rfl (by first | exact Or.inl rfl | exact Or.inr rfl)) (relg_name 3) (dss_one (ds_if (dt_ne hr.units (de_var 3) de_int) (dss_cons (ds_if (dt_eq hr.units (de_var 3) (de_neg (de_var 2))) (dss_one (ds_aug (i := 1) sc_changes.nd pip_add rel_iadd de_int)) dss_nil) (dss_one (ds_set (i := 2) sc_changes.nd (de_var 3)))) dss_nil))) (dss_one (ds_ret (de_var 1))))))
theorem body_changes_at (C_sign : Cal P w K mg base k "sign" ["p", "q"] sp_sign) (C_changes : Cal P w K mg base k "changes" ["signs"] sp_changes) (hr : Room k (A.deeper (envOfC "changes_at" (defScope s_changes_at) s.heap.objs.size f cdv))) :
    DSs (cxOf CX0 P w K mg base N_changes_at "changes_at" (defScope s_changes_at) f cdv A outer s H E).nox (defBody s_changes_at) t_changes_at :=
  (dss_one (ds_ret (de_cal C_changes hr (da_cons (de_lc (own := [("p", 2)]) false rfl sc_changes_at.nd (di_seq (de_var 0)) (blkOk_by (own := [("p", 2)]) (N := N_changes_at) (sc := defScope s_changes_at) (by decide +kernel)) (relg_name 2) (fun _ _ _ _ _ => (pg_name (i := 2) sc_changes_at.nd rfl (by first | exact Or.inl rfl | exact Or.inr rfl))) (fun _ _ _ _ _ => dps_nil) (fun _ _ _ _ _ => (de_cal C_sign hr (da_cons (de_var 2) (da_cons (de_var 1) da_nil))))) da_nil))))
theorem body_changes_far (C_changes : Cal P w K mg base k "changes" ["signs"] sp_changes) (b_len : mg "len" = none) (b_divmod : mg "divmod" = none) (hr : Room k (A.deeper (envOfC "changes_far" (defScope s_changes_far) s.heap.objs.size f cdv))) :
    DSs (cxOf CX0 P w K mg base N_changes_far "changes_far" (defScope s_changes_far) f cdv A outer s H E).nox (defBody s_changes_far) t_changes_far :=
  (dss_cons (ds_set (i := 2) sc_changes_far.nd (de_lst true da_nil)) (dss_cons (ds_for (vs := [3]) PassesOwn.never rfl (di_seq (de_var 0)) (pg_name (i := 3) sc_changes_far.nd rfl (by first | exact Or.inl rfl | exact Or.inr rfl)) (relg_name 3) (dss_cons (ds_set (i := 4) sc_changes_far.nd (de_ifx (dt_gt (de_idx (de_var 3) (de_neg de_int)) de_int) de_int (de_neg de_int))) (dss_one (ds_expr (de_bm tyV_list rel_append PySem.F.plainAttrs_list PySem.F.slot_list_append PySem.F.type_list_append mt_append (de_var 2) (da_cons (de_ifx (dt_eq hr.units (de_idx (de_callB call_divmodW rel_divmod (by rfl) b_divmod (by decide +kernel) (da_cons (de_callB call_len rel_len (by rfl) b_len (by decide +kernel) (da_cons (de_var 3) da_nil)) (da_cons de_int da_nil))) de_int) de_int) (de_mul false (de_var 4) (de_var 1)) (de_var 4)) da_nil)))))) (dss_one (ds_ret (de_cal C_changes hr (da_cons (de_var 2) da_nil))))))
theorem body_count_between (C_changes_far : Cal P w K mg base k "changes_far" ["chain", "side"] sp_changes_far) (C_changes_at : Cal P w K mg base k "changes_at" ["chain", "q"] sp_changes_at) (hr : Room k (A.deeper (envOfC "count_between" (defScope s_count_between) s.heap.objs.size f cdv))) :
    DSs (cxOf CX0 P w K mg base N_count_between "count_between" (defScope s_count_between) f cdv A outer s H E).nox (defBody s_count_between) t_count_between :=
  (dss_cons (ds_set (i := 3) sc_count_between.nd (de_ifx (dt_isN (de_var 1) de_non) (de_cal C_changes_far hr (da_cons (de_var 0) (da_cons (de_neg de_int) da_nil))) (de_cal C_changes_at hr (da_cons (de_var 0) (da_cons (de_var 1) da_nil))))) (dss_cons (ds_set (i := 4) sc_count_between.nd (de_ifx (dt_isN (de_var 2) de_non) (de_cal C_changes_far hr (da_cons (de_var 0) (da_cons de_int da_nil))) (de_cal C_changes_at hr (da_cons (de_var 0) (da_cons (de_var 2) da_nil))))) (dss_one (ds_ret (de_sub (de_var 3) (de_var 4))))))
theorem body_roots_in (C_free : Cal P w K mg base k "free" ["p"] sp_free) (C_less_q : Cal P w K mg base k "less_q" ["a", "b"] sp_less_q) (C_chain_of : Cal P w K mg base k "chain_of" ["p"] sp_chain_of) (C_count_between : Cal P w K mg base k "count_between" ["chain", "low", "high"] sp_count_between) (b_len : mg "len" = none) (hr : Room k (A.deeper (envOfC "roots_in" (defScope s_roots_in) s.heap.objs.size f cdv))) :
    DSs (cxOf CX0 P w K mg base N_roots_in "roots_in" (defScope s_roots_in) f cdv A outer s H E).nox (defBody s_roots_in) t_roots_in :=
  (dss_cons (ds_set (i := 3) sc_roots_in.nd (de_cal C_free hr (da_cons (de_var 0) da_nil))) (dss_cons (ds_if (dt_lt (de_callB call_len rel_len (by rfl) b_len (by decide +kernel) (da_cons (de_var 3) da_nil)) de_int) (dss_one (ds_ret de_int)) dss_nil) (dss_cons (ds_if (PW.pt (dw_and (dt_notN (de_var 1) de_non) (dw_and (dt_notN (de_var 2) de_non) (dw_and1 (dt_not (dt_tru (de_cal C_less_q hr (da_cons (de_var 1) (da_cons (de_var 2) da_nil))))))))) (dss_one (ds_ret de_int)) dss_nil) (dss_one (ds_ret (de_cal C_count_between hr (da_cons (de_cal C_chain_of hr (da_cons (de_var 3) da_nil)) (da_cons (de_var 1) (da_cons (de_var 2) da_nil)))))))))
theorem body_judge_order (C_roots_in : Cal P w K mg base k "roots_in" ["p", "low", "high"] sp_roots_in) (C_sign : Cal P w K mg base k "sign" ["p", "q"] sp_sign) (hr : Room k (A.deeper (envOfC "judge_order" (defScope s_judge_order) s.heap.objs.size f cdv))) :
    DSs (cxOf CX0 P w K mg base N_judge_order "judge_order" (defScope s_judge_order) f cdv A outer s H E).nox (defBody s_judge_order) t_judge_order :=
  (dss_cons (ds_set (i := 3) sc_judge_order.nd (de_cal C_roots_in hr (da_cons (de_idx (de_var 0) de_int) (da_cons de_non (da_cons (de_var 2) da_nil))))) (dss_cons (ds_if (dt_eq hr.units (de_cal C_sign hr (da_cons (de_idx (de_var 0) de_int) (da_cons (de_var 2) da_nil))) de_int) (dss_one (ds_aug (i := 3) sc_judge_order.nd pip_sub rel_sub de_int)) dss_nil) (dss_cons (ds_if (dt_lt (de_var 3) (de_idx (de_var 0) de_int)) (dss_one (ds_ret (de_str [108, 111, 119]))) dss_nil) (dss_one (ds_ret (de_ifx (dt_ge (de_cal C_roots_in hr (da_cons (de_idx (de_var 1) de_int) (da_cons de_non (da_cons (de_var 2) da_nil)))) (de_idx (de_var 1) de_int)) (de_str [104, 105, 103, 104]) de_non))))))
theorem body_law_source (b_len : mg "len" = none) (b_int : mg "int" = none) (b_sum : mg "sum" = none) (b_abs : mg "abs" = none) (hr : Room k (A.deeper (envOfC "_law_source" (defScope s_law_source) s.heap.objs.size f cdv))) :
    DSs (cxOf CX0 P w K mg base N_law_source "_law_source" (defScope s_law_source) f cdv A outer s H E).nox (defBody s_law_source) t_law_source :=
  (dss_cons (ds_set (i := 2) sc_law_source.nd (de_ifx (dt_lt (de_var 1) (de_callB call_len rel_len (by rfl) b_len (by decide +kernel) (da_cons (de_var 0) da_nil))) (de_callTy call_intAll rel_int (by rfl) b_int (by decide +kernel) (da_cons (de_idx (de_var 0) (de_var 1)) da_nil)) (de_add false (de_mul false de_int (de_callB (cr_sum rfl) rel_sum (by rfl) b_sum (by decide +kernel) (da_cons (de_lc (own := [("one", 5)]) false rfl sc_law_source.nd (di_seq (de_slice false (de_var 0) do_none (do_some de_int))) (blkOk_by (own := [("one", 5)]) (N := N_law_source) (sc := defScope s_law_source) (by decide +kernel)) (relg_name 5) (fun _ _ _ _ _ => (pg_name (i := 5) sc_law_source.nd rfl (by first | exact Or.inl rfl | exact Or.inr rfl))) (fun _ _ _ _ _ => dps_nil) (fun _ _ _ _ _ => (de_mod (de_callTy call_intAll rel_int (by rfl) b_int (by decide +kernel) (da_cons (de_var 5) da_nil)) de_int))) da_nil))) de_int))) (dss_cons (ds_set (i := 3) sc_law_source.nd (de_mod (de_callB call_abs rel_abs (by rfl) b_abs (by decide +kernel) (da_cons (de_var 2) da_nil)) (de_mul false (de_pow de_int de_int) (de_pow de_int de_int)))) (dss_cons (ds_set (i := 4) sc_law_source.nd (de_mod (de_callTy call_intAll rel_int (by rfl) b_int (by decide +kernel) (da_cons (de_add false (de_add false (de_add false (de_mul false de_int (de_var 3)) (de_ifx (dt_lt (de_var 2) de_int) de_int de_int)) (de_mul false (de_var 1) de_int)) de_int) da_nil)) de_int)) (dss_one (ds_ret (de_lst true (da_cons (de_ifx (dt_ge (de_var 3) (de_pow de_int de_int)) (de_var 3) de_int) (da_cons (de_mod (de_callTy call_intAll rel_int (by rfl) b_int (by decide +kernel) (da_cons (de_mul false (de_add false (de_var 4) de_int) (de_add false (de_var 4) de_int)) da_nil)) de_int) (da_cons (de_var 1) da_nil)))))))))
theorem body_law_pick (b_int : mg "int" = none) (hr : Room k (A.deeper (envOfC "_law_pick" (defScope s_law_pick) s.heap.objs.size f cdv))) :
    DSs (cxOf CX0 P w K mg base N_law_pick "_law_pick" (defScope s_law_pick) f cdv A outer s H E).nox (defBody s_law_pick) t_law_pick :=
  (dss_cons (ds_if (dt_gt (de_idx (de_var 0) de_int) de_int) (dss_cons (ds_set (i := 2) sc_law_pick.nd (de_mod (de_callTy call_intAll rel_int (by rfl) b_int (by decide +kernel) (da_cons (de_idx (de_var 0) de_int) da_nil)) (de_var 1))) (dss_cons (ds_setIx (de_var 0) de_int (de_fdiv (de_idx (de_var 0) de_int) (de_var 1))) (dss_one (ds_ret (de_var 2))))) dss_nil) (dss_cons (ds_augIx pip_add rel_iadd (de_var 0) de_int de_int) (dss_cons (ds_setIx (de_var 0) de_int (de_mod (de_callTy call_intAll rel_int (by rfl) b_int (by decide +kernel) (da_cons (de_add false (de_mul false (de_idx (de_var 0) de_int) de_int) (de_mul false (de_idx (de_var 0) de_int) de_int)) da_nil)) de_int)) (dss_one (ds_ret (de_mod (de_fdiv (de_mod (de_callTy call_intAll rel_int (by rfl) b_int (by decide +kernel) (da_cons (de_add false (de_mul false (de_idx (de_var 0) de_int) de_int) (de_mul false (de_idx (de_var 0) de_int) de_int)) da_nil)) de_int) de_int) (de_var 1)))))))
theorem body_law_one (C_law_pick : Cal P w K mg base k "_law_pick" ["source", "many"] sp_law_pick) (b_len : mg "len" = none) (hr : Room k (A.deeper (envOfC "_law_one" (defScope s_law_one) s.heap.objs.size f cdv))) :
    DSs (cxOf CX0 P w K mg base N_law_one "_law_one" (defScope s_law_one) f cdv A outer s H E).nox (defBody s_law_one) t_law_one :=
  (dss_one (ds_ret (de_idx (de_var 1) (de_cal C_law_pick hr (da_cons (de_var 0) (da_cons (de_callB call_len rel_len (by rfl) b_len (by decide +kernel) (da_cons (de_var 1) da_nil)) da_nil))))))
theorem body_law_same (n : Nat) (C_law_same : Cal P w K mg base k "_law_same" ["answer", "due"] (spS n)) (b_bool : mg "bool" = none) (b_isinstance : mg "isinstance" = none) (b_int : mg "int" = none) (b_str : mg "str" = none) (b_tuple : mg "tuple" = none) (b_list : mg "list" = none) (b_len : mg "len" = none) (b_range : mg "range" = none) (b_all : mg "all" = none) (hr : Room k (A.deeper (envOfC "_law_same" (defScope s_law_same) s.heap.objs.size f cdv))) :
    DSs (cxOf CX0 P w K mg base N_law_same "_law_same" (defScope s_law_same) f cdv A outer s H E).nox (defBody s_law_same) (t_law_same n) :=
  (dss_cons (ds_if (PW.pt (dw_or (dt_isN (de_var 1) de_non) (dw_or1 (dt_isN (de_var 0) de_non)))) (dss_one (ds_ret (de_and (de_isN (de_var 1) de_non) (de_one (de_isN (de_var 0) de_non))))) dss_nil) (dss_cons (ds_if (PW.pt (dw_or (dt_tru (de_callB call_isi rel_isi (by rfl) b_isinstance (by decide +kernel) (da_cons (de_var 1) (da_cons (de_ty "bool" (by rfl) b_bool (by decide +kernel)) da_nil)))) (dw_or1 (dt_tru (de_callB call_isi rel_isi (by rfl) b_isinstance (by decide +kernel) (da_cons (de_var 0) (da_cons (de_ty "bool" (by rfl) b_bool (by decide +kernel)) da_nil))))))) (dss_one (ds_ret (de_and (de_callB call_isi rel_isi (by rfl) b_isinstance (by decide +kernel) (da_cons (de_var 1) (da_cons (de_ty "bool" (by rfl) b_bool (by decide +kernel)) da_nil))) (de_and (de_callB call_isi rel_isi (by rfl) b_isinstance (by decide +kernel) (da_cons (de_var 0) (da_cons (de_ty "bool" (by rfl) b_bool (by decide +kernel)) da_nil))) (de_one (de_eq hr.units (de_var 0) (de_var 1))))))) dss_nil) (dss_cons (ds_if (dt_tru (de_callB call_isi rel_isi (by rfl) b_isinstance (by decide +kernel) (da_cons (de_var 1) (da_cons (de_ty "int" (by rfl) b_int (by decide +kernel)) da_nil)))) (dss_one (ds_ret (de_and (de_callB call_isi rel_isi (by rfl) b_isinstance (by decide +kernel) (da_cons (de_var 0) (da_cons (de_ty "int" (by rfl) b_int (by decide +kernel)) da_nil))) (de_one (de_eq hr.units (de_var 0) (de_var 1)))))) dss_nil) (dss_cons (ds_if (dt_tru (de_callB call_isi rel_isi (by rfl) b_isinstance (by decide +kernel) (da_cons (de_var 1) (da_cons (de_ty "str" (by rfl) b_str (by decide +kernel)) da_nil)))) (dss_one (ds_ret (de_and (de_callB call_isi rel_isi (by rfl) b_isinstance (by decide +kernel) (da_cons (de_var 0) (da_cons (de_ty "str" (by rfl) b_str (by decide +kernel)) da_nil))) (de_one (de_eq hr.units (de_var 0) (de_var 1)))))) dss_nil) (dss_cons (ds_if (PW.pt (dw_and (dt_tru (de_callB call_isi rel_isi (by rfl) b_isinstance (by decide +kernel) (da_cons (de_var 1) (da_cons (de_ty "tuple" (by rfl) b_tuple (by decide +kernel)) da_nil)))) (dw_and1 (dt_not (dt_tru (de_callB call_isi rel_isi (by rfl) b_isinstance (by decide +kernel) (da_cons (de_var 0) (da_cons (de_ty "tuple" (by rfl) b_tuple (by decide +kernel)) da_nil)))))))) (dss_one (ds_ret de_bl)) dss_nil) (dss_cons (ds_if (PW.pt (dw_and (dt_tru (de_callB call_isi rel_isi (by rfl) b_isinstance (by decide +kernel) (da_cons (de_var 1) (da_cons (de_ty "list" (by rfl) b_list (by decide +kernel)) da_nil)))) (dw_and1 (dt_not (dt_tru (de_callB call_isi rel_isi (by rfl) b_isinstance (by decide +kernel) (da_cons (de_var 0) (da_cons (de_ty "list" (by rfl) b_list (by decide +kernel)) da_nil)))))))) (dss_one (ds_ret de_bl)) dss_nil) (dss_cons (ds_if (dt_ne hr.units (de_callB call_len rel_len (by rfl) b_len (by decide +kernel) (da_cons (de_var 0) da_nil)) (de_callB call_len rel_len (by rfl) b_len (by decide +kernel) (da_cons (de_var 1) da_nil))) (dss_one (ds_ret de_bl)) dss_nil) (dss_one (ds_ret (de_callB (cr_all rfl) rel_all (by rfl) b_all (by decide +kernel) (da_cons (de_lc (own := [("at", 2)]) false rfl sc_law_same.nd (di_r1 (by rfl) b_range (da_cons (de_callB call_len rel_len (by rfl) b_len (by decide +kernel) (da_cons (de_var 1) da_nil)) da_nil)) (blkOk_by (own := [("at", 2)]) (N := N_law_same) (sc := defScope s_law_same) (by decide +kernel)) (relg_name 2) (fun _ _ _ _ _ => (pg_name (i := 2) sc_law_same.nd rfl (by first | exact Or.inl rfl | exact Or.inr rfl))) (fun _ _ _ _ _ => dps_nil) (fun _ _ _ _ _ => (de_cal C_law_same hr (da_cons (de_idx (de_var 0) (de_var 2)) (da_cons (de_idx (de_var 1) (de_var 2)) da_nil))))) da_nil)))))))))))
theorem body_law_common (b_abs : mg "abs" = none) (hr : Room k (A.deeper (envOfC "_law_common" (defScope s_law_common) s.heap.objs.size f cdv))) :
    DSs (cxOf CX0 P w K mg base N_law_common "_law_common" (defScope s_law_common) f cdv A outer s H E).nox (defBody s_law_common) t_law_common :=
  (dss_cons (ds_while PassesOwn.never (dt_ne hr.units (de_var 1) de_int) (dss_cons (ds_set (i := 2) sc_law_common.nd (de_sub (de_var 0) (de_mul false (de_fdiv (de_var 0) (de_var 1)) (de_var 1)))) (dss_cons (ds_set (i := 0) sc_law_common.nd (de_var 1)) (dss_one (ds_set (i := 1) sc_law_common.nd (de_var 2)))))) (dss_one (ds_ret (de_callB call_abs rel_abs (by rfl) b_abs (by decide +kernel) (da_cons (de_var 0) da_nil)))))
theorem body_law_ratio (C_law_common : Cal P w K mg base k "_law_common" ["a", "b"] sp_law_common) (hr : Room k (A.deeper (envOfC "_law_ratio" (defScope s_law_ratio) s.heap.objs.size f cdv))) :
    DSs (cxOf CX0 P w K mg base N_law_ratio "_law_ratio" (defScope s_law_ratio) f cdv A outer s H E).nox (defBody s_law_ratio) t_law_ratio :=
  (dss_cons (ds_set (i := 2) sc_law_ratio.nd (de_cal C_law_common hr (da_cons (de_var 0) (da_cons (de_var 1) da_nil)))) (dss_cons (ds_if (dt_lt (de_var 1) de_int) (dss_one (ds_set (i := 2) sc_law_ratio.nd (de_neg (de_var 2)))) dss_nil) (dss_one (ds_ret (de_tup (da_cons (de_fdiv (de_var 0) (de_var 2)) (da_cons (de_fdiv (de_var 1) (de_var 2)) da_nil)))))))
theorem body_law_isqrt  (hr : Room k (A.deeper (envOfC "_law_isqrt" (defScope s_law_isqrt) s.heap.objs.size f cdv))) :
    DSs (cxOf CX0 P w K mg base N_law_isqrt "_law_isqrt" (defScope s_law_isqrt) f cdv A outer s H E).nox (defBody s_law_isqrt) t_law_isqrt :=
  (dss_cons (ds_if (dt_lt (de_var 0) de_int) (dss_one (ds_ret (de_var 0))) dss_nil) (dss_cons (ds_set (i := 1) sc_law_isqrt.nd (de_shl de_int (de_fdiv (de_add false (de_bits (de_var 0)) de_int) de_int))) (dss_cons (ds_set (i := 2) sc_law_isqrt.nd (de_fdiv (de_add false (de_var 1) (de_fdiv (de_var 0) (de_var 1))) de_int)) (dss_cons (ds_while PassesOwn.never (dt_lt (de_var 2) (de_var 1)) (dss_cons (ds_set (i := 1) sc_law_isqrt.nd (de_var 2)) (dss_one (ds_set (i := 2) sc_law_isqrt.nd (de_fdiv (de_add false (de_var 1) (de_fdiv (de_var 0) (de_var 1))) de_int))))) (dss_one (ds_ret (de_var 1)))))))
theorem body_law_surd (C_law_isqrt : Cal P w K mg base k "_law_isqrt" ["n"] sp_law_isqrt) (C_law_common : Cal P w K mg base k "_law_common" ["a", "b"] sp_law_common) (hr : Room k (A.deeper (envOfC "_law_surd" (defScope s_law_surd) s.heap.objs.size f cdv))) :
    DSs (cxOf CX0 P w K mg base N_law_surd "_law_surd" (defScope s_law_surd) f cdv A outer s H E).nox (defBody s_law_surd) t_law_surd :=
  (dss_cons (ds_set (i := 4) sc_law_surd.nd (de_cal C_law_isqrt hr (da_cons (de_var 2) da_nil))) (dss_cons (ds_if (dt_eq hr.units (de_mul false (de_var 4) (de_var 4)) (de_var 2)) (dss_cons (ds_set (i := 0) sc_law_surd.nd (de_add false (de_var 0) (de_mul false (de_var 1) (de_var 4)))) (dss_one (ds_set (i := 1) sc_law_surd.nd de_int))) dss_nil) (dss_cons (ds_if (dt_eq hr.units (de_var 1) de_int) (dss_one (ds_set (i := 2) sc_law_surd.nd de_int)) dss_nil) (dss_cons (ds_set (i := 5) sc_law_surd.nd (de_cal C_law_common hr (da_cons (de_cal C_law_common hr (da_cons (de_var 0) (da_cons (de_var 1) da_nil))) (da_cons (de_var 3) da_nil)))) (dss_cons (ds_if (dt_lt (de_var 3) de_int) (dss_one (ds_set (i := 5) sc_law_surd.nd (de_neg (de_var 5)))) dss_nil) (dss_one (ds_ret (de_tup (da_cons (de_fdiv (de_var 0) (de_var 5)) (da_cons (de_fdiv (de_var 1) (de_var 5)) (da_cons (de_var 2) (da_cons (de_fdiv (de_var 3) (de_var 5)) da_nil))))))))))))
theorem body_law_sign  (hr : Room k (A.deeper (envOfC "_law_sign" (defScope s_law_sign) s.heap.objs.size f cdv))) :
    DSs (cxOf CX0 P w K mg base N_law_sign "_law_sign" (defScope s_law_sign) f cdv A outer s H E).nox (defBody s_law_sign) t_law_sign :=
  (dss_one (ds_ret (de_ifx (dt_gt (de_var 0) de_int) de_int (de_ifx (dt_lt (de_var 0) de_int) (de_neg de_int) de_int))))
theorem body_law_sign_two (C_law_sign : Cal P w K mg base k "_law_sign" ["n"] sp_law_sign) (hr : Room k (A.deeper (envOfC "_law_sign_two" (defScope s_law_sign_two) s.heap.objs.size f cdv))) :
    DSs (cxOf CX0 P w K mg base N_law_sign_two "_law_sign_two" (defScope s_law_sign_two) f cdv A outer s H E).nox (defBody s_law_sign_two) t_law_sign_two :=
  (dss_cons (ds_if (PW.pt (dw_or (dt_eq hr.units (de_var 1) de_int) (dw_or1 (dt_eq hr.units (de_var 2) de_int)))) (dss_one (ds_ret (de_cal C_law_sign hr (da_cons (de_var 0) da_nil)))) dss_nil) (dss_cons (ds_if (PW.pt (dw_or (dt_eq hr.units (de_var 0) de_int) (dw_or1 (dt_eq hr.units (de_gt (de_var 0) de_int) (de_gt (de_var 1) de_int))))) (dss_one (ds_ret (de_cal C_law_sign hr (da_cons (de_var 1) da_nil)))) dss_nil) (dss_one (ds_ret (de_mul false (de_cal C_law_sign hr (da_cons (de_var 0) da_nil)) (de_cal C_law_sign hr (da_cons (de_sub (de_mul false (de_var 0) (de_var 0)) (de_mul false (de_mul false (de_var 1) (de_var 1)) (de_var 2))) da_nil)))))))
theorem body_law_sign_three (C_law_sign_two : Cal P w K mg base k "_law_sign_two" ["a", "b", "c"] sp_law_sign_two) (C_law_sign : Cal P w K mg base k "_law_sign" ["n"] sp_law_sign) (hr : Room k (A.deeper (envOfC "_law_sign_three" (defScope s_law_sign_three) s.heap.objs.size f cdv))) :
    DSs (cxOf CX0 P w K mg base N_law_sign_three "_law_sign_three" (defScope s_law_sign_three) f cdv A outer s H E).nox (defBody s_law_sign_three) t_law_sign_three :=
  (dss_cons (ds_set (i := 5) sc_law_sign_three.nd (de_cal C_law_sign_two hr (da_cons (de_var 0) (da_cons (de_var 1) (da_cons (de_var 2) da_nil))))) (dss_cons (ds_set (i := 6) sc_law_sign_three.nd (de_ifx (dt_gt (de_var 4) de_int) (de_cal C_law_sign hr (da_cons (de_var 3) da_nil)) de_int)) (dss_cons (ds_if (PW.pt (dw_or (dt_eq hr.units (de_var 5) de_int) (dw_or (dt_eq hr.units (de_var 6) de_int) (dw_or1 (dt_eq hr.units (de_var 5) (de_var 6)))))) (dss_one (ds_ret (de_ifx (dt_ne hr.units (de_var 5) de_int) (de_var 5) (de_var 6)))) dss_nil) (dss_one (ds_ret (de_mul false (de_var 5) (de_cal C_law_sign_two hr (da_cons (de_sub (de_add false (de_mul false (de_var 0) (de_var 0)) (de_mul false (de_mul false (de_var 1) (de_var 1)) (de_var 2))) (de_mul false (de_mul false (de_var 3) (de_var 3)) (de_var 4))) (da_cons (de_mul false (de_mul false de_int (de_var 0)) (de_var 1)) (da_cons (de_var 2) da_nil))))))))))
theorem body_law_surd_order (C_law_sign_three : Cal P w K mg base k "_law_sign_three" ["a", "b", "c", "d", "e"] sp_law_sign_three) (hr : Room k (A.deeper (envOfC "_law_surd_order" (defScope s_law_surd_order) s.heap.objs.size f cdv))) :
    DSs (cxOf CX0 P w K mg base N_law_surd_order "_law_surd_order" (defScope s_law_surd_order) f cdv A outer s H E).nox (defBody s_law_surd_order) t_law_surd_order :=
  (dss_one (ds_ret (de_cal C_law_sign_three hr (da_cons (de_sub (de_mul false (de_idx (de_var 0) de_int) (de_idx (de_var 1) de_int)) (de_mul false (de_idx (de_var 1) de_int) (de_idx (de_var 0) de_int))) (da_cons (de_mul false (de_idx (de_var 0) de_int) (de_idx (de_var 1) de_int)) (da_cons (de_idx (de_var 0) de_int) (da_cons (de_mul false (de_neg (de_idx (de_var 1) de_int)) (de_idx (de_var 0) de_int)) (da_cons (de_idx (de_var 1) de_int) da_nil))))))))
theorem body_law_surd_floor (C_law_isqrt : Cal P w K mg base k "_law_isqrt" ["n"] sp_law_isqrt) (hr : Room k (A.deeper (envOfC "_law_surd_floor" (defScope s_law_surd_floor) s.heap.objs.size f cdv))) :
    DSs (cxOf CX0 P w K mg base N_law_surd_floor "_law_surd_floor" (defScope s_law_surd_floor) f cdv A outer s H E).nox (defBody s_law_surd_floor) t_law_surd_floor :=
  (dss_cons (ds_if (dt_eq hr.units (de_idx (de_var 0) de_int) de_int) (dss_one (ds_ret (de_fdiv (de_mul false (de_idx (de_var 0) de_int) (de_var 1)) (de_idx (de_var 0) de_int)))) dss_nil) (dss_cons (ds_set (i := 2) sc_law_surd_floor.nd (de_cal C_law_isqrt hr (da_cons (de_mul false (de_mul false (de_mul false (de_mul false (de_idx (de_var 0) de_int) (de_idx (de_var 0) de_int)) (de_idx (de_var 0) de_int)) (de_var 1)) (de_var 1)) da_nil))) (dss_one (ds_ret (de_ifx (dt_gt (de_idx (de_var 0) de_int) de_int) (de_fdiv (de_add false (de_mul false (de_idx (de_var 0) de_int) (de_var 1)) (de_var 2)) (de_idx (de_var 0) de_int)) (de_fdiv (de_sub (de_sub (de_mul false (de_idx (de_var 0) de_int) (de_var 1)) (de_var 2)) de_int) (de_idx (de_var 0) de_int)))))))
theorem body_law_surd_key (C_law_common : Cal P w K mg base k "_law_common" ["a", "b"] sp_law_common) (b_tuple : mg "tuple" = none) (hr : Room k (A.deeper (envOfC "_law_surd_key" (defScope s_law_surd_key) s.heap.objs.size f cdv))) :
    DSs (cxOf CX0 P w K mg base N_law_surd_key "_law_surd_key" (defScope s_law_surd_key) f cdv A outer s H E).nox (defBody s_law_surd_key) t_law_surd_key :=
  (dss_cons (ds_if (dt_eq hr.units (de_idx (de_var 0) de_int) de_int) (dss_one (ds_ret (de_tup (da_cons (de_tup (da_cons (de_neg (de_idx (de_var 0) de_int)) (da_cons (de_idx (de_var 0) de_int) da_nil))) (da_cons de_int da_nil))))) dss_nil) (dss_cons (ds_set (i := 1) sc_law_surd_key.nd (de_lst false (da_cons (de_sub (de_mul false (de_idx (de_var 0) de_int) (de_idx (de_var 0) de_int)) (de_mul false (de_mul false (de_idx (de_var 0) de_int) (de_idx (de_var 0) de_int)) (de_idx (de_var 0) de_int))) (da_cons (de_mul false (de_mul false (de_neg de_int) (de_idx (de_var 0) de_int)) (de_idx (de_var 0) de_int)) (da_cons (de_mul false (de_idx (de_var 0) de_int) (de_idx (de_var 0) de_int)) da_nil))))) (dss_cons (ds_set (i := 2) sc_law_surd_key.nd (de_cal C_law_common hr (da_cons (de_cal C_law_common hr (da_cons (de_idx (de_var 1) de_int) (da_cons (de_idx (de_var 1) de_int) da_nil))) (da_cons (de_idx (de_var 1) de_int) da_nil)))) (dss_one (ds_ret (de_tup (da_cons (de_callTy call_tuple_of rel_tupOf (by rfl) b_tuple (by decide +kernel) (da_cons (de_lc (own := [("one", 3)]) false rfl sc_law_surd_key.nd (di_seq (de_var 1)) (blkOk_by (own := [("one", 3)]) (N := N_law_surd_key) (sc := defScope s_law_surd_key) (by decide +kernel)) (relg_name 3) (fun _ _ _ _ _ => (pg_name (i := 3) sc_law_surd_key.nd rfl (by first | exact Or.inl rfl | exact Or.inr rfl))) (fun _ _ _ _ _ => dps_nil) (fun _ _ _ _ _ => (de_fdiv (de_var 3) (de_var 2)))) da_nil)) (da_cons (de_ifx (dt_gt (de_idx (de_var 0) de_int) de_int) de_int de_int) da_nil))))))))
theorem body_law_surd_shift (C_law_surd : Cal P w K mg base k "_law_surd" ["a", "b", "c", "d"] sp_law_surd) (hr : Room k (A.deeper (envOfC "_law_surd_shift" (defScope s_law_surd_shift) s.heap.objs.size f cdv))) :
    DSs (cxOf CX0 P w K mg base N_law_surd_shift "_law_surd_shift" (defScope s_law_surd_shift) f cdv A outer s H E).nox (defBody s_law_surd_shift) t_law_surd_shift :=
  (dss_one (ds_ret (de_cal C_law_surd hr (da_cons (de_add false (de_mul false (de_idx (de_var 0) de_int) (de_var 2)) (de_mul false (de_var 1) (de_idx (de_var 0) de_int))) (da_cons (de_mul false (de_idx (de_var 0) de_int) (de_var 2)) (da_cons (de_idx (de_var 0) de_int) (da_cons (de_mul false (de_idx (de_var 0) de_int) (de_var 2)) da_nil)))))))
theorem body_law_wide (C_law_pick : Cal P w K mg base k "_law_pick" ["source", "many"] sp_law_pick) (hr : Room k (A.deeper (envOfC "_law_wide" (defScope s_law_wide) s.heap.objs.size f cdv))) :
    DSs (cxOf CX0 P w K mg base N_law_wide "_law_wide" (defScope s_law_wide) f cdv A outer s H E).nox (defBody s_law_wide) t_law_wide :=
  (dss_cons (ds_if (dt_eq hr.units (de_cal C_law_pick hr (da_cons (de_var 0) (da_cons de_int da_nil))) de_int) (dss_one (ds_ret (de_sub (de_cal C_law_pick hr (da_cons (de_var 0) (da_cons (de_add false (de_mul false de_int (de_var 2)) de_int) da_nil))) (de_var 2)))) dss_nil) (dss_one (ds_ret (de_sub (de_cal C_law_pick hr (da_cons (de_var 0) (da_cons (de_add false (de_mul false de_int (de_var 1)) de_int) da_nil))) (de_var 1)))))
theorem body_law_drawn_surd (C_law_pick : Cal P w K mg base k "_law_pick" ["source", "many"] sp_law_pick) (C_law_wide : Cal P w K mg base k "_law_wide" ["source", "small", "great"] sp_law_wide) (C_law_surd : Cal P w K mg base k "_law_surd" ["a", "b", "c", "d"] sp_law_surd) (hr : Room k (A.deeper (envOfC "_law_drawn_surd" (defScope s_law_drawn_surd) s.heap.objs.size f cdv))) :
    DSs (cxOf CX0 P w K mg base N_law_drawn_surd "_law_drawn_surd" (defScope s_law_drawn_surd) f cdv A outer s H E).nox (defBody s_law_drawn_surd) t_law_drawn_surd :=
  (dss_cons (ds_set (i := 3) sc_law_drawn_surd.nd (de_add false de_int (de_cal C_law_pick hr (da_cons (de_var 0) (da_cons de_int da_nil))))) (dss_cons (ds_set (i := 4) sc_law_drawn_surd.nd (de_cal C_law_wide hr (da_cons (de_var 0) (da_cons de_int (da_cons (de_var 2) da_nil))))) (dss_cons (ds_set (i := 5) sc_law_drawn_surd.nd (de_ifx (dt_lt (de_cal C_law_pick hr (da_cons (de_var 0) (da_cons de_int da_nil))) (de_var 1)) de_int (de_idx (de_lst false (da_cons de_int (da_cons (de_neg de_int) (da_cons de_int (da_cons (de_neg de_int) (da_cons de_int da_nil)))))) (de_cal C_law_pick hr (da_cons (de_var 0) (da_cons de_int da_nil)))))) (dss_one (ds_ret (de_cal C_law_surd hr (da_cons (de_var 4) (da_cons (de_var 5) (da_cons (de_add false de_int (de_cal C_law_pick hr (da_cons (de_var 0) (da_cons de_int da_nil)))) (da_cons (de_var 3) da_nil))))))))))
theorem body_law_k64_fractions (C_law_wide : Cal P w K mg base k "_law_wide" ["source", "small", "great"] sp_law_wide) (C_law_pick : Cal P w K mg base k "_law_pick" ["source", "many"] sp_law_pick) (C_law_ratio : Cal P w K mg base k "_law_ratio" ["p", "q"] sp_law_ratio) (C_law_one : Cal P w K mg base k "_law_one" ["source", "things"] sp_law_one) (C_law_surd_floor : Cal P w K mg base k "_law_surd_floor" ["x", "n"] sp_law_surd_floor) (hr : Room k (A.deeper (envOfC "_law_k64_fractions" (defScope s_law_k64_fractions) s.heap.objs.size f cdv))) :
    DSs (cxOf CX0 P w K mg base N_law_k64_fractions "_law_k64_fractions" (defScope s_law_k64_fractions) f cdv A outer s H E).nox (defBody s_law_k64_fractions) t_law_k64_fractions :=
  (dss_cons (ds_set (i := 3) sc_law_k64_fractions.nd (de_lst true (da_cons (de_cal C_law_ratio hr (da_cons (de_cal C_law_wide hr (da_cons (de_var 0) (da_cons de_int (da_cons (de_pow de_int de_int) da_nil)))) (da_cons (de_add false de_int (de_cal C_law_pick hr (da_cons (de_var 0) (da_cons de_int da_nil)))) da_nil))) da_nil))) (dss_cons (ds_for (vs := [4]) PassesOwn.never rfl (di_seq (de_tup (da_cons (de_var 1) (da_cons (de_var 2) da_nil)))) (pg_name (i := 4) sc_law_k64_fractions.nd rfl (by first | exact Or.inl rfl | exact Or.inr rfl)) (relg_name 4) (dss_cons (ds_set (i := 5) sc_law_k64_fractions.nd (de_cal C_law_one hr (da_cons (de_var 0) (da_cons (de_lst false (da_cons de_int (da_cons de_int (da_cons de_int (da_cons (de_pow de_int de_int) (da_cons (de_pow de_int de_int) da_nil)))))) da_nil)))) (dss_cons (ds_set (i := 6) sc_law_k64_fractions.nd (de_cal C_law_surd_floor hr (da_cons (de_var 4) (da_cons (de_var 5) da_nil)))) (dss_cons (ds_expr (de_bm tyV_list rel_append PySem.F.plainAttrs_list PySem.F.slot_list_append PySem.F.type_list_append mt_append (de_var 3) (da_cons (de_cal C_law_ratio hr (da_cons (de_var 6) (da_cons (de_var 5) da_nil))) da_nil))) (dss_cons (ds_expr (de_bm tyV_list rel_append PySem.F.plainAttrs_list PySem.F.slot_list_append PySem.F.type_list_append mt_append (de_var 3) (da_cons (de_cal C_law_ratio hr (da_cons (de_add false (de_var 6) de_int) (da_cons (de_var 5) da_nil))) da_nil))) (dss_one (ds_if (dt_eq hr.units (de_idx (de_var 4) de_int) de_int) (dss_cons (ds_expr (de_bm tyV_list rel_append PySem.F.plainAttrs_list PySem.F.slot_list_append PySem.F.type_list_append mt_append (de_var 3) (da_cons (de_cal C_law_ratio hr (da_cons (de_idx (de_var 4) de_int) (da_cons (de_idx (de_var 4) de_int) da_nil))) da_nil))) (dss_one (ds_expr (de_bm tyV_list rel_append PySem.F.plainAttrs_list PySem.F.slot_list_append PySem.F.type_list_append mt_append (de_var 3) (da_cons (de_cal C_law_ratio hr (da_cons (de_sub (de_add false (de_mul false (de_idx (de_var 4) de_int) (de_pow de_int de_int)) de_int) (de_mul false de_int (de_cal C_law_pick hr (da_cons (de_var 0) (da_cons de_int da_nil))))) (da_cons (de_mul false (de_idx (de_var 4) de_int) (de_pow de_int de_int)) da_nil))) da_nil))))) dss_nil))))))) (dss_one (ds_ret (de_var 3)))))
theorem body_law_k64_due (C_law_surd_order : Cal P w K mg base k "_law_surd_order" ["x", "y"] sp_law_surd_order) (hr : Room k (A.deeper (envOfC "_law_k64_due" (defScope s_law_k64_due) s.heap.objs.size f cdv))) :
    DSs (cxOf CX0 P w K mg base N_law_k64_due "_law_k64_due" (defScope s_law_k64_due) f cdv A outer s H E).nox (defBody s_law_k64_due) t_law_k64_due :=
  (dss_cons (ds_set (i := 3) sc_law_k64_due.nd (de_tup (da_cons (de_idx (de_var 2) de_int) (da_cons de_int (da_cons de_int (da_cons (de_idx (de_var 2) de_int) da_nil)))))) (dss_cons (ds_if (dt_ge (de_cal C_law_surd_order hr (da_cons (de_var 0) (da_cons (de_var 3) da_nil))) de_int) (dss_one (ds_ret (de_str [108, 111, 119]))) dss_nil) (dss_one (ds_ret (de_ifx (dt_ge (de_cal C_law_surd_order hr (da_cons (de_var 3) (da_cons (de_var 1) da_nil))) de_int) (de_str [104, 105, 103, 104]) de_non)))))
theorem body_law_k64_cube (C_law_one : Cal P w K mg base k "_law_one" ["source", "things"] sp_law_one) (C_law_pick : Cal P w K mg base k "_law_pick" ["source", "many"] sp_law_pick) (C_law_ratio : Cal P w K mg base k "_law_ratio" ["p", "q"] sp_law_ratio) (C_judge_order : Cal P w K mg base k "judge_order" ["a", "b", "q"] sp_judge_order) (C_law_same : Cal P w K mg base k "_law_same" ["answer", "due"] sp_law_same) (b_range : mg "range" = none) (hr : Room k (A.deeper (envOfC "_law_k64_cube" (defScope s_law_k64_cube) s.heap.objs.size f cdv))) :
    DSs (cxOf CX0 P w K mg base N_law_k64_cube "_law_k64_cube" (defScope s_law_k64_cube) f cdv A outer s H E).nox (defBody s_law_k64_cube) t_law_k64_cube :=
  (dss_cons (ds_set (i := 1) sc_law_k64_cube.nd (de_cal C_law_one hr (da_cons (de_var 0) (da_cons (de_lst false (da_cons de_int (da_cons de_int (da_cons de_int (da_cons de_int (da_cons de_int (da_cons de_int (da_cons de_int da_nil)))))))) da_nil)))) (dss_cons (ds_set (i := 2) sc_law_k64_cube.nd (de_tup (da_cons (de_tup (da_cons (de_sub de_int (de_var 1)) (da_cons de_int (da_cons de_int (da_cons de_int da_nil))))) (da_cons de_int da_nil)))) (dss_cons (ds_set (i := 3) sc_law_k64_cube.nd (de_tup (da_cons (de_tup (da_cons (de_sub de_int (de_var 1)) (da_cons de_int da_nil))) (da_cons de_int da_nil)))) (dss_cons (ds_for (vs := [4]) PassesOwn.never rfl (di_r1 (by rfl) b_range (da_cons de_int da_nil)) (pg_name (i := 4) sc_law_k64_cube.nd rfl (by first | exact Or.inl rfl | exact Or.inr rfl)) (relg_name 4) (dss_cons (ds_set (i := 5) sc_law_k64_cube.nd (de_cal C_law_ratio hr (da_cons (de_cal C_law_pick hr (da_cons (de_var 0) (da_cons de_int da_nil))) (da_cons (de_add false de_int (de_cal C_law_pick hr (da_cons (de_var 0) (da_cons de_int da_nil)))) da_nil)))) (dss_cons (ds_set (i := 6) sc_law_k64_cube.nd (de_lt (de_mul false (de_mul false (de_idx (de_var 5) de_int) (de_idx (de_var 5) de_int)) (de_idx (de_var 5) de_int)) (de_mul false (de_mul false (de_mul false (de_var 1) (de_idx (de_var 5) de_int)) (de_idx (de_var 5) de_int)) (de_idx (de_var 5) de_int)))) (dss_cons (ds_set (i := 7) sc_law_k64_cube.nd (de_ifx (dt_tru (de_var 6)) (de_str [108, 111, 119]) (de_ifx (dt_ge (de_idx (de_var 5) de_int) (de_mul false (de_var 1) (de_idx (de_var 5) de_int))) (de_str [104, 105, 103, 104]) de_non))) (dss_cons (ds_if (dt_not (dt_tru (de_cal C_law_same hr (da_cons (de_cal C_judge_order hr (da_cons (de_var 2) (da_cons (de_var 3) (da_cons (de_var 5) da_nil)))) (da_cons (de_var 7) da_nil))))) (dss_one (ds_ret de_bl)) dss_nil) (dss_cons (ds_set (i := 8) sc_law_k64_cube.nd (de_ifx (dt_le (de_idx (de_var 5) de_int) de_int) (de_str [108, 111, 119]) (de_ifx (dt_tru (de_var 6)) de_non (de_str [104, 105, 103, 104])))) (dss_one (ds_if (dt_not (dt_tru (de_cal C_law_same hr (da_cons (de_cal C_judge_order hr (da_cons (de_tup (da_cons (de_tup (da_cons de_int (da_cons de_int da_nil))) (da_cons de_int da_nil))) (da_cons (de_var 2) (da_cons (de_var 5) da_nil)))) (da_cons (de_var 8) da_nil))))) (dss_one (ds_ret de_bl)) dss_nil)))))))) (dss_one (ds_ret de_bl))))))
theorem body_law (C_law_source : Cal P w K mg base k "_law_source" ["script", "at"] sp_law_source) (C_law_drawn_surd : Cal P w K mg base k "_law_drawn_surd" ["source", "roots", "great"] sp_law_drawn_surd) (C_law_pick : Cal P w K mg base k "_law_pick" ["source", "many"] sp_law_pick) (C_law_one : Cal P w K mg base k "_law_one" ["source", "things"] sp_law_one) (C_law_surd_shift : Cal P w K mg base k "_law_surd_shift" ["x", "p", "q"] sp_law_surd_shift) (C_law_surd_order : Cal P w K mg base k "_law_surd_order" ["x", "y"] sp_law_surd_order) (C_law_surd_key : Cal P w K mg base k "_law_surd_key" ["x"] sp_law_surd_key) (C_law_k64_fractions : Cal P w K mg base k "_law_k64_fractions" ["source", "one", "two"] sp_law_k64_fractions) (C_judge_order : Cal P w K mg base k "judge_order" ["a", "b", "q"] sp_judge_order) (C_law_k64_due : Cal P w K mg base k "_law_k64_due" ["one", "two", "q"] sp_law_k64_due) (C_law_same : Cal P w K mg base k "_law_same" ["answer", "due"] sp_law_same) (C_law_k64_cube : Cal P w K mg base k "_law_k64_cube" ["source"] sp_law_k64_cube) (hr : Room k (A.deeper (envOfC "law" (defScope s_law) s.heap.objs.size f cdv))) :
    DSs (cxOf CX0 P w K mg base N_law "law" (defScope s_law) f cdv A outer s H E).nox (defBody s_law) t_law :=
  (dss_cons (ds_set (i := 1) sc_law.nd (de_cal C_law_source hr (da_cons (de_var 0) (da_cons de_int da_nil)))) (dss_cons (ds_set (i := 2) sc_law.nd (de_cal C_law_drawn_surd hr (da_cons (de_var 1) (da_cons de_int (da_cons (de_pow de_int de_int) da_nil))))) (dss_cons (ds_set (i := 3) sc_law.nd (de_cal C_law_pick hr (da_cons (de_var 1) (da_cons de_int da_nil)))) (dss_cons (ds_set (i := 4) sc_law.nd (de_ifx (dt_eq hr.units (de_var 3) de_int) (de_cal C_law_surd_shift hr (da_cons (de_var 2) (da_cons de_int (da_cons (de_cal C_law_one hr (da_cons (de_var 1) (da_cons (de_lst false (da_cons de_int (da_cons de_int (da_cons (de_pow de_int de_int) (da_cons (de_pow de_int de_int) da_nil))))) da_nil))) da_nil)))) (de_ifx (dt_eq hr.units (de_var 3) de_int) (de_var 2) (de_cal C_law_drawn_surd hr (da_cons (de_var 1) (da_cons de_int (da_cons (de_pow de_int de_int) da_nil))))))) (dss_cons (ds_if (PW.pt (dw_and (dt_lt (de_cal C_law_surd_order hr (da_cons (de_var 4) (da_cons (de_var 2) da_nil))) de_int) (dw_and1 (dt_gt (de_cal C_law_pick hr (da_cons (de_var 1) (da_cons de_int da_nil))) de_int)))) (dss_one (ds_par (i := 2) (j := 4) rfl sc_law.nd (da_cons (de_var 4) (da_cons (de_var 2) da_nil)))) dss_nil) (dss_cons (ds_set (i := 5) sc_law.nd (de_cal C_law_surd_key hr (da_cons (de_var 2) da_nil))) (dss_cons (ds_set (i := 6) sc_law.nd (de_cal C_law_surd_key hr (da_cons (de_var 4) da_nil))) (dss_cons (ds_for (vs := [7]) PassesOwn.never rfl (di_seq (de_cal C_law_k64_fractions hr (da_cons (de_var 1) (da_cons (de_var 2) (da_cons (de_var 4) da_nil))))) (pg_name (i := 7) sc_law.nd rfl (by first | exact Or.inl rfl | exact Or.inr rfl)) (relg_name 7) (dss_one (ds_if (PW.pt (dw_or (dt_not (dt_tru (de_cal C_law_same hr (da_cons (de_cal C_judge_order hr (da_cons (de_var 5) (da_cons (de_var 6) (da_cons (de_var 7) da_nil)))) (da_cons (de_cal C_law_k64_due hr (da_cons (de_var 2) (da_cons (de_var 4) (da_cons (de_var 7) da_nil)))) da_nil))))) (dw_or1 (dt_not (dt_tru (de_cal C_law_same hr (da_cons (de_cal C_judge_order hr (da_cons (de_var 6) (da_cons (de_var 5) (da_cons (de_var 7) da_nil)))) (da_cons (de_cal C_law_k64_due hr (da_cons (de_var 4) (da_cons (de_var 2) (da_cons (de_var 7) da_nil)))) da_nil)))))))) (dss_one (ds_ret de_bl)) dss_nil))) (dss_one (ds_ret (de_cal C_law_k64_cube hr (da_cons (de_cal C_law_source hr (da_cons (de_var 0) (da_cons de_int da_nil))) da_nil))))))))))))
end
theorem len_gcd_of : ∀ ds M Q E, sp_gcd_of ds M Q E → ds.length = 2 := by
  intro ds M Q E h
  obtain ⟨_, _, rfl, _⟩ := h
  rfl
theorem len_less_q : ∀ ds M Q E, sp_less_q ds M Q E → ds.length = 2 := fun _ _ _ _ h => h.elim
theorem len_trimmed : ∀ ds M Q E, sp_trimmed ds M Q E → ds.length = 1 := by
  intro ds M Q E h
  obtain ⟨_, _, rfl, _⟩ := h
  rfl
theorem len_content : ∀ ds M Q E, sp_content ds M Q E → ds.length = 1 := by
  intro ds M Q E h
  obtain ⟨_, _, rfl, _⟩ := h
  rfl
theorem len_primitive : ∀ ds M Q E, sp_primitive ds M Q E → ds.length = 1 := by
  intro ds M Q E h
  obtain ⟨_, _, rfl, _⟩ := h
  rfl
theorem len_homogeneous : ∀ ds M Q E, sp_homogeneous ds M Q E → ds.length = 2 := by
  intro ds M Q E h
  obtain ⟨_, _, _, rfl, _⟩ := h
  rfl
theorem len_sign : ∀ ds M Q E, sp_sign ds M Q E → ds.length = 2 := by
  intro ds M Q E h
  obtain ⟨_, _, _, rfl, _⟩ := h
  rfl
theorem len_derived : ∀ ds M Q E, sp_derived ds M Q E → ds.length = 1 := by
  intro ds M Q E h
  obtain ⟨_, rfl, _⟩ := h
  rfl
theorem len_remainder : ∀ ds M Q E, sp_remainder ds M Q E → ds.length = 2 := by
  intro ds M Q E h
  obtain ⟨_, _, rfl, _⟩ := h
  rfl
theorem len_quotient : ∀ ds M Q E, sp_quotient ds M Q E → ds.length = 2 := by
  intro ds M Q E h
  obtain ⟨_, rfl, _⟩ := h
  rfl
theorem len_common : ∀ ds M Q E, sp_common ds M Q E → ds.length = 2 := by
  intro ds M Q E h
  obtain ⟨_, rfl, _⟩ := h
  rfl
theorem len_free : ∀ ds M Q E, sp_free ds M Q E → ds.length = 1 := by
  intro ds M Q E h
  obtain ⟨_, rfl, _⟩ := h
  rfl
theorem len_chain_of : ∀ ds M Q E, sp_chain_of ds M Q E → ds.length = 1 := by
  intro ds M Q E h
  obtain ⟨_, rfl, _⟩ := h
  rfl
theorem len_changes : ∀ ds M Q E, sp_changes ds M Q E → ds.length = 1 := by
  intro ds M Q E h
  obtain ⟨_, _, rfl, _⟩ := h
  rfl
theorem len_changes_at : ∀ ds M Q E, sp_changes_at ds M Q E → ds.length = 2 := by
  intro ds M Q E h
  obtain ⟨_, _, _, rfl, _⟩ := h
  rfl
theorem len_changes_far : ∀ ds M Q E, sp_changes_far ds M Q E → ds.length = 2 := by
  intro ds M Q E h
  obtain ⟨_, rfl, _⟩ := h
  rfl
theorem len_count_between : ∀ ds M Q E, sp_count_between ds M Q E → ds.length = 3 := by
  intro ds M Q E h
  obtain ⟨_, _, _, rfl, _⟩ := h
  rfl
theorem len_roots_in : ∀ ds M Q E, sp_roots_in ds M Q E → ds.length = 3 := by
  intro ds M Q E h
  obtain ⟨_, _, _, rfl, _⟩ := h
  rfl
theorem len_judge_order : ∀ ds M Q E, sp_judge_order ds M Q E → ds.length = 3 := by
  intro ds M Q E h
  obtain ⟨_, _, _, _, _, _, rfl, _⟩ := h
  rfl
theorem len_law_common : ∀ ds M Q E, sp_law_common ds M Q E → ds.length = 2 := by
  intro ds M Q E h
  obtain ⟨_, _, rfl, _⟩ := h
  rfl
theorem len_law_ratio : ∀ ds M Q E, sp_law_ratio ds M Q E → ds.length = 2 := by
  intro ds M Q E h
  obtain ⟨_, _, rfl, _⟩ := h
  rfl
theorem len_law_isqrt : ∀ ds M Q E, sp_law_isqrt ds M Q E → ds.length = 1 := by
  intro ds M Q E h
  obtain ⟨_, rfl, _⟩ := h
  rfl
theorem len_law_surd : ∀ ds M Q E, sp_law_surd ds M Q E → ds.length = 4 := by
  intro ds M Q E h
  obtain ⟨_, _, _, _, _, _, rfl, _⟩ := h
  rfl
theorem len_law_sign : ∀ ds M Q E, sp_law_sign ds M Q E → ds.length = 1 := by
  intro ds M Q E h
  obtain ⟨_, rfl, _⟩ := h
  rfl
theorem len_law_sign_two : ∀ ds M Q E, sp_law_sign_two ds M Q E → ds.length = 3 := by
  intro ds M Q E h
  obtain ⟨_, _, _, rfl, _⟩ := h
  rfl
theorem len_law_sign_three : ∀ ds M Q E, sp_law_sign_three ds M Q E → ds.length = 5 := by
  intro ds M Q E h
  obtain ⟨_, _, _, _, _, rfl, _⟩ := h
  rfl
theorem len_law_surd_order : ∀ ds M Q E, sp_law_surd_order ds M Q E → ds.length = 2 := by
  intro ds M Q E h
  obtain ⟨_, _, rfl, _⟩ := h
  rfl
theorem len_law_surd_floor : ∀ ds M Q E, sp_law_surd_floor ds M Q E → ds.length = 2 := by
  intro ds M Q E h
  obtain ⟨_, _, rfl, _⟩ := h
  rfl
theorem len_law_surd_key : ∀ ds M Q E, sp_law_surd_key ds M Q E → ds.length = 1 := by
  intro ds M Q E h
  obtain ⟨_, rfl, _⟩ := h
  rfl
theorem len_law_surd_shift : ∀ ds M Q E, sp_law_surd_shift ds M Q E → ds.length = 3 := by
  intro ds M Q E h
  obtain ⟨_, _, rfl, _⟩ := h
  rfl
theorem len_law_wide : ∀ ds M Q E, sp_law_wide ds M Q E → ds.length = 3 := by
  intro ds M Q E h
  obtain ⟨_, _, _, _, _, rfl, _⟩ := h
  rfl
theorem len_law_drawn_surd : ∀ ds M Q E, sp_law_drawn_surd ds M Q E → ds.length = 3 := by
  intro ds M Q E h
  obtain ⟨_, _, _, _, _, rfl, _⟩ := h
  rfl
theorem len_law_k64_fractions : ∀ ds M Q E, sp_law_k64_fractions ds M Q E → ds.length = 3 := by
  intro ds M Q E h
  obtain ⟨_, _, _, _, _, rfl, _⟩ := h
  rfl
theorem len_law_k64_due : ∀ ds M Q E, sp_law_k64_due ds M Q E → ds.length = 3 := by
  intro ds M Q E h
  obtain ⟨_, _, _, _, rfl, _⟩ := h
  rfl
theorem len_law_k64_cube : ∀ ds M Q E, sp_law_k64_cube ds M Q E → ds.length = 1 := by
  intro ds M Q E h
  obtain ⟨_, _, _, rfl, _⟩ := h
  rfl
theorem len_law : ∀ ds M Q E, sp_law ds M Q E → ds.length = 1 := by
  intro ds M Q E h
  obtain ⟨_, rfl, _⟩ := h
  rfl
abbrev R : PySem.W.OpenRow := PySem.W.OpenLaw.row PySem.Challenge.rw_readapart_k64_fractions_strictly_between
def fn : List He.DefD := [mkD "gcd_of" (top 4), mkD "less_q" (top 5), mkD "trimmed" (top 7), mkD "content" (top 8), mkD "primitive" (top 9), mkD "homogeneous" (top 10), mkD "sign" (top 11), mkD "derived" (top 12), mkD "remainder" (top 13), mkD "quotient" (top 14), mkD "common" (top 15), mkD "free" (top 16), mkD "chain_of" (top 18), mkD "changes" (top 19), mkD "changes_at" (top 20), mkD "changes_far" (top 21), mkD "count_between" (top 22), mkD "roots_in" (top 23), mkD "judge_order" (top 25), mkD "_law_source" (top 27), mkD "_law_pick" (top 28), mkD "_law_one" (top 29), mkD "_law_same" (top 30), mkD "_law_common" (top 31), mkD "_law_ratio" (top 32), mkD "_law_isqrt" (top 33), mkD "_law_surd" (top 34), mkD "_law_sign" (top 35), mkD "_law_sign_two" (top 36), mkD "_law_sign_three" (top 37), mkD "_law_surd_order" (top 38), mkD "_law_surd_floor" (top 39), mkD "_law_surd_key" (top 40), mkD "_law_surd_shift" (top 41), mkD "_law_wide" (top 42), mkD "_law_drawn_surd" (top 43), mkD "_law_k64_fractions" (top 44), mkD "_law_k64_due" (top 45), mkD "_law_k64_cube" (top 46), mkD "law" (top 47)]
def fa : List He.Fa := [.glo "gcd_of", .glo "less_q", .glo "trimmed", .glo "content", .glo "primitive", .glo "homogeneous", .glo "sign", .glo "derived", .glo "remainder", .glo "quotient", .glo "common", .glo "free", .glo "chain_of", .glo "changes", .glo "changes_at", .glo "changes_far", .glo "count_between", .glo "roots_in", .glo "judge_order", .glo "_law_source", .glo "_law_pick", .glo "_law_one", .glo "_law_same", .glo "_law_common", .glo "_law_ratio", .glo "_law_isqrt", .glo "_law_surd", .glo "_law_sign", .glo "_law_sign_two", .glo "_law_sign_three", .glo "_law_surd_order", .glo "_law_surd_floor", .glo "_law_surd_key", .glo "_law_surd_shift", .glo "_law_wide", .glo "_law_drawn_surd", .glo "_law_k64_fractions", .glo "_law_k64_due", .glo "_law_k64_cube", .glo "law", .free "abs", .free "len", .free "tuple", .free "reversed", .free "range", .free "list", .free "divmod", .free "any", .free "int", .free "sum", .free "bool", .free "isinstance", .free "str", .free "all"]
abbrev hk : PySem.W.Hook := He.hookD 4 fa fn
def ob (s : PySem.W.SharedT) : He.AlD := He.obsDG 4 fa fn (HandSHeadRun.getT s)
theorem ob_eq (s : PySem.W.SharedT) : ob s = hk.obs s.abs := He.obsDG_eq (HandSHeadRun.getT_eq s)
def loose : List Str := ("ApartError" : Str) :: ("BadPolynomial" : Str) :: ("gcd_of" : Str) :: ("less_q" : Str) :: ("trimmed" : Str) :: ("content" : Str) :: ("primitive" : Str) :: ("homogeneous" : Str) :: ("sign" : Str) :: ("derived" : Str) :: ("remainder" : Str) :: ("quotient" : Str) :: ("common" : Str) :: ("free" : Str) :: ("chain_of" : Str) :: ("changes" : Str) :: ("changes_at" : Str) :: ("changes_far" : Str) :: ("count_between" : Str) :: ("roots_in" : Str) :: ("judge_order" : Str) :: ("_law_source" : Str) :: ("_law_pick" : Str) :: ("_law_one" : Str) :: ("_law_same" : Str) :: ("_law_common" : Str) :: ("_law_ratio" : Str) :: ("_law_isqrt" : Str) :: ("_law_surd" : Str) :: ("_law_sign" : Str) :: ("_law_sign_two" : Str) :: ("_law_sign_three" : Str) :: ("_law_surd_order" : Str) :: ("_law_surd_floor" : Str) :: ("_law_surd_key" : Str) :: ("_law_surd_shift" : Str) :: ("_law_wide" : Str) :: ("_law_drawn_surd" : Str) :: ("_law_k64_fractions" : Str) :: ("_law_k64_due" : Str) :: ("_law_k64_cube" : Str) :: []
theorem runE (w : World) : HandSHeadRun.RunEq R (PySem.W.view R.prog [47]) hk ob 4000 loose w :=
  PySem.W.byRow2 "special-get-raises" (P := fun w => HandSHeadRun.RunEq R (PySem.W.view R.prog [47]) hk ob 4000 loose w) (fun w => by
    intro os
    kernel_rfl) (fun w => by
    intro os
    kernel_rfl) w
theorem facts {P : Program} {w : World} {K : PySem.W.Frag} {h : Heap} {mg : Str → Option Value} {f : Addr} (X : K.In h) (G : h.Ns mainGlobals mg) (hfa : mg ("law" : Str) = some (.ref f)) (c : He.SaysD fa fn K) :
    ∃ fd : FuncData, (∀ (s : Shared) (v : Value), BindsTo s fd ⟨[v], []⟩ [("script", v)]) ∧ ∀ base : Heap, K.In base → base.Ns mainGlobals mg → FnOk P w K mg base CX0 11 f fd ["script"] (liftSp K sp_law) := by
  have b_abs : mg "abs" = none := free_of X G c 40 rfl
  have b_len : mg "len" = none := free_of X G c 41 rfl
  have b_tuple : mg "tuple" = none := free_of X G c 42 rfl
  have b_reversed : mg "reversed" = none := free_of X G c 43 rfl
  have b_range : mg "range" = none := free_of X G c 44 rfl
  have b_list : mg "list" = none := free_of X G c 45 rfl
  have b_divmod : mg "divmod" = none := free_of X G c 46 rfl
  have b_any : mg "any" = none := free_of X G c 47 rfl
  have b_int : mg "int" = none := free_of X G c 48 rfl
  have b_sum : mg "sum" = none := free_of X G c 49 rfl
  have b_bool : mg "bool" = none := free_of X G c 50 rfl
  have b_isinstance : mg "isinstance" = none := free_of X G c 51 rfl
  have b_str : mg "str" = none := free_of X G c 52 rfl
  have b_all : mg "all" = none := free_of X G c 53 rfl
  have D_gcd_of : DefAt K mg "gcd_of" s_gcd_of := defAt_of X G c 0 0 rfl rfl
  have D_less_q : DefAt K mg "less_q" s_less_q := defAt_of X G c 1 1 rfl rfl
  have D_trimmed : DefAt K mg "trimmed" s_trimmed := defAt_of X G c 2 2 rfl rfl
  have D_content : DefAt K mg "content" s_content := defAt_of X G c 3 3 rfl rfl
  have D_primitive : DefAt K mg "primitive" s_primitive := defAt_of X G c 4 4 rfl rfl
  have D_homogeneous : DefAt K mg "homogeneous" s_homogeneous := defAt_of X G c 5 5 rfl rfl
  have D_sign : DefAt K mg "sign" s_sign := defAt_of X G c 6 6 rfl rfl
  have D_derived : DefAt K mg "derived" s_derived := defAt_of X G c 7 7 rfl rfl
  have D_remainder : DefAt K mg "remainder" s_remainder := defAt_of X G c 8 8 rfl rfl
  have D_quotient : DefAt K mg "quotient" s_quotient := defAt_of X G c 9 9 rfl rfl
  have D_common : DefAt K mg "common" s_common := defAt_of X G c 10 10 rfl rfl
  have D_free : DefAt K mg "free" s_free := defAt_of X G c 11 11 rfl rfl
  have D_chain_of : DefAt K mg "chain_of" s_chain_of := defAt_of X G c 12 12 rfl rfl
  have D_changes : DefAt K mg "changes" s_changes := defAt_of X G c 13 13 rfl rfl
  have D_changes_at : DefAt K mg "changes_at" s_changes_at := defAt_of X G c 14 14 rfl rfl
  have D_changes_far : DefAt K mg "changes_far" s_changes_far := defAt_of X G c 15 15 rfl rfl
  have D_count_between : DefAt K mg "count_between" s_count_between := defAt_of X G c 16 16 rfl rfl
  have D_roots_in : DefAt K mg "roots_in" s_roots_in := defAt_of X G c 17 17 rfl rfl
  have D_judge_order : DefAt K mg "judge_order" s_judge_order := defAt_of X G c 18 18 rfl rfl
  have D_law_source : DefAt K mg "_law_source" s_law_source := defAt_of X G c 19 19 rfl rfl
  have D_law_pick : DefAt K mg "_law_pick" s_law_pick := defAt_of X G c 20 20 rfl rfl
  have D_law_one : DefAt K mg "_law_one" s_law_one := defAt_of X G c 21 21 rfl rfl
  have D_law_same : DefAt K mg "_law_same" s_law_same := defAt_of X G c 22 22 rfl rfl
  have D_law_common : DefAt K mg "_law_common" s_law_common := defAt_of X G c 23 23 rfl rfl
  have D_law_ratio : DefAt K mg "_law_ratio" s_law_ratio := defAt_of X G c 24 24 rfl rfl
  have D_law_isqrt : DefAt K mg "_law_isqrt" s_law_isqrt := defAt_of X G c 25 25 rfl rfl
  have D_law_surd : DefAt K mg "_law_surd" s_law_surd := defAt_of X G c 26 26 rfl rfl
  have D_law_sign : DefAt K mg "_law_sign" s_law_sign := defAt_of X G c 27 27 rfl rfl
  have D_law_sign_two : DefAt K mg "_law_sign_two" s_law_sign_two := defAt_of X G c 28 28 rfl rfl
  have D_law_sign_three : DefAt K mg "_law_sign_three" s_law_sign_three := defAt_of X G c 29 29 rfl rfl
  have D_law_surd_order : DefAt K mg "_law_surd_order" s_law_surd_order := defAt_of X G c 30 30 rfl rfl
  have D_law_surd_floor : DefAt K mg "_law_surd_floor" s_law_surd_floor := defAt_of X G c 31 31 rfl rfl
  have D_law_surd_key : DefAt K mg "_law_surd_key" s_law_surd_key := defAt_of X G c 32 32 rfl rfl
  have D_law_surd_shift : DefAt K mg "_law_surd_shift" s_law_surd_shift := defAt_of X G c 33 33 rfl rfl
  have D_law_wide : DefAt K mg "_law_wide" s_law_wide := defAt_of X G c 34 34 rfl rfl
  have D_law_drawn_surd : DefAt K mg "_law_drawn_surd" s_law_drawn_surd := defAt_of X G c 35 35 rfl rfl
  have D_law_k64_fractions : DefAt K mg "_law_k64_fractions" s_law_k64_fractions := defAt_of X G c 36 36 rfl rfl
  have D_law_k64_due : DefAt K mg "_law_k64_due" s_law_k64_due := defAt_of X G c 37 37 rfl rfl
  have D_law_k64_cube : DefAt K mg "_law_k64_cube" s_law_k64_cube := defAt_of X G c 38 38 rfl rfl
  obtain ⟨fd, F⟩ := c.def_ 39 (d := mkD "law" (top 47)) rfl
  have e := hfa.symm.trans (He.glo_ok X G (c.fact 39 (f := .glo "law") rfl))
  cases e
  have b := FunD.bindsA (ps := ["script"]) F fun _ _ _ _ _ _ us hl => match us, hl with | [_], _ => rfl
  refine ⟨fd, fun s v => b s [v] rfl, fun base _ _ => ?_⟩
  have C_gcd_of : Cal P w K mg base 1 "gcd_of" ["a", "b"] sp_gcd_of := cal_of D_gcd_of sc_gcd_of len_gcd_of (fun _ _ _ _ _ _ us hl => match us, hl with | [_, _], _ => rfl) (fun f cdv A outer s H E hr => body_gcd_of b_abs hr) sem_gcd_of
  have C_less_q : Cal P w K mg base 1 "less_q" ["a", "b"] sp_less_q := cal_of D_less_q sc_less_q len_less_q (fun _ _ _ _ _ _ us hl => match us, hl with | [_, _], _ => rfl) (fun f cdv A outer s H E hr => body_less_q  hr) sem_less_q
  have C_trimmed : Cal P w K mg base 1 "trimmed" ["coefficients"] sp_trimmed := cal_of D_trimmed sc_trimmed len_trimmed (fun _ _ _ _ _ _ us hl => match us, hl with | [_], _ => rfl) (fun f cdv A outer s H E hr => body_trimmed b_len b_tuple hr) sem_trimmed
  have C_content : Cal P w K mg base 2 "content" ["p"] sp_content := cal_of D_content sc_content len_content (fun _ _ _ _ _ _ us hl => match us, hl with | [_], _ => rfl) (fun f cdv A outer s H E hr => body_content C_gcd_of hr) sem_content
  have C_primitive : Cal P w K mg base 3 "primitive" ["p"] sp_primitive := cal_of D_primitive sc_primitive len_primitive (fun _ _ _ _ _ _ us hl => match us, hl with | [_], _ => rfl) (fun f cdv A outer s H E hr => body_primitive C_content b_len b_tuple hr) sem_primitive
  have C_homogeneous : Cal P w K mg base 1 "homogeneous" ["p", "q"] sp_homogeneous := cal_of D_homogeneous sc_homogeneous len_homogeneous (fun _ _ _ _ _ _ us hl => match us, hl with | [_, _], _ => rfl) (fun f cdv A outer s H E hr => body_homogeneous b_reversed hr) sem_homogeneous
  have C_sign : Cal P w K mg base 2 "sign" ["p", "q"] sp_sign := cal_of D_sign sc_sign len_sign (fun _ _ _ _ _ _ us hl => match us, hl with | [_, _], _ => rfl) (fun f cdv A outer s H E hr => body_sign C_homogeneous hr) sem_sign
  have C_derived : Cal P w K mg base 2 "derived" ["p"] sp_derived := cal_of D_derived sc_derived len_derived (fun _ _ _ _ _ _ us hl => match us, hl with | [_], _ => rfl) (fun f cdv A outer s H E hr => body_derived C_trimmed b_range b_len hr) sem_derived
  have C_remainder : Cal P w K mg base 3 "remainder" ["p", "d"] sp_remainder := cal_of D_remainder sc_remainder len_remainder (fun _ _ _ _ _ _ us hl => match us, hl with | [_, _], _ => rfl) (fun f cdv A outer s H E hr => body_remainder (C_trimmed.mono (by decide)) C_content b_list b_abs b_len b_range b_tuple hr) sem_remainder
  have C_quotient : Cal P w K mg base 1 "quotient" ["p", "d"] sp_quotient := cal_of D_quotient sc_quotient len_quotient (fun _ _ _ _ _ _ us hl => match us, hl with | [_, _], _ => rfl) (fun f cdv A outer s H E hr => body_quotient b_len b_list b_range b_divmod b_any b_tuple hr) sem_quotient
  have C_common : Cal P w K mg base 4 "common" ["p", "d"] sp_common := cal_of D_common sc_common len_common (fun _ _ _ _ _ _ us hl => match us, hl with | [_, _], _ => rfl) (fun f cdv A outer s H E hr => body_common C_remainder C_primitive b_len hr) sem_common
  have C_free : Cal P w K mg base 5 "free" ["p"] sp_free := cal_of D_free sc_free len_free (fun _ _ _ _ _ _ us hl => match us, hl with | [_], _ => rfl) (fun f cdv A outer s H E hr => body_free (C_primitive.mono (by decide)) (C_derived.mono (by decide)) C_common (C_quotient.mono (by decide)) hr) sem_free
  have C_chain_of : Cal P w K mg base 4 "chain_of" ["p"] sp_chain_of := cal_of D_chain_of sc_chain_of len_chain_of (fun _ _ _ _ _ _ us hl => match us, hl with | [_], _ => rfl) (fun f cdv A outer s H E hr => body_chain_of (C_derived.mono (by decide)) C_remainder b_len b_tuple hr) sem_chain_of
  have C_changes : Cal P w K mg base 1 "changes" ["signs"] sp_changes := cal_of D_changes sc_changes len_changes (fun _ _ _ _ _ _ us hl => match us, hl with | [_], _ => rfl) (fun f cdv A outer s H E hr => body_changes  hr) sem_changes
  have C_changes_at : Cal P w K mg base 3 "changes_at" ["chain", "q"] sp_changes_at := cal_of D_changes_at sc_changes_at len_changes_at (fun _ _ _ _ _ _ us hl => match us, hl with | [_, _], _ => rfl) (fun f cdv A outer s H E hr => body_changes_at C_sign (C_changes.mono (by decide)) hr) sem_changes_at
  have C_changes_far : Cal P w K mg base 2 "changes_far" ["chain", "side"] sp_changes_far := cal_of D_changes_far sc_changes_far len_changes_far (fun _ _ _ _ _ _ us hl => match us, hl with | [_, _], _ => rfl) (fun f cdv A outer s H E hr => body_changes_far C_changes b_len b_divmod hr) sem_changes_far
  have C_count_between : Cal P w K mg base 4 "count_between" ["chain", "low", "high"] sp_count_between := cal_of D_count_between sc_count_between len_count_between (fun _ _ _ _ _ _ us hl => match us, hl with | [_, _, _], _ => rfl) (fun f cdv A outer s H E hr => body_count_between (C_changes_far.mono (by decide)) C_changes_at hr) sem_count_between
  have C_roots_in : Cal P w K mg base 6 "roots_in" ["p", "low", "high"] sp_roots_in := cal_of D_roots_in sc_roots_in len_roots_in (fun _ _ _ _ _ _ us hl => match us, hl with | [_, _, _], _ => rfl) (fun f cdv A outer s H E hr => body_roots_in C_free (C_less_q.mono (by decide)) (C_chain_of.mono (by decide)) (C_count_between.mono (by decide)) b_len hr) sem_roots_in
  have C_judge_order : Cal P w K mg base 7 "judge_order" ["a", "b", "q"] sp_judge_order := cal_of D_judge_order sc_judge_order len_judge_order (fun _ _ _ _ _ _ us hl => match us, hl with | [_, _, _], _ => rfl) (fun f cdv A outer s H E hr => body_judge_order C_roots_in (C_sign.mono (by decide)) hr) sem_judge_order
  have C_law_source : Cal P w K mg base 1 "_law_source" ["script", "at"] sp_law_source := cal_of D_law_source sc_law_source len_law_source (fun _ _ _ _ _ _ us hl => match us, hl with | [_, _], _ => rfl) (fun f cdv A outer s H E hr => body_law_source b_len b_int b_sum b_abs hr) sem_law_source
  have C_law_pick : Cal P w K mg base 1 "_law_pick" ["source", "many"] sp_law_pick := cal_of D_law_pick sc_law_pick len_law_pick (fun _ _ _ _ _ _ us hl => match us, hl with | [_, _], _ => rfl) (fun f cdv A outer s H E hr => body_law_pick b_int hr) sem_law_pick
  have C_law_one : Cal P w K mg base 2 "_law_one" ["source", "things"] sp_law_one := cal_of D_law_one sc_law_one len_law_one (fun _ _ _ _ _ _ us hl => match us, hl with | [_, _], _ => rfl) (fun f cdv A outer s H E hr => body_law_one C_law_pick b_len hr) sem_law_one
  have C_law_same : Cal P w K mg base 9 "_law_same" ["answer", "due"] sp_law_same := cal_same D_law_same sc_law_same rfl (fun n k C f cdv A outer s H E hr => body_law_same n C b_bool b_isinstance b_int b_str b_tuple b_list b_len b_range b_all hr) (fun _ _ _ _ _ _ us hl => match us, hl with | [_, _], _ => rfl) 9
  have C_law_common : Cal P w K mg base 1 "_law_common" ["a", "b"] sp_law_common := cal_of D_law_common sc_law_common len_law_common (fun _ _ _ _ _ _ us hl => match us, hl with | [_, _], _ => rfl) (fun f cdv A outer s H E hr => body_law_common b_abs hr) sem_law_common
  have C_law_ratio : Cal P w K mg base 2 "_law_ratio" ["p", "q"] sp_law_ratio := cal_of D_law_ratio sc_law_ratio len_law_ratio (fun _ _ _ _ _ _ us hl => match us, hl with | [_, _], _ => rfl) (fun f cdv A outer s H E hr => body_law_ratio C_law_common hr) sem_law_ratio
  have C_law_isqrt : Cal P w K mg base 1 "_law_isqrt" ["n"] sp_law_isqrt := cal_of D_law_isqrt sc_law_isqrt len_law_isqrt (fun _ _ _ _ _ _ us hl => match us, hl with | [_], _ => rfl) (fun f cdv A outer s H E hr => body_law_isqrt  hr) sem_law_isqrt
  have C_law_surd : Cal P w K mg base 2 "_law_surd" ["a", "b", "c", "d"] sp_law_surd := cal_of D_law_surd sc_law_surd len_law_surd (fun _ _ _ _ _ _ us hl => match us, hl with | [_, _, _, _], _ => rfl) (fun f cdv A outer s H E hr => body_law_surd C_law_isqrt C_law_common hr) sem_law_surd
  have C_law_sign : Cal P w K mg base 1 "_law_sign" ["n"] sp_law_sign := cal_of D_law_sign sc_law_sign len_law_sign (fun _ _ _ _ _ _ us hl => match us, hl with | [_], _ => rfl) (fun f cdv A outer s H E hr => body_law_sign  hr) sem_law_sign
  have C_law_sign_two : Cal P w K mg base 2 "_law_sign_two" ["a", "b", "c"] sp_law_sign_two := cal_of D_law_sign_two sc_law_sign_two len_law_sign_two (fun _ _ _ _ _ _ us hl => match us, hl with | [_, _, _], _ => rfl) (fun f cdv A outer s H E hr => body_law_sign_two C_law_sign hr) sem_law_sign_two
  have C_law_sign_three : Cal P w K mg base 3 "_law_sign_three" ["a", "b", "c", "d", "e"] sp_law_sign_three := cal_of D_law_sign_three sc_law_sign_three len_law_sign_three (fun _ _ _ _ _ _ us hl => match us, hl with | [_, _, _, _, _], _ => rfl) (fun f cdv A outer s H E hr => body_law_sign_three C_law_sign_two (C_law_sign.mono (by decide)) hr) sem_law_sign_three
  have C_law_surd_order : Cal P w K mg base 4 "_law_surd_order" ["x", "y"] sp_law_surd_order := cal_of D_law_surd_order sc_law_surd_order len_law_surd_order (fun _ _ _ _ _ _ us hl => match us, hl with | [_, _], _ => rfl) (fun f cdv A outer s H E hr => body_law_surd_order C_law_sign_three hr) sem_law_surd_order
  have C_law_surd_floor : Cal P w K mg base 2 "_law_surd_floor" ["x", "n"] sp_law_surd_floor := cal_of D_law_surd_floor sc_law_surd_floor len_law_surd_floor (fun _ _ _ _ _ _ us hl => match us, hl with | [_, _], _ => rfl) (fun f cdv A outer s H E hr => body_law_surd_floor C_law_isqrt hr) sem_law_surd_floor
  have C_law_surd_key : Cal P w K mg base 2 "_law_surd_key" ["x"] sp_law_surd_key := cal_of D_law_surd_key sc_law_surd_key len_law_surd_key (fun _ _ _ _ _ _ us hl => match us, hl with | [_], _ => rfl) (fun f cdv A outer s H E hr => body_law_surd_key C_law_common b_tuple hr) sem_law_surd_key
  have C_law_surd_shift : Cal P w K mg base 3 "_law_surd_shift" ["x", "p", "q"] sp_law_surd_shift := cal_of D_law_surd_shift sc_law_surd_shift len_law_surd_shift (fun _ _ _ _ _ _ us hl => match us, hl with | [_, _, _], _ => rfl) (fun f cdv A outer s H E hr => body_law_surd_shift C_law_surd hr) sem_law_surd_shift
  have C_law_wide : Cal P w K mg base 2 "_law_wide" ["source", "small", "great"] sp_law_wide := cal_of D_law_wide sc_law_wide len_law_wide (fun _ _ _ _ _ _ us hl => match us, hl with | [_, _, _], _ => rfl) (fun f cdv A outer s H E hr => body_law_wide C_law_pick hr) sem_law_wide
  have C_law_drawn_surd : Cal P w K mg base 3 "_law_drawn_surd" ["source", "roots", "great"] sp_law_drawn_surd := cal_of D_law_drawn_surd sc_law_drawn_surd len_law_drawn_surd (fun _ _ _ _ _ _ us hl => match us, hl with | [_, _, _], _ => rfl) (fun f cdv A outer s H E hr => body_law_drawn_surd (C_law_pick.mono (by decide)) C_law_wide C_law_surd hr) sem_law_drawn_surd
  have C_law_k64_fractions : Cal P w K mg base 3 "_law_k64_fractions" ["source", "one", "two"] sp_law_k64_fractions := cal_of D_law_k64_fractions sc_law_k64_fractions len_law_k64_fractions (fun _ _ _ _ _ _ us hl => match us, hl with | [_, _, _], _ => rfl) (fun f cdv A outer s H E hr => body_law_k64_fractions C_law_wide (C_law_pick.mono (by decide)) C_law_ratio C_law_one C_law_surd_floor hr) sem_law_k64_fractions
  have C_law_k64_due : Cal P w K mg base 5 "_law_k64_due" ["one", "two", "q"] sp_law_k64_due := cal_of D_law_k64_due sc_law_k64_due len_law_k64_due (fun _ _ _ _ _ _ us hl => match us, hl with | [_, _, _], _ => rfl) (fun f cdv A outer s H E hr => body_law_k64_due C_law_surd_order hr) sem_law_k64_due
  have C_law_k64_cube : Cal P w K mg base 10 "_law_k64_cube" ["source"] sp_law_k64_cube := cal_of D_law_k64_cube sc_law_k64_cube len_law_k64_cube (fun _ _ _ _ _ _ us hl => match us, hl with | [_], _ => rfl) (fun f cdv A outer s H E hr => body_law_k64_cube (C_law_one.mono (by decide)) (C_law_pick.mono (by decide)) (C_law_ratio.mono (by decide)) (C_judge_order.mono (by decide)) C_law_same b_range hr) sem_law_k64_cube
  exact dfn F sc_law len_law (fun cdv A outer s H E hr => body_law (C_law_source.mono (by decide)) (C_law_drawn_surd.mono (by decide)) (C_law_pick.mono (by decide)) (C_law_one.mono (by decide)) (C_law_surd_shift.mono (by decide)) (C_law_surd_order.mono (by decide)) (C_law_surd_key.mono (by decide)) (C_law_k64_fractions.mono (by decide)) (C_judge_order.mono (by decide)) (C_law_k64_due.mono (by decide)) (C_law_same.mono (by decide)) C_law_k64_cube hr) sem_law
end K64
open PySem PySem.W PySem.Calls PyProof.Rows
theorem PySem.Challenge.cw_readapart_k64_fractions_strictly_between_holds : PySem.Challenge.rw_readapart_k64_fractions_strictly_between.Holds := by
  w_on; o_law
  refine HandSHeadRun.head_any (r := OpenLaw.row PySem.Challenge.rw_readapart_k64_fractions_strictly_between) (q := view (OpenLaw.row PySem.Challenge.rw_readapart_k64_fractions_strictly_between).prog [47]) (H := K64.hk) (ob := K64.ob) (M := 4000) (loose := K64.loose) (d := HandSHeadRun.topDef (OpenLaw.row PySem.Challenge.rw_readapart_k64_fractions_strictly_between).prog 47) (kwd := []) K64.ob_eq
    (by kernel_rfl) (fun s => by kernel_rfl) K64.runE (by kernel_rfl) (by kernel_rfl) (by kernel_rfl) (by rfl) (by first | assumption | decide +kernel) (by decide +kernel) ⟨rfl, rfl, rfl, rfl, rfl, by decide +kernel⟩ ?hw ?hc
  case hw => w_witness2
  case hc =>
    refine L2.walk_ofE (l := PySem.Challenge.rw_readapart_k64_fractions_strictly_between) (n := 63) (k := 11) (x := "script") (CX := L2.CX0) rfl (by decide) (by kernel_rfl) ⟨rfl, by decide, by decide⟩ ?F (fun _ _ _ _ z => z)
    intro w mg fa h Y G hmg0
    obtain ⟨K, KX, c⟩ := Y
    have hmg : mg ("law" : PySem.Str) = some (.ref fa) := by
      have e : (HandSHeadRun.topDef (OpenLaw.row PySem.Challenge.rw_readapart_k64_fractions_strictly_between).prog 47).name = ("law" : PySem.Str) := by kernel_rfl
      rw [← e]
      exact hmg0
    obtain ⟨fd, hb, hF⟩ := K64.facts (P := (PySem.Challenge.rw_readapart_k64_fractions_strictly_between).prog) (w := w) KX G hmg c
    exact ⟨K, fd, DL.liftSp K K64.sp_law, KX, hb, fun H a ns _ _ hS => DL.law_sp (fun ns M Q E q => ⟨ns, rfl, q⟩) H a ns hS, hF⟩
