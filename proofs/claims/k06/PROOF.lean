import PyProof.Rows.All
import Wide.All
import OpenK.AllK
import Wide.FinOn
import HandS.ForMost
import HandS.Defaults
import HandS.IsInst
import HandS.Wide
import HandS.WideBits
import HandS.Flow
import HandS.Exc
import HandS.TupAny
import HandS.Walk
import HandS.Evl
import HandS.More
import HandS.ReplaceLit
import HandS.ReplaceList
import HandS.Head0
import HandS.Head1
import HandS.Head2
import HandS.HeadEnd
import HandS.HeadHook1
import HandS.HeadHook2
import HandS.HeadHook3
import HandS.HeadHook4
import PySem.Challenge.RW_readapart_k06_sessions_cut_anywhere
set_option Elab.async false
set_option linter.all false
set_option maxRecDepth 100000
set_option maxHeartbeats 2000000
set_option autoImplicit false
/-! DL: the data layer. Nested data as values (D), mutable lists by address (Mu), readings as functions. -/
namespace DL
open PySem PySem.Spec PyProof.Rows L2 TL

/-- data: texts by their codes; tuples and lists that stay (lst) as values; ref: a thing that may change -/
inductive D where
  | non | bl (b : Bool) | int (i : Int) | str (cs : List Nat) | tup (ds : List D) | lst (ds : List D) | src (ns : List Int) | ref (a : Addr) | ty (n : String)
/-- what may change -/
inductive DO where
  | lst (ds : List D)
  | dic (kvs : List (Key × D))
abbrev Mu := Addr → Option DO
def mset (M : Mu) (a : Addr) (o : DO) : Mu := fun b => if b = a then some o else M b
def mdrop (M : Mu) (a : Addr) : Mu := fun b => if b = a then none else M b
theorem mset_same {M : Mu} {a : Addr} {o : DO} : mset M a o a = some o := if_pos rfl
theorem mset_ne {M : Mu} {a b : Addr} {o : DO} (h : b ≠ a) : mset M a o b = M b := if_neg h
theorem mset_mset {M : Mu} {a : Addr} {o u : DO} : mset (mset M a o) a u = mset M a u := by
  funext b; unfold mset; split <;> rfl
theorem mdrop_mset {M : Mu} {a : Addr} {o : DO} (h : M a = none) : mdrop (mset M a o) a = M := by
  funext b; unfold mdrop mset
  by_cases e : b = a
  · rw [if_pos e, e, h]
  · rw [if_neg e, if_neg e]
def mkS (cs : List Nat) : Str := ⟨cs.toArray⟩
theorem mkS_len (cs : List Nat) : (mkS cs).length = cs.length := by simp [mkS, Str.length]
theorem mkS_tl (cs : List Nat) : tl (mkS cs) = cs := rfl
theorem mkS_app (a b : List Nat) : mkS a ++ mkS b = mkS (a ++ b) := ext_tl (by rw [tl_append]; rfl)
theorem mkS_inj {a b : List Nat} (h : mkS a = mkS b) : a = b := by
  have := congrArg tl h
  exact this
theorem mkS_of (s : Str) : mkS (tl s) = s := mk_tl s

/-! ### data in the heap: F is what stays -/
mutual
def Rp (K : PySem.W.Frag) (F : Hp) : D → V → Prop
  | .non, v => v = .non
  | .bl b, v => v = .bl b
  | .int i, v => v = .int i
  | .str cs, v => v = .str (mkS cs)
  | .ref a, v => v = .ref a
  | .ty n, v => v = .ty n
  | .src ns, v => ∃ a, v = .ref a ∧ SqL K F a (ns.map V.int)
  | .tup ds, v => ∃ a xs, v = .ref a ∧ SqT K F a xs ∧ RpL K F ds xs
  | .lst ds, v => ∃ a xs, v = .ref a ∧ F a = some (.lst xs) ∧ RpL K F ds xs
def RpL (K : PySem.W.Frag) (F : Hp) : List D → List V → Prop
  | [], xs => xs = []
  | d :: ds, xs => ∃ x r, xs = x :: r ∧ Rp K F d x ∧ RpL K F ds r
end
def Le (F F' : Hp) : Prop := ∀ b o, F b = some o → F' b = some o
theorem Le.refl (F : Hp) : Le F F := fun _ _ h => h
theorem Le.trans {F G J : Hp} (a : Le F G) (b : Le G J) : Le F J := fun c o h => b c o (a c o h)
theorem Le.rd {F G : Hp} (l : Le F G) {a : Addr} {u : HO} (h : Rd F a u) : Rd G a u := by
  rcases h with h | ⟨o, h⟩
  · exact .inl (l _ _ h)
  · exact .inr ⟨o, l _ _ h⟩
theorem Le.sqL {K : PySem.W.Frag} {F G : Hp} (l : Le F G) {a : Addr} {xs : List V} (h : SqL K F a xs) : SqL K G a xs := by
  rcases h with h | h
  · exact .inl (l.rd h)
  · exact .inr h
theorem Le.sqT {K : PySem.W.Frag} {F G : Hp} (l : Le F G) {a : Addr} {xs : List V} (h : SqT K F a xs) : SqT K G a xs := by
  rcases h with h | h
  · exact .inl (l.rd h)
  · exact .inr h
theorem Le.new {F : Hp} {p : Addr} {o : HO} (h : F p = none) : Le F (upd F p o) := fun b u e => by
  rw [upd_ne (ne_of_none e h)]
  exact e
mutual
theorem Rp.mono {K : PySem.W.Frag} {F G : Hp} (l : Le F G) : ∀ {d : D} {v : V}, Rp K F d v → Rp K G d v
  | .non, _, h => by unfold Rp at h ⊢; exact h
  | .bl _, _, h => by unfold Rp at h ⊢; exact h
  | .int _, _, h => by unfold Rp at h ⊢; exact h
  | .str _, _, h => by unfold Rp at h ⊢; exact h
  | .ref _, _, h => by unfold Rp at h ⊢; exact h
  | .ty _, _, h => by unfold Rp at h ⊢; exact h
  | .src _, _, h => by
    unfold Rp at h ⊢
    obtain ⟨a, e, s⟩ := h
    exact ⟨a, e, l.sqL s⟩
  | .tup ds, _, h => by
    unfold Rp at h ⊢
    obtain ⟨a, xs, e, s, r⟩ := h
    exact ⟨a, xs, e, l.sqT s, RpL.mono l r⟩
  | .lst ds, _, h => by
    unfold Rp at h ⊢
    obtain ⟨a, xs, e, s, r⟩ := h
    exact ⟨a, xs, e, l _ _ s, RpL.mono l r⟩
theorem RpL.mono {K : PySem.W.Frag} {F G : Hp} (l : Le F G) : ∀ {ds : List D} {xs : List V}, RpL K F ds xs → RpL K G ds xs
  | [], _, h => by unfold RpL at h ⊢; exact h
  | d :: ds, _, h => by
    unfold RpL at h ⊢
    obtain ⟨x, r, e, h1, h2⟩ := h
    exact ⟨x, r, e, Rp.mono l h1, RpL.mono l h2⟩
end
section
variable {K : PySem.W.Frag} {F : Hp}
theorem RpL.nil : RpL K F [] [] := by unfold RpL; rfl
theorem RpL.cons {d : D} {ds : List D} {x : V} {xs : List V} (h : Rp K F d x) (t : RpL K F ds xs) : RpL K F (d :: ds) (x :: xs) := by
  unfold RpL
  exact ⟨x, xs, rfl, h, t⟩
theorem RpL.len : ∀ {ds : List D} {xs : List V}, RpL K F ds xs → ds.length = xs.length
  | [], _, h => by unfold RpL at h; subst h; rfl
  | d :: ds, _, h => by
    unfold RpL at h
    obtain ⟨x, r, e, h1, h2⟩ := h
    subst e
    rw [List.length_cons, List.length_cons, RpL.len h2]
theorem RpL.app : ∀ {ds es : List D} {xs ys : List V}, RpL K F ds xs → RpL K F es ys → RpL K F (ds ++ es) (xs ++ ys)
  | [], _, _, _, h, t => by unfold RpL at h; subst h; exact t
  | d :: ds, es, _, ys, h, t => by
    unfold RpL at h
    obtain ⟨x, r, e, h1, h2⟩ := h
    subst e
    exact RpL.cons h1 (RpL.app h2 t)
theorem RpL.snoc {ds : List D} {xs : List V} {d : D} {x : V} (h : RpL K F ds xs) (t : Rp K F d x) : RpL K F (ds ++ [d]) (xs ++ [x]) := h.app (RpL.cons t RpL.nil)
theorem RpL.get : ∀ {ds : List D} {xs : List V} {i : Nat} {d : D}, RpL K F ds xs → ds[i]? = some d → ∃ x, xs[i]? = some x ∧ Rp K F d x
  | [], _, _, _, _, e => by simp at e
  | d :: ds, _, 0, _, h, e => by
    unfold RpL at h
    obtain ⟨x, r, e1, h1, h2⟩ := h
    subst e1
    simp at e
    subst e
    exact ⟨x, rfl, h1⟩
  | d :: ds, _, i + 1, _, h, e => by
    unfold RpL at h
    obtain ⟨x, r, e1, h1, h2⟩ := h
    subst e1
    obtain ⟨y, e2, h3⟩ := RpL.get (i := i) h2 (by simpa using e)
    exact ⟨y, by simpa using e2, h3⟩
theorem RpL.getV : ∀ {ds : List D} {xs : List V} {i : Nat} {x : V}, RpL K F ds xs → xs[i]? = some x → ∃ d, ds[i]? = some d ∧ Rp K F d x := fun {ds xs i x} h e => by
  have hl := h.len
  have hi : i < xs.length := (List.getElem?_eq_some_iff.mp e).1
  obtain ⟨y, e2, r⟩ := h.get (i := i) (d := ds[i]'(by omega)) (List.getElem?_eq_getElem (by omega))
  rw [e] at e2
  cases e2
  exact ⟨_, List.getElem?_eq_getElem (by omega), r⟩
theorem RpL.set : ∀ {ds : List D} {xs : List V} {d : D} {x : V} (i : Nat), RpL K F ds xs → Rp K F d x → RpL K F (ds.set i d) (xs.set i x)
  | [], _, _, _, i, h, t => by unfold RpL at h; subst h; exact RpL.nil
  | d :: ds, _, _, _, 0, h, t => by
    unfold RpL at h
    obtain ⟨x, r, e1, h1, h2⟩ := h
    subst e1
    exact RpL.cons t h2
  | d :: ds, _, _, _, i + 1, h, t => by
    unfold RpL at h
    obtain ⟨x, r, e1, h1, h2⟩ := h
    subst e1
    exact RpL.cons h1 (RpL.set i h2 t)
theorem RpL.take : ∀ {ds : List D} {xs : List V} (n : Nat), RpL K F ds xs → RpL K F (ds.take n) (xs.take n)
  | [], _, n, h => by unfold RpL at h; subst h; rw [List.take_nil, List.take_nil]; exact RpL.nil
  | d :: ds, _, 0, h => RpL.nil
  | d :: ds, _, n + 1, h => by
    unfold RpL at h
    obtain ⟨x, r, e1, h1, h2⟩ := h
    subst e1
    exact RpL.cons h1 (RpL.take n h2)
theorem RpL.drop : ∀ {ds : List D} {xs : List V} (n : Nat), RpL K F ds xs → RpL K F (ds.drop n) (xs.drop n)
  | [], _, n, h => by unfold RpL at h; subst h; rw [List.drop_nil, List.drop_nil]; exact RpL.nil
  | d :: ds, _, 0, h => h
  | d :: ds, _, n + 1, h => by
    unfold RpL at h
    obtain ⟨x, r, e1, h1, h2⟩ := h
    subst e1
    exact RpL.drop n h2
theorem RpL.rev : ∀ {ds : List D} {xs : List V}, RpL K F ds xs → RpL K F ds.reverse xs.reverse
  | [], _, h => by unfold RpL at h; subst h; exact RpL.nil
  | d :: ds, _, h => by
    unfold RpL at h
    obtain ⟨x, r, e1, h1, h2⟩ := h
    subst e1
    rw [List.reverse_cons, List.reverse_cons]
    exact (RpL.rev h2).snoc h1
theorem RpL.last {ds : List D} {xs : List V} (h : RpL K F ds xs) : RpL K F ds.dropLast xs.dropLast := by
  rw [List.dropLast_eq_take, List.dropLast_eq_take, h.len]
  exact h.take _
theorem RpL.ints : ∀ {ns : List Int}, RpL K F (ns.map D.int) (ns.map V.int)
  | [] => RpL.nil
  | n :: ns => RpL.cons (by unfold Rp; rfl) RpL.ints
theorem RpL.strs : ∀ {ns : List (List Nat)}, RpL K F (ns.map D.str) (ns.map fun c => V.str (mkS c))
  | [] => RpL.nil
  | n :: ns => RpL.cons (by unfold Rp; rfl) RpL.strs
end
def RpK (K : PySem.W.Frag) (F : Hp) (kvs : List (Key × D)) (vs : List (Key × V)) : Prop := kvs.map (·.1) = vs.map (·.1) ∧ RpL K F (kvs.map (·.2)) (vs.map (·.2))
def RpO (K : PySem.W.Frag) (F : Hp) : DO → HO → Prop
  | .lst ds, o => ∃ xs, o = .lst xs ∧ RpL K F ds xs
  | .dic kvs, o => ∃ vs, o = .dK vs ∧ RpK K F kvs vs
theorem RpO.mono {K : PySem.W.Frag} {F G : Hp} (l : Le F G) {o : DO} {ho : HO} (h : RpO K F o ho) : RpO K G o ho := by
  cases o with
  | lst ds =>
    obtain ⟨xs, e, r⟩ := h
    exact ⟨xs, e, r.mono l⟩
  | dic kvs =>
    obtain ⟨xs, e, r1, r2⟩ := h
    exact ⟨xs, e, r1, r2.mono l⟩

/-- the heap H holds the staying part F and the changing part M; the rest of H is hidden -/
structure Sv (K : PySem.W.Frag) (H F : Hp) (M : Mu) : Prop where
  fh : Le F H
  fm : ∀ b o, F b = some o → M b = none
  mu : ∀ a o, M a = some o → ∃ ho, H a = some ho ∧ RpO K F o ho
/-- from one state to a later one: what stays, stays; what is hidden, stays as it is and hidden -/
structure Go (H F : Hp) (M : Mu) (H' F' : Hp) (M' : Mu) : Prop where
  le : Le F F'
  kp : ∀ b o, H b = some o → M b = none → H' b = some o ∧ M' b = none ∧ (F b = none → F' b = none)
section
variable {K : PySem.W.Frag} {H H1 H2 F F1 F2 : Hp} {M M1 M2 : Mu}
theorem Go.refl : Go H F M H F M := ⟨Le.refl F, fun b o h m => ⟨h, m, fun z => z⟩⟩
theorem Go.trans (a : Go H F M H1 F1 M1) (b : Go H1 F1 M1 H2 F2 M2) : Go H F M H2 F2 M2 := ⟨a.le.trans b.le, fun c o h m => by
  obtain ⟨h1, m1, f1⟩ := a.kp c o h m
  obtain ⟨h2, m2, f2⟩ := b.kp c o h1 m1
  exact ⟨h2, m2, fun z => f2 (f1 z)⟩⟩
theorem Sv.fresh {p : Addr} (s : Sv K H F M) (h : H p = none) : F p = none ∧ M p = none := by
  constructor
  · cases e : F p with
    | none => rfl
    | some o => rw [s.fh p o e] at h; cases h
  · cases e : M p with
    | none => rfl
    | some o =>
      obtain ⟨ho, e2, _⟩ := s.mu p o e
      rw [e2] at h; cases h
/-- a new thing that stays -/
theorem Sv.newF {p : Addr} {o : HO} (s : Sv K H F M) (h : H p = none) : Sv K (upd H p o) (upd F p o) M ∧ Go H F M (upd H p o) (upd F p o) M := by
  obtain ⟨hF, hM⟩ := s.fresh h
  have l : Le F (upd F p o) := Le.new hF
  refine ⟨⟨fun b u e => ?_, fun b u e => ?_, fun a u e => ?_⟩, ⟨l, fun b u e m => ?_⟩⟩
  · by_cases hb : b = p
    · subst hb; rw [upd_same] at e ⊢; exact e
    · rw [upd_ne hb] at e ⊢; exact s.fh b u e
  · by_cases hb : b = p
    · subst hb; exact hM
    · rw [upd_ne hb] at e; exact s.fm b u e
  · obtain ⟨ho, e2, r⟩ := s.mu a u e
    refine ⟨ho, ?_, r.mono l⟩
    rw [upd_ne (ne_of_none e2 h)]
    exact e2
  · have hb : b ≠ p := ne_of_none e h
    exact ⟨by rw [upd_ne hb]; exact e, m, fun z => by rw [upd_ne hb]; exact z⟩
/-- a new thing that may change -/
theorem Sv.newM {p : Addr} {o : DO} {ho : HO} (s : Sv K H F M) (h : H p = none) (r : RpO K F o ho) : Sv K (upd H p ho) F (mset M p o) ∧ Go H F M (upd H p ho) F (mset M p o) := by
  obtain ⟨hF, hM⟩ := s.fresh h
  refine ⟨⟨fun b u e => ?_, fun b u e => ?_, fun a u e => ?_⟩, ⟨Le.refl F, fun b u e m => ?_⟩⟩
  · rw [upd_ne (ne_of_none e hF)]; exact s.fh b u e
  · rw [mset_ne (ne_of_none e hF)]; exact s.fm b u e
  · by_cases ha : a = p
    · subst ha
      rw [mset_same] at e
      cases e
      exact ⟨ho, upd_same, r⟩
    · rw [mset_ne ha] at e
      obtain ⟨ho', e2, r'⟩ := s.mu a u e
      exact ⟨ho', by rw [upd_ne ha]; exact e2, r'⟩
  · have hb : b ≠ p := ne_of_none e h
    exact ⟨by rw [upd_ne hb]; exact e, by rw [mset_ne hb]; exact m, fun z => z⟩
/-- a thing is changed -/
theorem Sv.wr {p : Addr} {o o' : DO} {ho : HO} (s : Sv K H F M) (h : M p = some o) (r : RpO K F o' ho) : Sv K (upd H p ho) F (mset M p o') ∧ Go H F M (upd H p ho) F (mset M p o') := by
  have hF : ∀ b u, F b = some u → b ≠ p := fun b u e z => by
    subst z
    rw [s.fm b u e] at h; cases h
  refine ⟨⟨fun b u e => ?_, fun b u e => ?_, fun a u e => ?_⟩, ⟨Le.refl F, fun b u e m => ?_⟩⟩
  · rw [upd_ne (hF b u e)]; exact s.fh b u e
  · rw [mset_ne (hF b u e)]; exact s.fm b u e
  · by_cases ha : a = p
    · subst ha
      rw [mset_same] at e
      cases e
      exact ⟨ho, upd_same, r⟩
    · rw [mset_ne ha] at e
      obtain ⟨ho', e2, r'⟩ := s.mu a u e
      exact ⟨ho', by rw [upd_ne ha]; exact e2, r'⟩
  · have hb : b ≠ p := fun z => by subst z; rw [m] at h; cases h
    exact ⟨by rw [upd_ne hb]; exact e, by rw [mset_ne hb]; exact m, fun z => z⟩
end

/-! ### slots -/
abbrev DEnv := List (Option D)
def ERel (K : PySem.W.Frag) (F : Hp) (δ : DEnv) (σ : L2.St) : Prop := δ.length = σ.length ∧ ∀ (i : Nat) (d : D), δ[i]? = some (some d) → ∃ v, σ[i]? = some (some v) ∧ Rp K F d v
section
variable {K : PySem.W.Frag} {F F1 : Hp} {δ : DEnv} {σ : L2.St}
theorem ERel.mono (l : Le F F1) (h : ERel K F δ σ) : ERel K F1 δ σ := ⟨h.1, fun i d e => by
  obtain ⟨v, e2, r⟩ := h.2 i d e
  exact ⟨v, e2, r.mono l⟩⟩
theorem ERel.set {i : Nat} {d : D} {v : V} (h : ERel K F δ σ) (r : Rp K F d v) : ERel K F (δ.set i (some d)) (σ.set i (some v)) := by
  refine ⟨by rw [List.length_set, List.length_set]; exact h.1, fun j e hj => ?_⟩
  by_cases hji : i = j
  · subst hji
    by_cases hl : i < δ.length
    · rw [List.getElem?_set_self hl] at hj
      have e1 : d = e := Option.some.inj (Option.some.inj hj)
      subst e1
      refine ⟨v, ?_, r⟩
      rw [List.getElem?_set_self (by rw [← h.1]; exact hl)]
    · rw [List.getElem?_eq_none (by rw [List.length_set]; omega)] at hj
      cases hj
  · rw [List.getElem?_set_ne hji] at hj ⊢
    exact h.2 j e hj
theorem ERel.start {N : List Str} {ds : List D} {vs : List V} (h : RpL K F ds vs) : ERel K F (ds.map some ++ List.replicate (N.length - ds.length) none) (L2.start N vs) := by
  have hl := h.len
  refine ⟨by unfold L2.start; rw [List.length_append, List.length_append, List.length_map, List.length_map, List.length_replicate, List.length_replicate, hl], fun i d e => ?_⟩
  by_cases hi : i < ds.length
  · rw [List.getElem?_append_left (by rw [List.length_map]; exact hi), List.getElem?_map] at e
    cases q : ds[i]? with
    | none => rw [q] at e; cases e
    | some d' =>
      rw [q] at e
      have e1 : d' = d := Option.some.inj (Option.some.inj e)
      subst e1
      obtain ⟨x, e2, r⟩ := h.get q
      refine ⟨x, ?_, r⟩
      unfold L2.start
      rw [List.getElem?_append_left (by rw [List.length_map]; omega), List.getElem?_map, e2]
      rfl
  · rw [List.getElem?_append_right (by rw [List.length_map]; omega), List.getElem?_replicate] at e
    split at e <;> cases e
end

/-! ### readings of data, and what they say of the heap -/
abbrev DK := D → Mu → Prop
abbrev DTE := DEnv → Mu → DK → Prop
abbrev DTT := DEnv → Mu → (Bool → Mu → Prop) → Prop
abbrev DTA := DEnv → Mu → (List D → Mu → Prop) → Prop
structure DEnds where
  nx : DEnv → Mu → Prop
  rt : DK
  bk : DEnv → Mu → Prop := fun _ _ => False
  ct : DEnv → Mu → Prop := fun _ _ => False
abbrev DTS := DEnds → DEnv → Mu → Prop

def Post (K : PySem.W.Frag) (H F : Hp) (M : Mu) (Qd : DK) (Q : VK) : Prop := ∀ d M' F' v H', Qd d M' → Go H F M H' F' M' → Sv K H' F' M' → Rp K F' d v → Q v H'
def PostT (K : PySem.W.Frag) (H F : Hp) (M : Mu) (Qd : Bool → Mu → Prop) (Q : Bool → Hp → Prop) : Prop := ∀ b M' F' H', Qd b M' → Go H F M H' F' M' → Sv K H' F' M' → Q b H'
def PostA (K : PySem.W.Frag) (H F : Hp) (M : Mu) (Qd : List D → Mu → Prop) (Q : List V → Hp → Prop) : Prop := ∀ ds M' F' vs H', Qd ds M' → Go H F M H' F' M' → Sv K H' F' M' → RpL K F' ds vs → Q vs H'
def PostE (K : PySem.W.Frag) (H F : Hp) (M : Mu) (Qd : DEnv → Mu → Prop) (Q : L2.St → Hp → Prop) : Prop := ∀ δ M' F' σ H', Qd δ M' → Go H F M H' F' M' → Sv K H' F' M' → ERel K F' δ σ → Q σ H'
structure PostS (K : PySem.W.Frag) (H F : Hp) (M : Mu) (Dd : DEnds) (Dv : Ends) : Prop where
  nx : PostE K H F M Dd.nx Dv.nx
  rt : Post K H F M Dd.rt Dv.rt
  bk : PostE K H F M Dd.bk Dv.bk
  ct : PostE K H F M Dd.ct Dv.ct
section
variable {K : PySem.W.Frag} {H H1 F F1 : Hp} {M M1 : Mu}
theorem Post.go {Qd : DK} {Q : VK} (p : Post K H F M Qd Q) (g : Go H F M H1 F1 M1) : Post K H1 F1 M1 Qd Q := fun d M' F' v H' q g' s r => p d M' F' v H' q (g.trans g') s r
theorem PostT.go {Qd : Bool → Mu → Prop} {Q : Bool → Hp → Prop} (p : PostT K H F M Qd Q) (g : Go H F M H1 F1 M1) : PostT K H1 F1 M1 Qd Q := fun d M' F' H' q g' s => p d M' F' H' q (g.trans g') s
theorem PostA.go {Qd : List D → Mu → Prop} {Q : List V → Hp → Prop} (p : PostA K H F M Qd Q) (g : Go H F M H1 F1 M1) : PostA K H1 F1 M1 Qd Q := fun d M' F' v H' q g' s r => p d M' F' v H' q (g.trans g') s r
theorem PostE.go {Qd : DEnv → Mu → Prop} {Q : L2.St → Hp → Prop} (p : PostE K H F M Qd Q) (g : Go H F M H1 F1 M1) : PostE K H1 F1 M1 Qd Q := fun d M' F' v H' q g' s r => p d M' F' v H' q (g.trans g') s r
theorem PostS.go {Dd : DEnds} {Dv : Ends} (p : PostS K H F M Dd Dv) (g : Go H F M H1 F1 M1) : PostS K H1 F1 M1 Dd Dv := ⟨p.nx.go g, p.rt.go g, p.bk.go g, p.ct.go g⟩
theorem Post.fin {Qd : DK} {Q : VK} (p : Post K H F M Qd Q) (s : Sv K H F M) {d : D} {v : V} (q : Qd d M) (r : Rp K F d v) : Q v H := p d M F v H q Go.refl s r
end
def lift (K : PySem.W.Frag) (u : DTE) : TE := fun σ H Q => ∃ δ M F Qd, ERel K F δ σ ∧ Sv K H F M ∧ u δ M Qd ∧ Post K H F M Qd Q
def liftT (K : PySem.W.Frag) (u : DTT) : TT := fun σ H Q => ∃ δ M F Qd, ERel K F δ σ ∧ Sv K H F M ∧ u δ M Qd ∧ PostT K H F M Qd Q
def liftA (K : PySem.W.Frag) (u : DTA) : TA := fun σ H Q => ∃ δ M F Qd, ERel K F δ σ ∧ Sv K H F M ∧ u δ M Qd ∧ PostA K H F M Qd Q
def liftS (K : PySem.W.Frag) (u : DTS) : TS := fun Dv σ H => ∃ δ M F Dd, ERel K F δ σ ∧ Sv K H F M ∧ u Dd δ M ∧ PostS K H F M Dd Dv
abbrev DE (X : Cx) (e : Expr) (u : DTE) : Prop := PE X e (lift X.K u)
abbrev DT (X : Cx) (e : Expr) (u : DTT) : Prop := PT X e (liftT X.K u)
abbrev DW (X : Cx) (e : Expr) (u : DTT) : Prop := PW X e (liftT X.K u)
abbrev DA (X : Cx) (es : List Expr) (u : DTA) : Prop := PA X es (liftA X.K u)
abbrev DS (X : Cx) (s : Stmt) (u : DTS) : Prop := PS X s (liftS X.K u)
abbrev DSs (X : Cx) (s : List Stmt) (u : DTS) : Prop := PSs X s (liftS X.K u)
section
variable {X : Cx}
theorem PE.weak {e : Expr} {t t' : TE} (h : PE X e t) (i : ∀ σ H Q, t' σ H Q → t σ H Q) : PE X e t' := ⟨fun pins s σ H Q I q => h.run pins s σ H Q I (i _ _ _ q)⟩
theorem PT.weak {e : Expr} {t t' : TT} (h : PT X e t) (i : ∀ σ H Q, t' σ H Q → t σ H Q) : PT X e t' := ⟨fun pins s σ H Q I q => h.run pins s σ H Q I (i _ _ _ q)⟩
theorem PW.weak {e : Expr} {t t' : TT} (h : PW X e t) (i : ∀ σ H Q, t' σ H Q → t σ H Q) : PW X e t' := ⟨fun wh pins s σ H Q I q => h.run wh pins s σ H Q I (i _ _ _ q)⟩
theorem PA.weak {e : List Expr} {t t' : TA} (h : PA X e t) (i : ∀ σ H Q, t' σ H Q → t σ H Q) : PA X e t' := ⟨fun pos pins s σ H Q I q => h.run pos pins s σ H Q I (i _ _ _ q)⟩
theorem PS.weak {e : Stmt} {t t' : TS} (h : PS X e t) (i : ∀ D σ H, t' D σ H → t D σ H) : PS X e t' := ⟨fun pins s σ H D I q => h.run pins s σ H D I (i _ _ _ q)⟩
theorem PSs.weak {e : List Stmt} {t t' : TS} (h : PSs X e t) (i : ∀ D σ H, t' D σ H → t D σ H) : PSs X e t' := ⟨fun pins s σ H D I q => h.run pins s σ H D I (i _ _ _ q)⟩
end
end DL

namespace DL
open PySem PySem.Spec PyProof.Rows L2 TL

/-! ### names, constants -/
def dVar (i : Nat) : DTE := fun δ M Q => match δ[i]? with
  | some (some d) => Q d M
  | _ => False
def dC (d : D) : DTE := fun _ M Q => Q d M
section
variable {X : Cx}
theorem de_var (i : Nat) {x : Str} {pos : Pos} (hN : X.N[i]? = some x := by rfl) (hv : Vis X.env.scope x := by first | exact Or.inl rfl | exact Or.inr (Or.inl rfl) | exact Or.inr (Or.inr rfl)) (hd : (x == ("__debug__" : Str)) = false := by decide)
    (hcd : (x == ("__classdict__" : Str)) = false := by decide) : DE X (.Name x pos) (dVar i) := by
  refine PE.weak (pe_var hN hv hd hcd) fun σ H Q h => ?_
  obtain ⟨δ, M, F, Qd, hE, s, hu, p⟩ := h
  have hu' : (match δ[i]? with | some (some d) => Qd d M | _ => False) := hu
  split at hu'
  · rename_i d e
    obtain ⟨v, e2, r⟩ := hE.2 i d e
    exact ⟨v, e2, p.fin s hu' r⟩
  · exact hu'.elim
theorem de_cst {e : Expr} {v : V} {d : D} (h : PE X e (tC v)) (r : ∀ F, Rp X.K F d v) : DE X e (dC d) := by
  refine PE.weak h fun σ H Q h => ?_
  obtain ⟨δ, M, F, Qd, hE, s, hu, p⟩ := h
  exact p.fin s hu (r F)
theorem de_int {i : Int} {j : Nat} {pos : Pos} : DE X (.Constant (.int i) j pos) (dC (.int i)) := de_cst pe_int fun F => by unfold Rp; rfl
theorem de_bl {i : Bool} {j : Nat} {pos : Pos} : DE X (.Constant (.bool i) j pos) (dC (.bl i)) := de_cst pe_bl fun F => by unfold Rp; rfl
theorem de_non {j : Nat} {pos : Pos} : DE X (.Constant .none j pos) (dC .non) := de_cst pe_non fun F => by unfold Rp; rfl
theorem de_str {x : Str} {j : Nat} {pos : Pos} (cs : List Nat) (h : x = mkS cs := by decide +kernel) : DE X (.Constant (.str x) j pos) (dC (.str cs)) := de_cst pe_str fun F => by unfold Rp; rw [h]
theorem de_glob {x : Str} {pos : Pos} {d : D} {v : V} {u : Value} (hg : Gl X x) (hm : X.mg x = some u) (r : RelV v u) (rp : ∀ F, Rp X.K F d v) (hd : (x == ("__debug__" : Str)) = false := by decide) : DE X (.Name x pos) (dC d) := de_cst (pe_glob hg hm r hd) rp
theorem de_ty {x : Str} {pos : Pos} (n : String) (hg : Gl X x) (hm : X.mg x = none) (hv : bootBuiltins x = some (.type n)) (hn : x ≠ "__name__" := by decide) (hd : (x == ("__debug__" : Str)) = false := by decide) : DE X (.Name x pos) (dC (.ty n)) := de_cst (pe_bltn (v := .ty n) hg hm hv rfl hn hd) fun F => by unfold Rp; rfl
end

/-! ### operators -/
abbrev DR2 := D → D → Mu → DK → Prop
def dOp (rd : DR2) (ua ub : DTE) : DTE := fun δ M Q => ua δ M fun x M1 => ub δ M1 fun y M2 => rd x y M2 Q
/-- what a rule by data says of a rule by values -/
def Rel2 (K : PySem.W.Frag) (r : R2) (rd : DR2) : Prop := ∀ x y vx vy H F M Qd Q, Rp K F x vx → Rp K F y vy → Sv K H F M → rd x y M Qd → Post K H F M Qd Q → r vx vy H Q
theorem OpR.or {X : Cx} {f : Value → Value → Sem Value} {r r' : R2} (h : OpR X f r) (h' : OpR X f r') : OpR X f (fun x y H Q => r x y H Q ∨ r' x y H Q) := fun pins s σ H x y v u Q I rx ry q => by
  rcases q with q | q
  · exact h pins s σ H x y v u Q I rx ry q
  · exact h' pins s σ H x y v u Q I rx ry q
section
variable {X : Cx} {a b c : Expr} {ua ub uc : DTE} {pos : Pos}
theorem bin2 {r : R2} {rd : DR2} (hr : Rel2 X.K r rd) : ∀ σ H Q, lift X.K (dOp rd ua ub) σ H Q → tOp r (lift X.K ua) (lift X.K ub) σ H Q := fun σ H Q h => by
  obtain ⟨δ, M, F, Qd, hE, s, hu, p⟩ := h
  refine ⟨δ, M, F, _, hE, s, hu, fun x M1 F1 vx H1 q1 g1 s1 r1 => ?_⟩
  refine ⟨δ, M1, F1, _, hE.mono g1.le, s1, q1, fun y M2 F2 vy H2 q2 g2 s2 r2 => ?_⟩
  exact hr x y vx vy H2 F2 M2 Qd Q (r1.mono g2.le) r2 s2 q2 (p.go (g1.trans g2))
theorem de_op {op : Operator} {r : R2} {rd : DR2} (ho : OpR X (binaryOp op) r) (hr : Rel2 X.K r rd) (ha : DE X a ua) (hb : DE X b ub) : DE X (.BinOp a op b pos) (dOp rd ua ub) := PE.weak (pe_op ho ha hb) (bin2 hr)
theorem de_cmp {op : CmpOp} {r : R2} {rd : DR2} (ho : OpR X (compareOp op) r) (hr : Rel2 X.K r rd) (ha : DE X a ua) (hb : DE X b ub) (hm : behindInMarks op b = false) : DE X (.Compare a [op] [b] pos) (dOp rd ua ub) := PE.weak (pe_cmpR ho ha hb hm) (bin2 hr)
end
def DUn := D → Mu → DK → Prop
def dUn (rd : DUn) (ua : DTE) : DTE := fun δ M Q => ua δ M fun x M1 => rd x M1 Q
def Rel1 (K : PySem.W.Frag) (r : V → Hp → VK → Prop) (rd : DUn) : Prop := ∀ x vx H F M Qd Q, Rp K F x vx → Sv K H F M → rd x M Qd → Post K H F M Qd Q → r vx H Q
section
variable {X : Cx} {a b c : Expr} {ua ub uc : DTE} {pos : Pos}
theorem un1 {r : V → Hp → VK → Prop} {rd : DUn} (hr : Rel1 X.K r rd) : ∀ σ H Q, lift X.K (dUn rd ua) σ H Q → tUn r (lift X.K ua) σ H Q := fun σ H Q h => by
  obtain ⟨δ, M, F, Qd, hE, s, hu, p⟩ := h
  exact ⟨δ, M, F, _, hE, s, hu, fun x M1 F1 vx H1 q1 g1 s1 r1 => hr x vx H1 F1 M1 Qd Q r1 s1 q1 (p.go g1)⟩
theorem de_un {op : UnaryOp} {r : V → Hp → VK → Prop} {rd : DUn} (ho : UnR X (unaryOp op) r) (hr : Rel1 X.K r rd) (ha : DE X a ua) : DE X (.UnaryOp op a pos) (dUn rd ua) := PE.weak (pe_un ho ha) (un1 hr)
end

/-! ### sequences by data -/
/-- the items of a list -/
def dseq (M : Mu) : D → Option (List D)
  | .lst ds => some ds
  | .ref a => match M a with
    | some (.lst ds) => some ds
    | _ => none
  | _ => none
theorem dseq_at {K : PySem.W.Frag} {H F : Hp} {M : Mu} {d : D} {v : V} {ds : List D} (s : Sv K H F M) (r : Rp K F d v) (h : dseq M d = some ds) : ∃ a xs, v = .ref a ∧ H a = some (.lst xs) ∧ RpL K F ds xs := by
  cases d with
  | lst es =>
    unfold Rp at r
    obtain ⟨a, xs, e, h1, r1⟩ := r
    cases h
    exact ⟨a, xs, e, s.fh _ _ h1, r1⟩
  | ref a =>
    unfold Rp at r
    have h' : (match M a with | some (.lst ds) => some ds | _ => none) = some ds := h
    cases q : M a with
    | none => rw [q] at h'; cases h'
    | some o =>
      rw [q] at h'
      cases o with
      | lst es =>
        cases h'
        obtain ⟨ho, e, xs, e2, r1⟩ := s.mu a _ q
        subst e2
        exact ⟨a, xs, r, e, r1⟩
      | dic kvs => cases h'
  | _ => cases h
/-- a new list: one that stays, or (mu) one that may change -/
def dNew (mu : Bool) (ds : List D) (M : Mu) (Q : DK) : Prop := match mu with
  | false => Q (.lst ds) M
  | true => ∀ p, M p = none → Q (.ref p) (mset M p (.lst ds))
theorem dNew_at {K : PySem.W.Frag} {H F : Hp} {M : Mu} {mu : Bool} {ds : List D} {xs : List V} {Qd : DK} {Q : VK} {p : Addr} (s : Sv K H F M) (r : RpL K F ds xs) (h : dNew mu ds M Qd) (po : Post K H F M Qd Q) (hp : H p = none) : Q (.ref p) (upd H p (.lst xs)) := by
  cases mu with
  | false =>
    obtain ⟨s1, g1⟩ := s.newF (o := .lst xs) hp
    refine po _ _ _ _ _ h g1 s1 ?_
    unfold Rp
    exact ⟨p, xs, rfl, upd_same, r.mono g1.le⟩
  | true =>
    obtain ⟨s1, g1⟩ := s.newM (o := .lst ds) (ho := .lst xs) hp ⟨xs, rfl, r⟩
    refine po _ _ _ _ _ (h p (s.fresh hp).2) g1 s1 ?_
    unfold Rp
    rfl
theorem newT_at {K : PySem.W.Frag} {H F : Hp} {M : Mu} {ds : List D} {xs : List V} {Qd : DK} {Q : VK} {p : Addr} (s : Sv K H F M) (r : RpL K F ds xs) (h : Qd (.tup ds) M) (po : Post K H F M Qd Q) (hp : H p = none) : Q (.ref p) (upd H p (.tup xs)) := by
  obtain ⟨s1, g1⟩ := s.newF (o := .tup xs) hp
  refine po _ _ _ _ _ h g1 s1 ?_
  unfold Rp
  exact ⟨p, xs, rfl, .inl (.inl upd_same), r.mono g1.le⟩

/-! ### + -/
def dAdd (mu : Bool) : DR2
  | .int i, .int j, M, Q => Q (.int (i + j)) M
  | .str a, .str b, M, Q => a.length + b.length ≤ sizeLine ∧ Q (.str (a ++ b)) M
  | .tup a, .tup b, M, Q => a.length + b.length ≤ sizeLine ∧ Q (.tup (a ++ b)) M
  | x, y, M, Q => match dseq M x, dseq M y with
    | some a, some b => a.length + b.length ≤ sizeLine ∧ dNew mu (a ++ b) M Q
    | _, _ => False
def rAddAll (K : PySem.W.Frag) : R2 := fun x y H Q => ((rI0 (fun i j => .int (i + j))) x y H Q ∨ (∃ i j, x = .str i ∧ y = .str j ∧ i.length + j.length ≤ sizeLine ∧ Q (.str (i ++ j)) H)) ∨ (rCatA K x y H Q ∨ rCat x y H Q)
theorem op_addAll {X : Cx} : OpR X (binaryOp .Add) (rAddAll X.K) := OpR.or (OpR.or op_add op_add_str) (OpR.or op_catA op_cat)
theorem rel_cat {K : PySem.W.Frag} {mu : Bool} {x y : D} {vx vy : V} {H F : Hp} {M : Mu} {Qd : DK} {Q : VK} (rx : Rp K F x vx) (ry : Rp K F y vy) (s : Sv K H F M) (po : Post K H F M Qd Q)
    (h : match dseq M x, dseq M y with | some a, some b => a.length + b.length ≤ sizeLine ∧ dNew mu (a ++ b) M Qd | _, _ => False) : rCat vx vy H Q := by
  cases qx : dseq M x with
  | none => rw [qx] at h; exact h.elim
  | some a =>
    cases qy : dseq M y with
    | none => rw [qx, qy] at h; exact h.elim
    | some b =>
      rw [qx, qy] at h
      obtain ⟨hl, h⟩ := h
      obtain ⟨p, xs, e1, h1, r1⟩ := dseq_at s rx qx
      obtain ⟨q, ys, e2, h2, r2⟩ := dseq_at s ry qy
      exact ⟨p, q, xs, ys, e1, e2, h1, h2, by rw [← r1.len, ← r2.len]; exact hl, fun l hl => dNew_at s (r1.app r2) h po hl⟩
theorem rel_add {K : PySem.W.Frag} {mu : Bool} : Rel2 K (rAddAll K) (dAdd mu) := by
  intro x y vx vy H F M Qd Q rx ry s h po
  unfold dAdd at h
  split at h
  · unfold Rp at rx ry
    exact .inl (.inl ⟨_, _, rx, ry, po.fin s h (by unfold Rp; rfl)⟩)
  · unfold Rp at rx ry
    obtain ⟨hl, h⟩ := h
    refine .inl (.inr ⟨_, _, rx, ry, by rw [mkS_len, mkS_len]; exact hl, po.fin s h (by unfold Rp; rw [mkS_app])⟩)
  · unfold Rp at rx ry
    obtain ⟨a, xs, e1, h1, r1⟩ := rx
    obtain ⟨b, ys, e2, h2, r2⟩ := ry
    obtain ⟨hl, h⟩ := h
    rename_i as bs
    refine .inr (.inl ⟨a, b, xs, ys, e1, e2, s.fh.sqT h1, s.fh.sqT h2, by rw [← r1.len, ← r2.len]; exact hl, fun z => ?_, fun _ z => ?_, fun _ _ p hp => newT_at s (r1.app r2) h po hp⟩)
    · subst z
      have ha : as = [] := List.length_eq_zero_iff.mp (by rw [r1.len]; rfl)
      subst ha
      exact po.fin s h (by unfold Rp; exact ⟨b, ys, rfl, h2, r2⟩)
    · subst z
      have hb : bs = [] := List.length_eq_zero_iff.mp (by rw [r2.len]; rfl)
      subst hb
      rw [List.append_nil] at h
      exact po.fin s h (by unfold Rp; exact ⟨a, xs, rfl, h1, r1⟩)
  · exact .inr (.inr (rel_cat rx ry s po h))

/-! ### other arithmetic -/
def dSub : DR2
  | .int i, .int j, M, Q => Q (.int (i - j)) M
  | _, _, _, _ => False
theorem rel_sub {K : PySem.W.Frag} : Rel2 K (rI0 fun i j => .int (i - j)) dSub := by
  intro x y vx vy H F M Qd Q rx ry s h po
  unfold dSub at h
  split at h
  · unfold Rp at rx ry
    exact ⟨_, _, rx, ry, po.fin s h (by unfold Rp; rfl)⟩
  · exact h.elim
def CMulD (i j : Int) : Prop := CMulX i j
def dMul (mu : Bool) : DR2
  | .int i, .int j, M, Q => CMulX i j ∧ Q (.int (i * j)) M
  | x, .int k, M, Q => match dseq M x with
    | some a => -(2 ^ 63) ≤ k ∧ k < 2 ^ 63 ∧ a.length * k.toNat ≤ sizeLine ∧ dNew mu (List.replicate k.toNat a).flatten M Q
    | none => False
  | _, _, _, _ => False
theorem RpL.rep {K : PySem.W.Frag} {F : Hp} {ds : List D} {xs : List V} (h : RpL K F ds xs) : ∀ k : Nat, RpL K F (List.replicate k ds).flatten (List.replicate k xs).flatten
  | 0 => RpL.nil
  | k + 1 => by
    rw [List.replicate_succ, List.replicate_succ, List.flatten_cons, List.flatten_cons]
    exact h.app (RpL.rep h k)
def rMulAll : R2 := fun x y H Q => (rI CMulX (fun i j => .int (i * j))) x y H Q ∨ rRep x y H Q
theorem op_mulAll {X : Cx} : OpR X (binaryOp .Mult) rMulAll := OpR.or op_mulX op_rep
theorem rel_mul {K : PySem.W.Frag} {mu : Bool} : Rel2 K rMulAll (dMul mu) := by
  intro x y vx vy H F M Qd Q rx ry s h po
  unfold dMul at h
  split at h
  · unfold Rp at rx ry
    exact .inl ⟨_, _, rx, ry, h.1, po.fin s h.2 (by unfold Rp; rfl)⟩
  · split at h
    · rename_i a e
      obtain ⟨h1, h2, h3, h4⟩ := h
      obtain ⟨p, xs, e1, e2, r1⟩ := dseq_at s rx e
      unfold Rp at ry
      exact .inr ⟨p, _, xs, e1, ry, e2, h1, h2, by rw [← r1.len]; exact h3, fun l hl => dNew_at s (r1.rep _) h4 po hl⟩
    · exact h.elim
  · exact h.elim
def CDivX (j : Int) : Prop := j ≠ 0 ∧ j.natAbs.log2 < 9000
def dFdiv : DR2
  | .int i, .int j, M, Q => CDivX j ∧ Q (.int (i.fdiv j)) M
  | _, _, _, _ => False
theorem op_fdivX {X : Cx} : OpR X (binaryOp .FloorDiv) (rI (fun _ j => CDivX j) fun i j => .int (i.fdiv j)) := opI fun _ _ _ _ _ _ _ hc q => floordiv_int hc.1 q (.inl (PyProof.noPylong_of_log2 hc.2))
theorem rel_fdiv {K : PySem.W.Frag} : Rel2 K (rI (fun _ j => CDivX j) fun i j => .int (i.fdiv j)) dFdiv := by
  intro x y vx vy H F M Qd Q rx ry s h po
  unfold dFdiv at h
  split at h
  · unfold Rp at rx ry
    exact ⟨_, _, rx, ry, h.1, po.fin s h.2 (by unfold Rp; rfl)⟩
  · exact h.elim
def dMod : DR2
  | .int i, .int j, M, Q => j ≠ 0 ∧ Q (.int (i.fmod j)) M
  | _, _, _, _ => False
theorem rel_mod {K : PySem.W.Frag} : Rel2 K (rI (fun _ j => j ≠ 0) fun i j => .int (i.fmod j)) dMod := by
  intro x y vx vy H F M Qd Q rx ry s h po
  unfold dMod at h
  split at h
  · unfold Rp at rx ry
    exact ⟨_, _, rx, ry, h.1, po.fin s h.2 (by unfold Rp; rfl)⟩
  · exact h.elim
def dPow : DR2
  | .int i, .int j, M, Q => CPow i j ∧ Q (.int (i ^ j.toNat)) M
  | _, _, _, _ => False
theorem rel_pow {K : PySem.W.Frag} : Rel2 K (rI CPow fun i j => .int (i ^ j.toNat)) dPow := by
  intro x y vx vy H F M Qd Q rx ry s h po
  unfold dPow at h
  split at h
  · unfold Rp at rx ry
    exact ⟨_, _, rx, ry, h.1, po.fin s h.2 (by unfold Rp; rfl)⟩
  · exact h.elim
def dShl : DR2
  | .int i, .int j, M, Q => CShl i j ∧ Q (.int (i * 2 ^ j.toNat)) M
  | _, _, _, _ => False
theorem rel_shl {K : PySem.W.Frag} : Rel2 K (rI CShl fun i j => .int (i * 2 ^ j.toNat)) dShl := by
  intro x y vx vy H F M Qd Q rx ry s h po
  unfold dShl at h
  split at h
  · unfold Rp at rx ry
    exact ⟨_, _, rx, ry, h.1, po.fin s h.2 (by unfold Rp; rfl)⟩
  · exact h.elim
def dNeg : DUn
  | .int i, M, Q => Q (.int (-i)) M
  | _, _, _ => False
theorem rel_neg {K : PySem.W.Frag} : Rel1 K (rU fun i => .int (-i)) dNeg := by
  intro x vx H F M Qd Q rx s h po
  unfold dNeg at h
  split at h
  · unfold Rp at rx
    exact ⟨_, rx, po.fin s h (by unfold Rp; rfl)⟩
  · exact h.elim
section
variable {X : Cx} {a b c : Expr} {ua ub uc : DTE} {pos : Pos}
theorem de_add (mu : Bool) (ha : DE X a ua) (hb : DE X b ub) : DE X (.BinOp a .Add b pos) (dOp (dAdd mu) ua ub) := de_op op_addAll rel_add ha hb
theorem de_sub (ha : DE X a ua) (hb : DE X b ub) : DE X (.BinOp a .Sub b pos) (dOp dSub ua ub) := de_op op_sub rel_sub ha hb
theorem de_mul (mu : Bool) (ha : DE X a ua) (hb : DE X b ub) : DE X (.BinOp a .Mult b pos) (dOp (dMul mu) ua ub) := de_op op_mulAll rel_mul ha hb
theorem de_fdiv (ha : DE X a ua) (hb : DE X b ub) : DE X (.BinOp a .FloorDiv b pos) (dOp dFdiv ua ub) := de_op op_fdivX rel_fdiv ha hb
theorem de_mod (ha : DE X a ua) (hb : DE X b ub) : DE X (.BinOp a .Mod b pos) (dOp dMod ua ub) := de_op op_modN rel_mod ha hb
theorem de_pow (ha : DE X a ua) (hb : DE X b ub) : DE X (.BinOp a .Pow b pos) (dOp dPow ua ub) := de_op op_pow rel_pow ha hb
theorem de_shl (ha : DE X a ua) (hb : DE X b ub) : DE X (.BinOp a .LShift b pos) (dOp dShl ua ub) := de_op op_shlW rel_shl ha hb
theorem de_neg (ha : DE X a ua) : DE X (.UnaryOp .USub a pos) (dUn dNeg ua) := de_un un_neg rel_neg ha
end

/-! ### comparisons -/
mutual
def pyd : D → Option PyData
  | .non => some .none
  | .bl b => some (.bool b)
  | .int i => some (.int i)
  | .str cs => some (.str (mkS cs))
  | .tup ds => (pydL ds).map .tuple
  | .lst ds => (pydL ds).map .list
  | .src ns => some (.list (ns.map .int))
  | _ => none
def pydL : List D → Option (List PyData)
  | [] => some []
  | d :: ds => match pyd d, pydL ds with
    | some p, some ps => some (p :: ps)
    | _, _ => none
end
theorem dpAll_ints {K : PySem.W.Frag} {H : Hp} : ∀ ns : List Int, DpAll K H (ns.map V.int) (ns.map PyData.int)
  | [] => .nil
  | n :: ns => .cons (.int n) (dpAll_ints ns)
mutual
theorem pyd_at {K : PySem.W.Frag} {H F : Hp} (l : Le F H) : ∀ {d : D} {v : V} {p : PyData}, Rp K F d v → pyd d = some p → Dp K H v p
  | .non, _, _, r, e => by unfold Rp at r; unfold pyd at e; cases e; subst r; exact .non
  | .bl _, _, _, r, e => by unfold Rp at r; unfold pyd at e; cases e; subst r; exact .bl _
  | .int _, _, _, r, e => by unfold Rp at r; unfold pyd at e; cases e; subst r; exact .int _
  | .str _, _, _, r, e => by unfold Rp at r; unfold pyd at e; cases e; subst r; exact .str _
  | .ref _, _, _, r, e => by unfold pyd at e; cases e
  | .ty _, _, _, r, e => by unfold pyd at e; cases e
  | .src ns, _, _, r, e => by
    unfold Rp at r; unfold pyd at e; cases e
    obtain ⟨a, e1, h1⟩ := r
    subst e1
    exact .lst (l.sqL h1) (dpAll_ints ns)
  | .tup ds, _, _, r, e => by
    unfold Rp at r; unfold pyd at e
    obtain ⟨a, xs, e1, h1, r1⟩ := r
    subst e1
    cases q : pydL ds with
    | none => rw [q] at e; cases e
    | some ps => rw [q] at e; cases e; exact .tup (l.sqT h1) (pydL_at l r1 q)
  | .lst ds, _, _, r, e => by
    unfold Rp at r; unfold pyd at e
    obtain ⟨a, xs, e1, h1, r1⟩ := r
    subst e1
    cases q : pydL ds with
    | none => rw [q] at e; cases e
    | some ps => rw [q] at e; cases e; exact .lst (.inl (.inl (l _ _ h1))) (pydL_at l r1 q)
theorem pydL_at {K : PySem.W.Frag} {H F : Hp} (l : Le F H) : ∀ {ds : List D} {vs : List V} {ps : List PyData}, RpL K F ds vs → pydL ds = some ps → DpAll K H vs ps
  | [], _, _, r, e => by unfold RpL at r; unfold pydL at e; cases e; subst r; exact .nil
  | d :: ds, _, _, r, e => by
    unfold RpL at r
    obtain ⟨x, xs, e1, r1, r2⟩ := r
    subst e1
    unfold pydL at e
    cases q1 : pyd d with
    | none => rw [q1] at e; cases e
    | some p =>
      cases q2 : pydL ds with
      | none => rw [q1, q2] at e; cases e
      | some ps =>
        rw [q1, q2] at e; cases e
        exact .cons (pyd_at l r1 q1) (pydL_at l r2 q2)
end
/-- a list that may change, as data at its top -/
def pydM (M : Mu) : D → Option PyData
  | .ref a => match M a with
    | some (.lst ds) => (pydL ds).map .list
    | _ => none
  | d => pyd d
theorem pydM_at {K : PySem.W.Frag} {H F : Hp} {M : Mu} (s : Sv K H F M) {d : D} {v : V} {p : PyData} (r : Rp K F d v) (e : pydM M d = some p) : Dp K H v p := by
  cases d with
  | ref a =>
    unfold Rp at r
    subst r
    have e' : (match M a with | some (.lst ds) => (pydL ds).map .list | _ => none) = some p := e
    cases q : M a with
    | none => rw [q] at e'; cases e'
    | some o =>
      rw [q] at e'
      cases o with
      | dic _ => cases e'
      | lst ds =>
        obtain ⟨ho, e2, xs, e3, r1⟩ := s.mu a _ q
        subst e3
        have e4 : (pydL ds).map PyData.list = some p := e'
        cases q2 : pydL ds with
        | none => rw [q2] at e4; cases e4
        | some ps => rw [q2] at e4; cases e4; exact .lst (.inl (.inl e2)) (pydL_at s.fh r1 q2)
  | _ => exact pyd_at s.fh r e
/-- data whose == is told -/
def dEqv (M : Mu) (x y : D) (Q : Bool → Prop) : Prop := match x, y with
  | .int i, .int j => Q (decide (i = j))
  | .str a, .str b => Q (decide (a = b))
  | .bl a, .bl b => Q (decide (a = b))
  | .non, .non => Q true
  | .non, .int _ => Q false
  | .int _, .non => Q false
  | .non, .str _ => Q false
  | .str _, .non => Q false
  | .non, .bl _ => Q false
  | .bl _, .non => Q false
  | .int _, .str _ => Q false
  | .str _, .int _ => Q false
  | x, y => ∃ d e, pydM M x = some d ∧ pydM M y = some e ∧ SeqAt.shaped d = true ∧ SeqAt.shaped e = true ∧ Q (PyData.eqv d e)
def dEq : DR2 := fun x y M Q => dEqv M x y fun b => Q (.bl b) M
def dNe : DR2 := fun x y M Q => dEqv M x y fun b => Q (.bl (!b)) M
def rEqAll (K : PySem.W.Frag) : R2 := fun x y H Q => rEq x y H Q ∨ rEqD K x y H Q
def rNeAll (K : PySem.W.Frag) : R2 := fun x y H Q => rNe x y H Q ∨ rNeD K x y H Q
theorem dec_mkS (a b : List Nat) : decide (V.str (mkS a) = V.str (mkS b)) = decide (a = b) := by
  by_cases e : a = b
  · subst e; simp
  · rw [decide_eq_false e]
    exact decide_eq_false fun z => e (mkS_inj (V.str.inj z))
theorem rel_eqv {K : PySem.W.Frag} {x y : D} {vx vy : V} {H F : Hp} {M : Mu} {Qd : Bool → Prop} {Q : Bool → Prop} (rx : Rp K F x vx) (ry : Rp K F y vy) (s : Sv K H F M) (h : dEqv M x y Qd) (po : ∀ b, Qd b → Q b) :
    (scal vx vy = true ∧ Q (decide (vx = vy))) ∨ ∃ d e, Dp K H vx d ∧ Dp K H vy e ∧ SeqAt.shaped d = true ∧ SeqAt.shaped e = true ∧ Q (PyData.eqv d e) := by
  unfold dEqv at h
  split at h
  · unfold Rp at rx ry; subst rx ry
    refine .inl ⟨rfl, ?_⟩
    rename_i i j
    have e : decide (V.int i = V.int j) = decide (i = j) := by rw [dec_int]; rfl
    rw [e]; exact po _ h
  · unfold Rp at rx ry; subst rx ry
    refine .inl ⟨rfl, ?_⟩
    rw [dec_mkS]; exact po _ h
  · unfold Rp at rx ry; subst rx ry
    refine .inl ⟨rfl, ?_⟩
    rename_i i j
    have e : decide (V.bl i = V.bl j) = decide (i = j) := by cases i <;> cases j <;> rfl
    rw [e]; exact po _ h
  · unfold Rp at rx ry; subst rx ry
    exact .inl ⟨rfl, po _ h⟩
  all_goals first
    | (unfold Rp at rx ry; subst rx ry; exact .inl ⟨rfl, by rw [decide_eq_false (by intro z; cases z)]; exact po _ h⟩)
    | skip
  obtain ⟨d, e, e1, e2, s1, s2, q⟩ := h
  exact .inr ⟨d, e, pydM_at s rx e1, pydM_at s ry e2, s1, s2, po _ q⟩
theorem rel_eq {K : PySem.W.Frag} : Rel2 K (rEqAll K) dEq := by
  intro x y vx vy H F M Qd Q rx ry s h po
  rcases rel_eqv (Q := fun b => Q (.bl b) H) rx ry s h (fun b q => po.fin s q (by unfold Rp; rfl)) with h | h
  · exact .inl h
  · exact .inr h
theorem rel_ne {K : PySem.W.Frag} : Rel2 K (rNeAll K) dNe := by
  intro x y vx vy H F M Qd Q rx ry s h po
  rcases rel_eqv (Q := fun b => Q (.bl (!b)) H) rx ry s h (fun b q => po.fin s q (by unfold Rp; rfl)) with h | h
  · exact .inl h
  · exact .inr h
theorem op_eqAll {X : Cx} (hu : X.A.units + 64 < cLine) : OpR X (compareOp .Eq) (rEqAll X.K) := OpR.or op_eq (op_eqD hu)
theorem op_neAll {X : Cx} (hu : X.A.units + 64 < cLine) : OpR X (compareOp .NotEq) (rNeAll X.K) := OpR.or op_ne (op_neD hu)
def dLt : DR2
  | .int i, .int j, M, Q => Q (.bl (decide (i < j))) M
  | .str a, .str b, M, Q => Q (.bl (decide (a < b))) M
  | _, _, _, _ => False
def dGt : DR2
  | .int i, .int j, M, Q => Q (.bl (decide (j < i))) M
  | .str a, .str b, M, Q => Q (.bl (decide (b < a))) M
  | _, _, _, _ => False
def dLe : DR2
  | .int i, .int j, M, Q => Q (.bl (decide (i ≤ j))) M
  | .str a, .str b, M, Q => Q (.bl (!decide (b < a))) M
  | _, _, _, _ => False
def dGe : DR2
  | .int i, .int j, M, Q => Q (.bl (decide (j ≤ i))) M
  | .str a, .str b, M, Q => Q (.bl (!decide (a < b))) M
  | _, _, _, _ => False
def rCmpAll (f : Int → Int → Bool) (g : List Nat → List Nat → Bool) : R2 := fun x y H Q => (rI0 fun i j => .bl (f i j)) x y H Q ∨ (∃ i j, x = .str i ∧ y = .str j ∧ Q (.bl (g i.cps.toList j.cps.toList)) H)
theorem op_ltAll {X : Cx} : OpR X (compareOp .Lt) (rCmpAll (fun i j => decide (i < j)) fun a b => decide (a < b)) := OpR.or op_lt op_lt_str
theorem op_gtAll {X : Cx} : OpR X (compareOp .Gt) (rCmpAll (fun i j => decide (j < i)) fun a b => decide (b < a)) := OpR.or op_gt op_gt_str
theorem op_leAll {X : Cx} : OpR X (compareOp .LtE) (rCmpAll (fun i j => decide (i ≤ j)) fun a b => !decide (b < a)) := OpR.or op_le op_le_str
theorem op_geAll {X : Cx} : OpR X (compareOp .GtE) (rCmpAll (fun i j => decide (j ≤ i)) fun a b => !decide (a < b)) := OpR.or op_ge op_ge_str
theorem rel_lt {K : PySem.W.Frag} : Rel2 K (rCmpAll (fun i j => decide (i < j)) fun a b => decide (a < b)) dLt := by
  intro x y vx vy H F M Qd Q rx ry s h po
  unfold dLt at h
  split at h
  · unfold Rp at rx ry; exact .inl ⟨_, _, rx, ry, po.fin s h (by unfold Rp; rfl)⟩
  · unfold Rp at rx ry; exact .inr ⟨_, _, rx, ry, po.fin s h (by unfold Rp; rfl)⟩
  · exact h.elim
theorem rel_gt {K : PySem.W.Frag} : Rel2 K (rCmpAll (fun i j => decide (j < i)) fun a b => decide (b < a)) dGt := by
  intro x y vx vy H F M Qd Q rx ry s h po
  unfold dGt at h
  split at h
  · unfold Rp at rx ry; exact .inl ⟨_, _, rx, ry, po.fin s h (by unfold Rp; rfl)⟩
  · unfold Rp at rx ry; exact .inr ⟨_, _, rx, ry, po.fin s h (by unfold Rp; rfl)⟩
  · exact h.elim
theorem rel_le {K : PySem.W.Frag} : Rel2 K (rCmpAll (fun i j => decide (i ≤ j)) fun a b => !decide (b < a)) dLe := by
  intro x y vx vy H F M Qd Q rx ry s h po
  unfold dLe at h
  split at h
  · unfold Rp at rx ry; exact .inl ⟨_, _, rx, ry, po.fin s h (by unfold Rp; rfl)⟩
  · unfold Rp at rx ry; exact .inr ⟨_, _, rx, ry, po.fin s h (by unfold Rp; rfl)⟩
  · exact h.elim
theorem rel_ge {K : PySem.W.Frag} : Rel2 K (rCmpAll (fun i j => decide (j ≤ i)) fun a b => !decide (a < b)) dGe := by
  intro x y vx vy H F M Qd Q rx ry s h po
  unfold dGe at h
  split at h
  · unfold Rp at rx ry; exact .inl ⟨_, _, rx, ry, po.fin s h (by unfold Rp; rfl)⟩
  · unfold Rp at rx ry; exact .inr ⟨_, _, rx, ry, po.fin s h (by unfold Rp; rfl)⟩
  · exact h.elim
def isNon : D → Bool
  | .non => true
  | _ => false
theorem isNon_at {K : PySem.W.Frag} {F : Hp} {d : D} {v : V} (r : Rp K F d v) : decide (v = .non) = isNon d := by
  cases d with
  | non => unfold Rp at r; subst r; rfl
  | bl _ => unfold Rp at r; subst r; rfl
  | int _ => unfold Rp at r; subst r; rfl
  | str _ => unfold Rp at r; subst r; rfl
  | ref _ => unfold Rp at r; subst r; rfl
  | ty _ => unfold Rp at r; subst r; rfl
  | src _ => unfold Rp at r; obtain ⟨a, e, _⟩ := r; subst e; rfl
  | tup _ => unfold Rp at r; obtain ⟨a, _, e, _⟩ := r; subst e; rfl
  | lst _ => unfold Rp at r; obtain ⟨a, _, e, _⟩ := r; subst e; rfl
def dIsN : DR2 := fun x y M Q => isNon y = true ∧ Q (.bl (isNon x)) M
def dNotN : DR2 := fun x y M Q => isNon y = true ∧ Q (.bl (!isNon x)) M
theorem non_at {K : PySem.W.Frag} {F : Hp} {d : D} {v : V} (r : Rp K F d v) (h : isNon d = true) : v = .non := by
  rw [← isNon_at r] at h
  exact of_decide_eq_true h
theorem rel_isN {K : PySem.W.Frag} : Rel2 K (fun x y H Q => y = .non ∧ Q (.bl (decide (x = .non))) H) dIsN := fun x y vx vy H F M Qd Q rx ry s h po =>
  ⟨non_at ry h.1, po.fin s h.2 (by unfold Rp; rw [isNon_at rx])⟩
theorem rel_notN {K : PySem.W.Frag} : Rel2 K (fun x y H Q => y = .non ∧ Q (.bl (!decide (x = .non))) H) dNotN := fun x y vx vy H F M Qd Q rx ry s h po =>
  ⟨non_at ry h.1, po.fin s h.2 (by unfold Rp; rw [isNon_at rx])⟩
/-! ### in -/
def flatD : D → Bool
  | .non => true
  | .bl _ => true
  | .int _ => true
  | .str _ => true
  | _ => false
def eqFl : D → D → Bool
  | .non, .non => true
  | .bl a, .bl b => a == b
  | .bl a, .int b => (if a then 1 else 0) == b
  | .int a, .bl b => a == (if b then 1 else 0)
  | .int a, .int b => decide (a = b)
  | .str a, .str b => decide (a = b)
  | _, _ => false
theorem flat_of {K : PySem.W.Frag} {F : Hp} {d : D} {v : V} (r : Rp K F d v) (h : flatD d = true) : flatV v = true := by
  cases d <;> first | (cases h; done) | (unfold Rp at r; subst r; rfl)
theorem eqFl_of {K : PySem.W.Frag} {F : Hp} {d e : D} {v u : V} (r : Rp K F d v) (q : Rp K F e u) (h : flatD d = true) (h' : flatD e = true) : eqV v u = eqFl d e := by
  cases d <;> first | (cases h; done) | (cases e <;> first | (cases h'; done) | (unfold Rp at r q; subst r q; first | rfl | skip))
  · rename_i a b
    show (mkS a == mkS b) = decide (a = b)
    by_cases e : a = b
    · subst e; simp
    · rw [decide_eq_false e]
      exact beq_eq_false_iff_ne.mpr fun z => e (mkS_inj z)
theorem flats_of {K : PySem.W.Frag} {F : Hp} : ∀ {ds : List D} {vs : List V}, RpL K F ds vs → ds.all flatD = true → vs.all flatV = true
  | [], _, r, _ => by unfold RpL at r; subst r; rfl
  | d :: ds, _, r, h => by
    unfold RpL at r
    obtain ⟨x, xs, e, r1, r2⟩ := r
    subst e
    rw [List.all_cons, Bool.and_eq_true] at h ⊢
    exact ⟨flat_of r1 h.1, flats_of r2 h.2⟩
def inD (x : D) (ds : List D) : Bool := ds.any fun y => eqFl y x
theorem inD_of {K : PySem.W.Frag} {F : Hp} {x : D} {vx : V} (rx : Rp K F x vx) (hx : flatD x = true) : ∀ {ds : List D} {vs : List V}, RpL K F ds vs → ds.all flatD = true → inV vx vs = inD x ds
  | [], _, r, _ => by unfold RpL at r; subst r; rfl
  | d :: ds, _, r, h => by
    unfold RpL at r
    obtain ⟨y, xs, e, r1, r2⟩ := r
    subst e
    rw [List.all_cons, Bool.and_eq_true] at h
    have ih := inD_of rx hx r2 h.2
    unfold inV inD at ih ⊢
    rw [List.any_cons, List.any_cons, eqFl_of r1 rx h.1 hx, ih]
/-- the items of a list, a tuple -/
def dits (M : Mu) : D → Option (List D)
  | .tup ds => some ds
  | .src ns => some (ns.map .int)
  | d => dseq M d
theorem dits_at {K : PySem.W.Frag} {H F : Hp} {M : Mu} {d : D} {v : V} {ds : List D} (s : Sv K H F M) (r : Rp K F d v) (h : dits M d = some ds) : ∃ a xs, v = .ref a ∧ (SqL K H a xs ∨ SqT K H a xs) ∧ RpL K F ds xs := by
  have old : dseq M d = some ds → ∃ a xs, v = .ref a ∧ (SqL K H a xs ∨ SqT K H a xs) ∧ RpL K F ds xs := fun q => by
    obtain ⟨a, xs, e, h1, r1⟩ := dseq_at s r q
    exact ⟨a, xs, e, .inl (.inl (.inl h1)), r1⟩
  cases d with
  | tup es =>
    unfold Rp at r
    obtain ⟨a, xs, e, h1, r1⟩ := r
    cases h
    exact ⟨a, xs, e, .inr (s.fh.sqT h1), r1⟩
  | src ns =>
    unfold Rp at r
    obtain ⟨a, e, h1⟩ := r
    cases h
    exact ⟨a, _, e, .inl (s.fh.sqL h1), RpL.ints⟩
  | _ => exact old h
def dInB (neg : Bool) : DR2 := fun x y M Q => match x, y with
  | .str [c], .str cs => Q (.bl (if neg then !decide (c ∈ cs) else decide (c ∈ cs))) M
  | x, y => match dits M y with
    | some ds => flatD x = true ∧ ds.all flatD = true ∧ Q (.bl (if neg then !inD x ds else inD x ds)) M
    | none => False
def rInAll (K : PySem.W.Frag) (neg : Bool) : R2 := fun x y H Q => (∃ (c : Nat) (z : Str), x = .str ⟨#[c]⟩ ∧ y = .str z ∧ Q (.bl (if neg then !decide (c ∈ z.cps.toList) else decide (c ∈ z.cps.toList))) H) ∨ rIn K neg x y H Q
theorem op_inAll {X : Cx} : OpR X (compareOp .In) (rInAll X.K false) := OpR.or op_in_sign op_in_seq
theorem op_ninAll {X : Cx} : OpR X (compareOp .NotIn) (rInAll X.K true) := OpR.or op_notIn_sign op_notIn_seq
theorem rel_in {K : PySem.W.Frag} {neg : Bool} : Rel2 K (rInAll K neg) (dInB neg) := by
  intro x y vx vy H F M Qd Q rx ry s h po
  unfold dInB at h
  split at h
  · unfold Rp at rx ry
    exact .inl ⟨_, _, rx, ry, po.fin s h (by unfold Rp; rfl)⟩
  · split at h
    · rename_i ds e
      obtain ⟨h1, h2, h3⟩ := h
      obtain ⟨a, xs, e1, hs, r1⟩ := dits_at s ry e
      refine .inr ⟨a, xs, e1, hs, flat_of rx h1, flats_of r1 h2, ?_⟩
      rw [inD_of rx h1 r1 h2]
      exact po.fin s h3 (by unfold Rp; rfl)
    · exact h.elim
section
variable {X : Cx} {a b c : Expr} {ua ub uc : DTE} {pos : Pos}
theorem de_eq (hu : X.A.units + 64 < cLine) (ha : DE X a ua) (hb : DE X b ub) : DE X (.Compare a [.Eq] [b] pos) (dOp dEq ua ub) := de_cmp (op_eqAll hu) rel_eq ha hb (nomark _)
theorem de_ne (hu : X.A.units + 64 < cLine) (ha : DE X a ua) (hb : DE X b ub) : DE X (.Compare a [.NotEq] [b] pos) (dOp dNe ua ub) := de_cmp (op_neAll hu) rel_ne ha hb (nomark _)
theorem de_lt (ha : DE X a ua) (hb : DE X b ub) : DE X (.Compare a [.Lt] [b] pos) (dOp dLt ua ub) := de_cmp op_ltAll rel_lt ha hb (nomark _)
theorem de_gt (ha : DE X a ua) (hb : DE X b ub) : DE X (.Compare a [.Gt] [b] pos) (dOp dGt ua ub) := de_cmp op_gtAll rel_gt ha hb (nomark _)
theorem de_le (ha : DE X a ua) (hb : DE X b ub) : DE X (.Compare a [.LtE] [b] pos) (dOp dLe ua ub) := de_cmp op_leAll rel_le ha hb (nomark _)
theorem de_ge (ha : DE X a ua) (hb : DE X b ub) : DE X (.Compare a [.GtE] [b] pos) (dOp dGe ua ub) := de_cmp op_geAll rel_ge ha hb (nomark _)
theorem de_isN (ha : DE X a ua) (hb : DE X b ub) : DE X (.Compare a [.Is] [b] pos) (dOp dIsN ua ub) := de_cmp op_isN rel_isN ha hb (nomark _)
theorem de_notN (ha : DE X a ua) (hb : DE X b ub) : DE X (.Compare a [.IsNot] [b] pos) (dOp dNotN ua ub) := de_cmp op_notN rel_notN ha hb (nomark _)
theorem de_in (ha : DE X a ua) (hb : DE X b ub) (hm : behindInMarks .In b = false := by rfl) : DE X (.Compare a [.In] [b] pos) (dOp (dInB false) ua ub) := de_cmp op_inAll rel_in ha hb hm
theorem de_nin (ha : DE X a ua) (hb : DE X b ub) (hm : behindInMarks .NotIn b = false := by rfl) : DE X (.Compare a [.NotIn] [b] pos) (dOp (dInB true) ua ub) := de_cmp op_ninAll rel_in ha hb hm
end
end DL

namespace DL
open PySem PySem.Spec PyProof.Rows L2 TL

/-! ### tests -/
def dTest (u : DTE) : DTT := fun δ M Q => u δ M fun d M1 => match d with
  | .bl b => Q b M1
  | _ => False
theorem lift_test {K : PySem.W.Frag} {u : DTE} {σ : L2.St} {H : Hp} {Q : Bool → Hp → Prop} (h : liftT K (dTest u) σ H Q) : lift K u σ H fun x H' => ∃ k, x = .bl k ∧ Q k H' := by
  obtain ⟨δ, M, F, Qd, hE, s, hu, p⟩ := h
  refine ⟨δ, M, F, _, hE, s, hu, fun d M' F' v H' q g s' r => ?_⟩
  cases d <;> first | exact False.elim q | skip
  unfold Rp at r
  subst r
  exact ⟨_, rfl, p _ _ _ _ q g s'⟩
/-- truth of data -/
def dTruB (M : Mu) (d : D) (Q : Bool → Prop) : Prop := match d with
  | .non => Q false
  | .bl b => Q b
  | .int i => Q (i != 0)
  | .str cs => cs.length ≤ sizeLine ∧ Q (!cs.isEmpty)
  | d => match dits M d with
    | some ds => Q (!ds.isEmpty)
    | none => False
def dTru (u : DTE) : DTT := fun δ M Q => u δ M fun d M1 => dTruB M1 d fun b => Q b M1
def dNot (t : DTT) : DTT := fun δ M Q => t δ M fun b M1 => Q (!b) M1
def dAnd (t u : DTT) : DTT := fun δ M Q => t δ M fun b M1 => match b with
  | true => u δ M1 Q
  | false => Q false M1
def dOr (t u : DTT) : DTT := fun δ M Q => t δ M fun b M1 => match b with
  | true => Q true M1
  | false => u δ M1 Q
def dIf (t : DTT) (ua ub : DTE) : DTE := fun δ M Q => t δ M fun b M1 => match b with
  | true => ua δ M1 Q
  | false => ub δ M1 Q
/-- and, or, not as values: all but the last True or False -/
def dAndV (ua ub : DTE) : DTE := fun δ M Q => ua δ M fun d M1 => match d with
  | .bl true => ub δ M1 Q
  | .bl false => Q (.bl false) M1
  | _ => False
def dOrV (ua ub : DTE) : DTE := fun δ M Q => ua δ M fun d M1 => match d with
  | .bl true => Q (.bl true) M1
  | .bl false => ub δ M1 Q
  | _ => False
def dNotV (ua : DTE) : DTE := fun δ M Q => ua δ M fun d M1 => match d with
  | .bl b => Q (.bl (!b)) M1
  | _ => False
theorem isEmpty_rel {K : PySem.W.Frag} {F : Hp} {ds : List D} {xs : List V} (r : RpL K F ds xs) : (!xs.isEmpty) = !ds.isEmpty := by
  have := r.len
  cases ds <;> cases xs <;> first | rfl | (simp at this)
theorem tru_rel {K : PySem.W.Frag} {H F : Hp} {M : Mu} {d : D} {v : V} {Q : Bool → Prop} (s : Sv K H F M) (r : Rp K F d v) (h : dTruB M d Q) : ∃ k, TruV K v H k ∧ Q k := by
  have old : (match dits M d with | some ds => Q (!ds.isEmpty) | none => False) → ∃ k, TruV K v H k ∧ Q k := fun h => by
    split at h
    · rename_i ds e
      obtain ⟨a, xs, e1, hs, r1⟩ := dits_at s r e
      subst e1
      refine ⟨_, ?_, h⟩
      rcases hs with hs | hs
      · exact .inl ⟨xs, hs, (isEmpty_rel r1).symm⟩
      · exact .inr (.inl ⟨xs, hs, (isEmpty_rel r1).symm⟩)
    · exact h.elim
  cases d with
  | non => unfold Rp at r; subst r; exact ⟨false, rfl, h⟩
  | bl b => unfold Rp at r; subst r; exact ⟨b, rfl, h⟩
  | int i => unfold Rp at r; subst r; exact ⟨_, rfl, h⟩
  | str cs =>
    unfold Rp at r
    subst r
    refine ⟨_, ⟨by rw [mkS_len]; exact h.1, rfl⟩, ?_⟩
    have e : (((mkS cs).length : Int) != 0) = !cs.isEmpty := by
      rw [mkS_len]
      cases cs with
      | nil => rfl
      | cons c cs => simp [bne]; omega
    rw [e]
    exact h.2
  | _ => exact old h
section
variable {X : Cx} {a b c : Expr} {ua ub uc : DTE} {t u : DTT} {pos : Pos} {rest : List Expr}
theorem dt_cmp {op : CmpOp} {r : R2} {rd : DR2} (ho : OpR X (compareOp op) r) (hr : Rel2 X.K r rd) (ha : DE X a ua) (hb : DE X b ub) (hm : behindInMarks op b = false) : DT X (.Compare a [op] [b] pos) (dTest (dOp rd ua ub)) :=
  PT.weak (pt_cmpR ho ha hb hm) fun σ H Q h => bin2 hr _ _ _ (lift_test h)
theorem dt_eq (hu : X.A.units + 64 < cLine) (ha : DE X a ua) (hb : DE X b ub) : DT X (.Compare a [.Eq] [b] pos) (dTest (dOp dEq ua ub)) := dt_cmp (op_eqAll hu) rel_eq ha hb (nomark _)
theorem dt_ne (hu : X.A.units + 64 < cLine) (ha : DE X a ua) (hb : DE X b ub) : DT X (.Compare a [.NotEq] [b] pos) (dTest (dOp dNe ua ub)) := dt_cmp (op_neAll hu) rel_ne ha hb (nomark _)
theorem dt_lt (ha : DE X a ua) (hb : DE X b ub) : DT X (.Compare a [.Lt] [b] pos) (dTest (dOp dLt ua ub)) := dt_cmp op_ltAll rel_lt ha hb (nomark _)
theorem dt_gt (ha : DE X a ua) (hb : DE X b ub) : DT X (.Compare a [.Gt] [b] pos) (dTest (dOp dGt ua ub)) := dt_cmp op_gtAll rel_gt ha hb (nomark _)
theorem dt_le (ha : DE X a ua) (hb : DE X b ub) : DT X (.Compare a [.LtE] [b] pos) (dTest (dOp dLe ua ub)) := dt_cmp op_leAll rel_le ha hb (nomark _)
theorem dt_ge (ha : DE X a ua) (hb : DE X b ub) : DT X (.Compare a [.GtE] [b] pos) (dTest (dOp dGe ua ub)) := dt_cmp op_geAll rel_ge ha hb (nomark _)
theorem dt_isN (ha : DE X a ua) (hb : DE X b ub) : DT X (.Compare a [.Is] [b] pos) (dTest (dOp dIsN ua ub)) := dt_cmp op_isN rel_isN ha hb (nomark _)
theorem dt_notN (ha : DE X a ua) (hb : DE X b ub) : DT X (.Compare a [.IsNot] [b] pos) (dTest (dOp dNotN ua ub)) := dt_cmp op_notN rel_notN ha hb (nomark _)
theorem dt_in (ha : DE X a ua) (hb : DE X b ub) (hm : behindInMarks .In b = false := by rfl) : DT X (.Compare a [.In] [b] pos) (dTest (dOp (dInB false) ua ub)) := dt_cmp op_inAll rel_in ha hb hm
theorem dt_nin (ha : DE X a ua) (hb : DE X b ub) (hm : behindInMarks .NotIn b = false := by rfl) : DT X (.Compare a [.NotIn] [b] pos) (dTest (dOp (dInB true) ua ub)) := dt_cmp op_ninAll rel_in ha hb hm
/-- an expression that gives True or False -/
theorem dt_val (h : DE X a ua) (he : ∀ whole, isTrue a X.env whole = (do let v ← whole; standAt a.pos; holding [v] (truthy v)) := by intro _; rfl) : DT X a (dTest ua) := PT.weak (pt_val h he) fun σ H Q h => lift_test h
theorem dt_tru (h : DE X a ua) (he : ∀ whole, isTrue a X.env whole = (do let v ← whole; standAt a.pos; holding [v] (truthy v)) := by intro _; rfl) : DT X a (dTru ua) := by
  refine PT.weak (pt_truth h he) fun σ H Q h => ?_
  obtain ⟨δ, M, F, Qd, hE, s, hu, p⟩ := h
  refine ⟨δ, M, F, _, hE, s, hu, fun d M' F' v H' q g s' r => ?_⟩
  obtain ⟨k, tk, q⟩ := tru_rel s' r q
  exact ⟨k, tk, p _ _ _ _ q g s'⟩
theorem dt_not (h : DT X a t) : DT X (.UnaryOp .Not a pos) (dNot t) := by
  refine PT.weak (pt_not h) fun σ H Q h => ?_
  obtain ⟨δ, M, F, Qd, hE, s, hu, p⟩ := h
  exact ⟨δ, M, F, _, hE, s, hu, fun d M' F' H' q g s' => p _ _ _ _ q g s'⟩
theorem dw_and1 (h : DT X a t) : DW X (.BoolOp .And [a] pos) t := pw_and1 h
theorem dw_or1 (h : DT X a t) : DW X (.BoolOp .Or [a] pos) t := pw_or1 h
theorem dw_and (ha : DT X a t) (hb : DW X (.BoolOp .And (b :: rest) pos) u) : DW X (.BoolOp .And (a :: b :: rest) pos) (dAnd t u) := by
  refine PW.weak (pw_and ha hb) fun σ H Q h => ?_
  obtain ⟨δ, M, F, Qd, hE, s, hu, p⟩ := h
  refine ⟨δ, M, F, _, hE, s, hu, fun d M' F' H' q g s' => ?_⟩
  cases d with
  | true => exact ⟨δ, M', F', Qd, hE.mono g.le, s', q, p.go g⟩
  | false => exact p _ _ _ _ q g s'
theorem dw_or (ha : DT X a t) (hb : DW X (.BoolOp .Or (b :: rest) pos) u) : DW X (.BoolOp .Or (a :: b :: rest) pos) (dOr t u) := by
  refine PW.weak (pw_or ha hb) fun σ H Q h => ?_
  obtain ⟨δ, M, F, Qd, hE, s, hu, p⟩ := h
  refine ⟨δ, M, F, _, hE, s, hu, fun d M' F' H' q g s' => ?_⟩
  cases d with
  | true => exact p _ _ _ _ q g s'
  | false => exact ⟨δ, M', F', Qd, hE.mono g.le, s', q, p.go g⟩
theorem de_ifx (hc : DT X c t) (ha : DE X a ua) (hb : DE X b ub) : DE X (.IfExp c a b pos) (dIf t ua ub) := by
  refine PE.weak (pe_ifExp hc ha hb) fun σ H Q h => ?_
  obtain ⟨δ, M, F, Qd, hE, s, hu, p⟩ := h
  refine ⟨δ, M, F, _, hE, s, hu, fun d M' F' H' q g s' => ?_⟩
  cases d with
  | true => exact ⟨δ, M', F', Qd, hE.mono g.le, s', q, p.go g⟩
  | false => exact ⟨δ, M', F', Qd, hE.mono g.le, s', q, p.go g⟩
theorem de_one {op : BoolOp} (h : DE X a ua) : DE X (.BoolOp op [a] pos) ua := pe_one h
theorem de_and (ha : DE X a ua) (hb : DE X (.BoolOp .And (b :: rest) pos) ub) : DE X (.BoolOp .And (a :: b :: rest) pos) (dAndV ua ub) := by
  refine PE.weak (pe_and ha hb) fun σ H Q h => ?_
  obtain ⟨δ, M, F, Qd, hE, s, hu, p⟩ := h
  refine ⟨δ, M, F, _, hE, s, hu, fun d M' F' v H' q g s' r => ?_⟩
  cases d <;> first | exact False.elim q | skip
  rename_i k
  unfold Rp at r
  subst r
  refine ⟨k, rfl, ?_⟩
  cases k with
  | true => exact ⟨δ, M', F', Qd, hE.mono g.le, s', q, p.go g⟩
  | false => exact p _ _ _ _ _ q g s' (by unfold Rp; rfl)
theorem de_or (ha : DE X a ua) (hb : DE X (.BoolOp .Or (b :: rest) pos) ub) : DE X (.BoolOp .Or (a :: b :: rest) pos) (dOrV ua ub) := by
  refine PE.weak (pe_or ha hb) fun σ H Q h => ?_
  obtain ⟨δ, M, F, Qd, hE, s, hu, p⟩ := h
  refine ⟨δ, M, F, _, hE, s, hu, fun d M' F' v H' q g s' r => ?_⟩
  cases d <;> first | exact False.elim q | skip
  rename_i k
  unfold Rp at r
  subst r
  refine ⟨k, rfl, ?_⟩
  cases k with
  | false => exact ⟨δ, M', F', Qd, hE.mono g.le, s', q, p.go g⟩
  | true => exact p _ _ _ _ _ q g s' (by unfold Rp; rfl)
theorem de_not (ha : DE X a ua) : DE X (.UnaryOp .Not a pos) (dNotV ua) := by
  refine PE.weak (pe_not ha) fun σ H Q h => ?_
  obtain ⟨δ, M, F, Qd, hE, s, hu, p⟩ := h
  refine ⟨δ, M, F, _, hE, s, hu, fun d M' F' v H' q g s' r => ?_⟩
  cases d <;> first | exact False.elim q | skip
  unfold Rp at r
  subst r
  exact ⟨_, rfl, p _ _ _ _ _ q g s' (by unfold Rp; rfl)⟩
end

/-! ### argument lists, displays -/
def dNil : DTA := fun _ M Q => Q [] M
def dCons (ua : DTE) (ur : DTA) : DTA := fun δ M Q => ua δ M fun d M1 => ur δ M1 fun ds M2 => Q (d :: ds) M2
def dTup (ua : DTA) : DTE := fun δ M Q => ua δ M fun ds M1 => ds.length ≤ sizeLine ∧ Q (.tup ds) M1
def dLst (mu : Bool) (ua : DTA) : DTE := fun δ M Q => ua δ M fun ds M1 => ds.length ≤ sizeLine ∧ dNew mu ds M1 Q
section
variable {X : Cx} {e a b c : Expr} {es : List Expr} {ua ub uc : DTE} {ur : DTA} {pos : Pos}
theorem da_nil : DA X [] dNil := PA.weak pa_nil fun σ H Q h => by
  obtain ⟨δ, M, F, Qd, hE, s, hu, p⟩ := h
  exact p _ _ _ _ _ hu Go.refl s RpL.nil
theorem da_cons (ha : DE X e ua) (hr : DA X es ur) (hs : starEach (e :: es) X.env = (false, eval e X.env) :: starEach es X.env := by rfl) : DA X (e :: es) (dCons ua ur) := PA.weak (pa_cons ha hr hs) fun σ H Q h => by
  obtain ⟨δ, M, F, Qd, hE, s, hu, p⟩ := h
  refine ⟨δ, M, F, _, hE, s, hu, fun d M' F' v H' q g s' r => ?_⟩
  refine ⟨δ, M', F', _, hE.mono g.le, s', q, fun ds M2 F2 vs H2 q2 g2 s2 r2 => ?_⟩
  exact p _ _ _ _ _ q2 (g.trans g2) s2 (RpL.cons (r.mono g2.le) r2)
theorem de_tup {x1 : Nat} (h : DA X es ur) : DE X (.Tuple es x1 pos) (dTup ur) := PE.weak (pe_tup h) fun σ H Q h => by
  obtain ⟨δ, M, F, Qd, hE, s, hu, p⟩ := h
  refine ⟨δ, M, F, _, hE, s, hu, fun d M' F' v H' q g s' r => ?_⟩
  exact ⟨by rw [← r.len]; exact q.1, fun l hl => newT_at s' r q.2 (p.go g) hl⟩
theorem de_lst (mu : Bool) (h : DA X es ur) : DE X (.List es pos) (dLst mu ur) := PE.weak (pe_lst h) fun σ H Q h => by
  obtain ⟨δ, M, F, Qd, hE, s, hu, p⟩ := h
  refine ⟨δ, M, F, _, hE, s, hu, fun d M' F' v H' q g s' r => ?_⟩
  exact ⟨by rw [← r.len]; exact q.1, fun l hl => dNew_at s' r q.2 (p.go g) hl⟩
end

/-! ### calls of built-ins -/
abbrev DRC := List D → Mu → DK → Prop
def RelC (K : PySem.W.Frag) (r : List V → Hp → VK → Prop) (rd : DRC) : Prop := ∀ ds vs H F M Qd Q, RpL K F ds vs → Sv K H F M → rd ds M Qd → Post K H F M Qd Q → r vs H Q
def dCB (rd : DRC) (ua : DTA) : DTE := fun δ M Q => ua δ M fun ds M1 => rd ds M1 Q
section
variable {X : Cx} {x : Str} {p pos : Pos} {e : Expr} {es : List Expr} {u : DTA} {id T : String} {r : List V → Hp → VK → Prop} {rd : DRC}
theorem cb_rel (hr : RelC X.K r rd) : ∀ σ H Q, lift X.K (dCB rd u) σ H Q → tCB r (liftA X.K u) σ H Q := fun σ H Q h => by
  obtain ⟨δ, M, F, Qd, hE, s, hu, p⟩ := h
  exact ⟨δ, M, F, _, hE, s, hu, fun ds M' F' vs H' q g s' r' => hr ds vs H' F' M' Qd Q r' s' q (p.go g)⟩
theorem de_callB (hc : CallR X (.builtin id) r) (hr : RelC X.K r rd) (hg : Gl X x) (hm : X.mg x = none) (hv : bootBuiltins x = some (.builtin id)) (ha : DA X (e :: es) u) (hn : x ≠ "__name__" := by decide) (hdb : (x == ("__debug__" : Str)) = false := by decide)
    (he : starEach (e :: es) X.env = (false, eval e X.env) :: starEach es X.env := by rfl) (hpl : (backTo pos (starEach es X.env)).any (·.1) = false := by rfl) : DE X (.Call (.Name x p) (e :: es) [] pos) (dCB rd u) := PE.weak (pe_callB hc hg hm hv ha hn hdb he hpl) (cb_rel hr)
theorem de_callTy (hc : CallR X (.type T) r) (hr : RelC X.K r rd) (hg : Gl X x) (hm : X.mg x = none) (hv : bootBuiltins x = some (.type T)) (ha : DA X (e :: es) u) (hn : x ≠ "__name__" := by decide) (hdb : (x == ("__debug__" : Str)) = false := by decide)
    (he : starEach (e :: es) X.env = (false, eval e X.env) :: starEach es X.env := by rfl) (hpl : (backTo pos (starEach es X.env)).any (·.1) = false := by rfl) : DE X (.Call (.Name x p) (e :: es) [] pos) (dCB rd u) := PE.weak (pe_callTy hc hg hm hv ha hn hdb he hpl) (cb_rel hr)
end
theorem RpL.one {K : PySem.W.Frag} {F : Hp} {d : D} {vs : List V} (h : RpL K F [d] vs) : ∃ v, vs = [v] ∧ Rp K F d v := by
  unfold RpL at h
  obtain ⟨x, r, e, h1, h2⟩ := h
  unfold RpL at h2
  subst h2
  exact ⟨x, e, h1⟩
theorem RpL.two {K : PySem.W.Frag} {F : Hp} {d e : D} {vs : List V} (h : RpL K F [d, e] vs) : ∃ v u, vs = [v, u] ∧ Rp K F d v ∧ Rp K F e u := by
  unfold RpL at h
  obtain ⟨x, r, e, h1, h2⟩ := h
  obtain ⟨y, e2, h3⟩ := RpL.one h2
  subst e2
  exact ⟨x, y, e, h1, h3⟩
/-- len -/
def dLen : DRC := fun ds M Q => match ds with
  | [.str cs] => cs.length ≤ sizeLine ∧ Q (.int cs.length) M
  | [d] => match dits M d with
    | some es => Q (.int es.length) M
    | none => False
  | _ => False
def rLenAll (K : PySem.W.Frag) : List V → Hp → VK → Prop := fun xs H Q => ∃ x n, xs = [x] ∧ LenV K x H n ∧ Q (.int n) H
theorem rel_len {K : PySem.W.Frag} : RelC K (rLenAll K) dLen := by
  intro ds vs H F M Qd Q r s h po
  unfold dLen at h
  split at h
  · obtain ⟨v, e, r1⟩ := r.one
    unfold Rp at r1
    subst e r1
    exact ⟨_, _, rfl, ⟨by rw [mkS_len]; exact h.1, rfl⟩, po.fin s h.2 (by unfold Rp; rw [mkS_len])⟩
  · obtain ⟨v, e, r1⟩ := r.one
    subst e
    split at h
    · rename_i es e
      obtain ⟨a, xs, e1, hs, r2⟩ := dits_at s r1 e
      subst e1
      refine ⟨_, xs.length, rfl, ?_, po.fin s h (by unfold Rp; rw [r2.len])⟩
      rcases hs with hs | hs
      · exact .inl ⟨xs, hs, rfl⟩
      · exact .inr ⟨xs, hs, rfl⟩
    · exact h.elim
  · exact h.elim
def dAbs : DRC := fun ds M Q => match ds with
  | [.int i] => Q (.int (i.natAbs : Int)) M
  | _ => False
theorem rel_abs {K : PySem.W.Frag} : RelC K (fun xs H Q => ∃ i, xs = [.int i] ∧ Q (.int (if i < 0 then -i else i)) H) dAbs := by
  intro ds vs H F M Qd Q r s h po
  unfold dAbs at h
  split at h
  · obtain ⟨v, e, r1⟩ := r.one
    unfold Rp at r1
    subst e r1
    refine ⟨_, rfl, po.fin s h ?_⟩
    unfold Rp
    congr 1
    split <;> omega
  · exact h.elim
def dMin2 : DRC := fun ds M Q => match ds with
  | [.int i, .int j] => Q (.int (if j < i then j else i)) M
  | _ => False
theorem rel_min2 {K : PySem.W.Frag} : RelC K (fun xs H Q => ∃ i j, xs = [.int i, .int j] ∧ Q (.int (if j < i then j else i)) H) dMin2 := by
  intro ds vs H F M Qd Q r s h po
  unfold dMin2 at h
  split at h
  · obtain ⟨v, u, e, r1, r2⟩ := r.two
    unfold Rp at r1 r2
    subst e r1 r2
    exact ⟨_, _, rfl, po.fin s h (by unfold Rp; rfl)⟩
  · exact h.elim
def dMax2 : DRC := fun ds M Q => match ds with
  | [.int i, .int j] => Q (.int (if j > i then j else i)) M
  | _ => False
theorem rel_max2 {K : PySem.W.Frag} : RelC K (fun xs H Q => ∃ i j, xs = [.int i, .int j] ∧ Q (.int (if j > i then j else i)) H) dMax2 := by
  intro ds vs H F M Qd Q r s h po
  unfold dMax2 at h
  split at h
  · obtain ⟨v, u, e, r1, r2⟩ := r.two
    unfold Rp at r1 r2
    subst e r1 r2
    exact ⟨_, _, rfl, po.fin s h (by unfold Rp; rfl)⟩
  · exact h.elim
theorem CallR.or2 {X : Cx} {f : Value} {r r' : List V → Hp → VK → Prop} (h : CallR X f r) (h' : CallR X f r') : CallR X f (fun xs H Q => r xs H Q ∨ r' xs H Q) := CallR.or h h'
/-- int(..) of an int, a bool, a text -/
def dInt : DRC := fun ds M Q => match ds with
  | [.int i] => Q (.int i) M
  | [.bl b] => Q (.int (if b then 1 else 0)) M
  | [.str cs] => ∃ n, PySem.intText? (mkS cs) = some n ∧ cs.length ≤ 640 ∧ Q (.int n) M
  | _ => False
def rIntAll : List V → Hp → VK → Prop := fun xs H Q => ((∃ i, xs = [.int i] ∧ Q (.int i) H) ∨ ∃ k, xs = [.bl k] ∧ Q (.int (if k then 1 else 0)) H) ∨ (∃ a n, xs = [.str a] ∧ PySem.intText? a = some n ∧ a.length ≤ 640 ∧ Q (.int n) H)
theorem call_intAll {X : Cx} : CallR X (.type "int") rIntAll := CallR.or call_int1 call_int_str
theorem rel_int {K : PySem.W.Frag} : RelC K rIntAll dInt := by
  intro ds vs H F M Qd Q r s h po
  unfold dInt at h
  split at h
  · obtain ⟨v, e, r1⟩ := r.one
    unfold Rp at r1
    subst e r1
    exact .inl (.inl ⟨_, rfl, po.fin s h (by unfold Rp; rfl)⟩)
  · obtain ⟨v, e, r1⟩ := r.one
    unfold Rp at r1
    subst e r1
    exact .inl (.inr ⟨_, rfl, po.fin s h (by unfold Rp; rfl)⟩)
  · obtain ⟨v, e, r1⟩ := r.one
    unfold Rp at r1
    subst e r1
    obtain ⟨n, h1, h2, h3⟩ := h
    exact .inr ⟨_, n, rfl, h1, by rw [mkS_len]; exact h2, po.fin s h3 (by unfold Rp; rfl)⟩
  · exact h.elim
/-- the signs of an int's text -/
def numI (i : Int) : List Nat := tl (Str.ofString (toString i))
def dStr : DRC := fun ds M Q => match ds with
  | [.int i] => i.natAbs.log2 < 1920 ∧ Q (.str (numI i)) M
  | _ => False
theorem rel_str {K : PySem.W.Frag} : RelC K (fun xs H Q => ∃ i : Int, xs = [.int i] ∧ i.natAbs.log2 < 1920 ∧ Q (.str (toString i)) H) dStr := by
  intro ds vs H F M Qd Q r s h po
  unfold dStr at h
  split at h
  · obtain ⟨v, e, r1⟩ := r.one
    unfold Rp at r1
    subst e r1
    refine ⟨_, rfl, h.1, po.fin s h.2 ?_⟩
    unfold Rp numI
    rw [mkS_of]
  · exact h.elim
def intsOf : List D → Option (List Int)
  | [] => some []
  | .int i :: ds => (intsOf ds).map (i :: ·)
  | _ :: _ => none
theorem intsOf_at {K : PySem.W.Frag} {F : Hp} : ∀ {ds : List D} {vs : List V} {ns : List Int}, RpL K F ds vs → intsOf ds = some ns → vs = ns.map V.int
  | [], _, _, r, e => by unfold RpL at r; cases e; exact r
  | d :: ds, _, _, r, e => by
    unfold RpL at r
    obtain ⟨x, xs, e1, r1, r2⟩ := r
    cases d <;> first | (cases e; done) | skip
    unfold intsOf at e
    cases q : intsOf ds with
    | none => rw [q] at e; cases e
    | some ms =>
      rw [q] at e
      cases e
      unfold Rp at r1
      rw [e1, r1, intsOf_at r2 q]
      rfl
theorem intsOf_map : ∀ ns : List Int, intsOf (ns.map D.int) = some ns
  | [] => rfl
  | n :: ns => by
    show (intsOf (ns.map D.int)).map (n :: ·) = _
    rw [intsOf_map ns]
    rfl
def dSum : DRC := fun ds M Q => match ds with
  | [d] => match (dseq M d).bind intsOf with
    | some ns => Q (.int ns.sum) M
    | none => False
  | _ => False
theorem rel_sum {K : PySem.W.Frag} : RelC K (rSum K) dSum := by
  intro ds vs H F M Qd Q r s h po
  unfold dSum at h
  split at h
  · obtain ⟨v, e, r1⟩ := r.one
    subst e
    split at h
    · rename_i ns e
      obtain ⟨es, e1, e2⟩ := Option.bind_eq_some_iff.mp e
      obtain ⟨a, xs, e3, h1, r2⟩ := dseq_at s r1 e1
      have e4 := intsOf_at r2 e2
      subst e3 e4
      exact ⟨a, ns, rfl, .inl (.inl h1), po.fin s h (by unfold Rp; rfl)⟩
    · exact h.elim
  · exact h.elim
def blsOf : List D → Option (List Bool)
  | [] => some []
  | .bl i :: ds => (blsOf ds).map (i :: ·)
  | _ :: _ => none
theorem blsOf_at {K : PySem.W.Frag} {F : Hp} : ∀ {ds : List D} {vs : List V} {ns : List Bool}, RpL K F ds vs → blsOf ds = some ns → vs = ns.map V.bl
  | [], _, _, r, e => by unfold RpL at r; cases e; exact r
  | d :: ds, _, _, r, e => by
    unfold RpL at r
    obtain ⟨x, xs, e1, r1, r2⟩ := r
    cases d <;> first | (cases e; done) | skip
    unfold blsOf at e
    cases q : blsOf ds with
    | none => rw [q] at e; cases e
    | some ms =>
      rw [q] at e
      cases e
      unfold Rp at r1
      rw [e1, r1, blsOf_at r2 q]
      rfl
theorem blsOf_map : ∀ ns : List Bool, blsOf (ns.map D.bl) = some ns
  | [] => rfl
  | n :: ns => by
    show (blsOf (ns.map D.bl)).map (n :: ·) = _
    rw [blsOf_map ns]
    rfl
def dAll : DRC := fun ds M Q => match ds with
  | [d] => match (dseq M d).bind blsOf with
    | some ns => Q (.bl (ns.all id)) M
    | none => False
  | _ => False
def dAny : DRC := fun ds M Q => match ds with
  | [d] => match (dseq M d).bind blsOf with
    | some ns => Q (.bl (ns.any id)) M
    | none => False
  | _ => False
theorem rel_all {K : PySem.W.Frag} : RelC K (rAll K) dAll := by
  intro ds vs H F M Qd Q r s h po
  unfold dAll at h
  split at h
  · obtain ⟨v, e, r1⟩ := r.one
    subst e
    split at h
    · rename_i ns e
      obtain ⟨es, e1, e2⟩ := Option.bind_eq_some_iff.mp e
      obtain ⟨a, xs, e3, h1, r2⟩ := dseq_at s r1 e1
      have e4 := blsOf_at r2 e2
      subst e3 e4
      exact ⟨a, ns, rfl, .inl (.inl h1), po.fin s h (by unfold Rp; rfl)⟩
    · exact h.elim
  · exact h.elim
theorem rel_any {K : PySem.W.Frag} : RelC K (rAny K) dAny := by
  intro ds vs H F M Qd Q r s h po
  unfold dAny at h
  split at h
  · obtain ⟨v, e, r1⟩ := r.one
    subst e
    split at h
    · rename_i ns e
      obtain ⟨es, e1, e2⟩ := Option.bind_eq_some_iff.mp e
      obtain ⟨a, xs, e3, h1, r2⟩ := dseq_at s r1 e1
      have e4 := blsOf_at r2 e2
      subst e3 e4
      exact ⟨a, ns, rfl, .inl (.inl h1), po.fin s h (by unfold Rp; rfl)⟩
    · exact h.elim
  · exact h.elim
/-- the items of a list -/
def dlis (M : Mu) : D → Option (List D)
  | .src ns => some (ns.map .int)
  | d => dseq M d
theorem dlis_at {K : PySem.W.Frag} {H F : Hp} {M : Mu} {d : D} {v : V} {ds : List D} (s : Sv K H F M) (r : Rp K F d v) (h : dlis M d = some ds) : ∃ a xs, v = .ref a ∧ SqL K H a xs ∧ RpL K F ds xs := by
  have old : dseq M d = some ds → ∃ a xs, v = .ref a ∧ SqL K H a xs ∧ RpL K F ds xs := fun q => by
    obtain ⟨a, xs, e, h1, r1⟩ := dseq_at s r q
    exact ⟨a, xs, e, .inl (.inl h1), r1⟩
  cases d with
  | src ns =>
    unfold Rp at r
    obtain ⟨a, e, h1⟩ := r
    cases h
    exact ⟨a, _, e, s.fh.sqL h1, RpL.ints⟩
  | _ => exact old h
/-- tuple(..), list(..) -/
def dTupOf : DRC := fun ds M Q => match ds with
  | [.tup es] => Q (.tup es) M
  | [d] => match dlis M d with
    | some es => Q (.tup es) M
    | none => False
  | _ => False
def rTupOf (K : PySem.W.Frag) : List V → Hp → VK → Prop := fun xs H Q => ∃ p ys, xs = [.ref p] ∧ ((SqL K H p ys ∧ ∀ l, H l = none → Q (.ref l) (upd H l (.tup ys))) ∨ (SqT K H p ys ∧ Q (.ref p) H))
theorem rel_tupOf {K : PySem.W.Frag} : RelC K (rTupOf K) dTupOf := by
  intro ds vs H F M Qd Q r s h po
  unfold dTupOf at h
  split at h
  · obtain ⟨v, e, r1⟩ := r.one
    subst e
    unfold Rp at r1
    obtain ⟨a, xs, e1, h1, r2⟩ := r1
    subst e1
    exact ⟨a, xs, rfl, .inr ⟨s.fh.sqT h1, po.fin s h (by unfold Rp; exact ⟨a, xs, rfl, h1, r2⟩)⟩⟩
  · obtain ⟨v, e, r1⟩ := r.one
    subst e
    split at h
    · rename_i es e
      obtain ⟨a, xs, e1, hs, r2⟩ := dlis_at s r1 e
      subst e1
      exact ⟨a, xs, rfl, .inl ⟨hs, fun l hl => newT_at s r2 h po hl⟩⟩
    · exact h.elim
  · exact h.elim
def dListOf (mu : Bool) : DRC := fun ds M Q => match ds with
  | [d] => match dits M d with
    | some es => dNew mu es M Q
    | none => False
  | _ => False
def rListOf (K : PySem.W.Frag) : List V → Hp → VK → Prop := fun xs H Q => ∃ p ys, xs = [.ref p] ∧ (SqL K H p ys ∨ SqT K H p ys) ∧ ∀ l, H l = none → Q (.ref l) (upd H l (.lst ys))
theorem rel_listOf {K : PySem.W.Frag} {mu : Bool} : RelC K (rListOf K) (dListOf mu) := by
  intro ds vs H F M Qd Q r s h po
  unfold dListOf at h
  split at h
  · obtain ⟨v, e, r1⟩ := r.one
    subst e
    split at h
    · rename_i es e
      obtain ⟨a, xs, e1, hs, r2⟩ := dits_at s r1 e
      subst e1
      exact ⟨a, xs, rfl, hs, fun l hl => dNew_at s r2 h po hl⟩
    · exact h.elim
  · exact h.elim
/-- divmod -/
def dDivmod : DRC := fun ds M Q => match ds with
  | [.int i, .int j] => CDivP i j ∧ Q (.tup [.int (i / j), .int (i % j)]) M
  | _ => False
theorem rel_divmod {K : PySem.W.Frag} : RelC K (fun xs H Q => ∃ i j, xs = [.int i, .int j] ∧ CDivP i j ∧ ∀ p, H p = none → Q (.ref p) (upd H p (.tup [.int (i / j), .int (i % j)]))) dDivmod := by
  intro ds vs H F M Qd Q r s h po
  unfold dDivmod at h
  split at h
  · obtain ⟨v, u, e, r1, r2⟩ := r.two
    unfold Rp at r1 r2
    subst e r1 r2
    exact ⟨_, _, rfl, h.1, fun l hl => newT_at s (RpL.cons (by unfold Rp; rfl) (RpL.cons (by unfold Rp; rfl) RpL.nil)) h.2 po hl⟩
  · exact h.elim
/-- isinstance of a built-in class -/
def tyNm (M : Mu) : D → Option String
  | .non => some "NoneType"
  | .bl _ => some "bool"
  | .int _ => some "int"
  | .str _ => some "str"
  | .tup _ => some "tuple"
  | .lst _ => some "list"
  | .src _ => some "list"
  | .ref a => match M a with
    | some (.lst _) => some "list"
    | some (.dic _) => some "dict"
    | none => none
  | .ty _ => none
def dIsi : DRC := fun ds M Q => match ds with
  | [d, .ty T] => match (tyNm M d).bind fun n => kitB n T with
    | some b => Q (.bl b) M
    | none => False
  | _ => False
theorem ty_sqL {K : PySem.W.Frag} {H : Hp} {a : Addr} {xs : List V} (h : SqL K H a xs) : TyX K H (.ref a) (.type "list") := by
  rcases h with (h | ⟨o, h⟩) | ⟨o, its, n, h, c, _⟩
  · exact .base (.lst h)
  · exact .base (.frz h)
  · exact .kList h c
theorem ty_sqT {K : PySem.W.Frag} {H : Hp} {a : Addr} {xs : List V} (h : SqT K H a xs) : TyX K H (.ref a) (.type "tuple") := by
  rcases h with (h | ⟨o, h⟩) | ⟨o, its, n, h, c, _⟩
  · exact .base (.tup h)
  · exact .fTuple h
  · exact .kTuple h c
theorem tyNm_at {K : PySem.W.Frag} {H F : Hp} {M : Mu} {d : D} {v : V} {n : String} (s : Sv K H F M) (r : Rp K F d v) (h : tyNm M d = some n) : TyX K H v (.type n) := by
  cases d with
  | non => unfold Rp at r; subst r; cases h; exact .base .non
  | bl b => unfold Rp at r; subst r; cases h; exact .base (.bl b)
  | int b => unfold Rp at r; subst r; cases h; exact .base (.int b)
  | str b => unfold Rp at r; subst r; cases h; exact .base (.str _)
  | tup b => unfold Rp at r; obtain ⟨a, xs, e, h1, _⟩ := r; subst e; cases h; exact ty_sqT (s.fh.sqT h1)
  | lst b => unfold Rp at r; obtain ⟨a, xs, e, h1, _⟩ := r; subst e; cases h; exact .base (.lst (s.fh _ _ h1))
  | src b => unfold Rp at r; obtain ⟨a, e, h1⟩ := r; subst e; cases h; exact ty_sqL (s.fh.sqL h1)
  | ty b => cases h
  | ref a =>
    unfold Rp at r
    subst r
    have h' : (match M a with | some (.lst _) => some "list" | some (.dic _) => some "dict" | none => none) = some n := h
    cases q : M a with
    | none => rw [q] at h'; cases h'
    | some o =>
      rw [q] at h'
      obtain ⟨ho, e2, r2⟩ := s.mu a _ q
      cases o with
      | lst ds =>
        obtain ⟨xs, e3, _⟩ := r2
        subst e3
        cases h'
        exact .base (.lst e2)
      | dic ds =>
        obtain ⟨xs, e3, _⟩ := r2
        subst e3
        cases h'
        exact .base (.dK e2)
theorem rel_isi {K : PySem.W.Frag} : RelC K (rIsi K) dIsi := by
  intro ds vs H F M Qd Q r s h po
  unfold dIsi at h
  split at h
  · obtain ⟨v, u, e, r1, r2⟩ := r.two
    unfold Rp at r2
    subst e r2
    split at h
    · rename_i b e
      obtain ⟨n, e1, e2⟩ := Option.bind_eq_some_iff.mp e
      exact ⟨v, _, _, _, b, rfl, .ty _, tyNm_at s r1 e1, kit_ty e2, po.fin s h (by unfold Rp; rfl)⟩
    · exact h.elim
  · exact h.elim

/-! ### subscripts -/
def dIdx : DR2 := fun x y M Q => match y with
  | .int i => match x with
    | .str cs => match atI cs i with
      | some c => cs.length ≤ sizeLine ∧ Q (.str [c]) M
      | none => False
    | x => match (dits M x).bind fun ds => atI ds i with
      | some d => Q d M
      | none => False
  | _ => False
theorem atI_rel {K : PySem.W.Frag} {F : Hp} {ds : List D} {xs : List V} {i : Int} {d : D} (r : RpL K F ds xs) (h : atI ds i = some d) : ∃ v, atI xs i = some v ∧ Rp K F d v := by
  unfold atI at h ⊢
  rw [r.len] at h
  cases q : ixN xs.length i with
  | none => rw [q] at h; cases h
  | some j =>
    rw [q] at h
    exact r.get (i := j) h
theorem rel_idx {K : PySem.W.Frag} : Rel2 K (rIx K) dIdx := by
  intro x y vx vy H F M Qd Q rx ry s h po
  unfold dIdx at h
  split at h
  · unfold Rp at ry
    subst ry
    split at h
    · unfold Rp at rx
      subst rx
      split at h
      · rename_i c e
        exact .inr (.inr ⟨_, _, c, rfl, rfl, by rw [mkS_len]; exact h.1, e, po.fin s h.2 (by unfold Rp; rfl)⟩)
      · exact h.elim
    · split at h
      · rename_i d e
        obtain ⟨ds, e1, e2⟩ := Option.bind_eq_some_iff.mp e
        obtain ⟨a, xs, e3, hs, r1⟩ := dits_at s rx e1
        obtain ⟨v, e4, r2⟩ := atI_rel r1 e2
        subst e3
        rcases hs with hs | hs
        · exact .inl ⟨a, xs, _, v, rfl, rfl, hs, e4, po.fin s h r2⟩
        · exact .inr (.inl ⟨a, xs, _, v, rfl, rfl, hs, e4, po.fin s h r2⟩)
      · exact h.elim
  · exact h.elim
section
variable {X : Cx} {a b c : Expr} {ua ub uc : DTE} {pos : Pos}
theorem de_idx (ha : DE X a ua) (hb : DE X b ub) (hs : PlainIx b := by intro _ _; rfl) : DE X (.Subscript a b pos) (dOp dIdx ua ub) := PE.weak (pe_ix ix_seq ha hb hs) (bin2 rel_idx)
end

/-! ### slices -/
abbrev DTO := DEnv → Mu → (Option Int → Mu → Prop) → Prop
def dNoP : DTO := fun _ M Q => Q none M
def dPart (u : DTE) : DTO := fun δ M Q => u δ M fun d M1 => match d with
  | .int i => Q (some i) M1
  | _ => False
def PostO (K : PySem.W.Frag) (H F : Hp) (M : Mu) (Qd : Option Int → Mu → Prop) (Q : Option Int → Hp → Prop) : Prop := ∀ o M' F' H', Qd o M' → Go H F M H' F' M' → Sv K H' F' M' → Q o H'
def liftO (K : PySem.W.Frag) (u : DTO) : TO := fun σ H Q => ∃ δ M F Qd, ERel K F δ σ ∧ Sv K H F M ∧ u δ M Qd ∧ PostO K H F M Qd Q
/-- the part of a list from lo to hi -/
def cutL {α : Type} (xs : List α) (lo hi : Option Int) : List α := (xs.drop (HT.sIx xs.length 0 lo)).take (HT.sIx xs.length xs.length hi - HT.sIx xs.length 0 lo)
def dSlV (mu : Bool) (x : D) (lo hi : Option Int) (M : Mu) (Q : DK) : Prop := match x with
  | .str cs => cs.length ≤ sizeLine ∧ Q (.str (cutL cs lo hi)) M
  | .tup ds => Q (.tup (cutL ds lo hi)) M
  | x => match dlis M x with
    | some ds => dNew mu (cutL ds lo hi) M Q
    | none => False
def dSl (mu : Bool) (u : DTE) (ul uh : DTO) : DTE := fun δ M Q => u δ M fun x M1 => ul δ M1 fun lo M2 => uh δ M2 fun hi M3 => dSlV mu x lo hi M3 Q
theorem cutL_rel {K : PySem.W.Frag} {F : Hp} {ds : List D} {xs : List V} (r : RpL K F ds xs) (lo hi : Option Int) : RpL K F (cutL ds lo hi) (cutV xs lo hi) := by
  unfold cutL cutV
  rw [r.len]
  exact (r.drop _).take _
theorem cutL_str (cs : List Nat) (lo hi : Option Int) : cutS (mkS cs) lo hi = mkS (cutL cs lo hi) := by
  unfold cutS cutL
  rw [mkS_len]
  rfl
def rSlAll (K : PySem.W.Frag) : V → Option Int → Option Int → Hp → VK → Prop := fun x lo hi H Q => (rSlS x lo hi H Q ∨ rSlA K x lo hi H Q) ∨ rSlL K x lo hi H Q
theorem sl_all {X : Cx} : SlR X (rSlAll X.K) := SlR.or (SlR.or sl_str sl_tupA) sl_list
theorem rel_sl {K : PySem.W.Frag} {mu : Bool} {x : D} {vx : V} {lo hi : Option Int} {H F : Hp} {M : Mu} {Qd : DK} {Q : VK} (rx : Rp K F x vx) (s : Sv K H F M) (h : dSlV mu x lo hi M Qd) (po : Post K H F M Qd Q) : rSlAll K vx lo hi H Q := by
  unfold dSlV at h
  split at h
  · unfold Rp at rx
    exact .inl (.inl ⟨_, rx, by rw [mkS_len]; exact h.1, po.fin s h.2 (by unfold Rp; rw [cutL_str])⟩)
  · rename_i ds
    unfold Rp at rx
    obtain ⟨a, xs, e, h1, r⟩ := rx
    refine .inl (.inr ⟨a, xs, e, s.fh.sqT h1, fun z => ?_, fun _ p hp => newT_at s (cutL_rel r lo hi) h po hp⟩)
    refine po.fin s h ?_
    have e2 : cutL ds lo hi = ds := by
      unfold cutL
      rw [r.len, z.1, z.2, List.drop_zero, Nat.sub_zero]
      exact List.take_of_length_le (Nat.le_of_eq r.len)
    rw [e2]
    unfold Rp
    exact ⟨a, xs, rfl, h1, r⟩
  · split at h
    · rename_i ds e
      obtain ⟨a, xs, e1, hs, r1⟩ := dlis_at s rx e
      exact .inr ⟨a, xs, e1, hs, fun p hp => dNew_at s (cutL_rel r1 lo hi) h po hp⟩
    · exact h.elim
section
variable {X : Cx} {e : Expr} {lo hi : Option Expr} {u : DTE} {ul uh : DTO} {pos p2 : Pos}
theorem do_none : PO X none (liftO X.K dNoP) := ⟨fun pins s σ H Q I h => po_none.run pins s σ H Q I (by
  obtain ⟨δ, M, F, Qd, hE, s, hu, p⟩ := h
  exact p _ _ _ _ hu Go.refl s)⟩
theorem do_some {e : Expr} (h : DE X e u) : PO X (some e) (liftO X.K (dPart u)) := ⟨fun pins s σ H Q I hq => (po_some h).run pins s σ H Q I (by
  obtain ⟨δ, M, F, Qd, hE, s, hu, p⟩ := hq
  refine ⟨δ, M, F, _, hE, s, hu, fun d M' F' v H' q g s' r => ?_⟩
  cases d <;> first | exact False.elim q | skip
  unfold Rp at r
  subst r
  exact ⟨_, rfl, p _ _ _ _ q g s'⟩)⟩
theorem de_slice (mu : Bool) (h : DE X e u) (hl : PO X lo (liftO X.K ul)) (hh : PO X hi (liftO X.K uh)) : DE X (.Subscript e (.Slice lo hi none p2) pos) (dSl mu u ul uh) := PE.weak (pe_slice sl_all h hl hh) fun σ H Q h => by
  obtain ⟨δ, M, F, Qd, hE, s, hu, p⟩ := h
  refine ⟨δ, M, F, _, hE, s, hu, fun d M1 F1 v H1 q g s1 r => ?_⟩
  refine ⟨δ, M1, F1, _, hE.mono g.le, s1, q, fun lo M2 F2 H2 q2 g2 s2 => ?_⟩
  refine ⟨δ, M2, F2, _, hE.mono (g.le.trans g2.le), s2, q2, fun hi M3 F3 H3 q3 g3 s3 => ?_⟩
  exact rel_sl (r.mono (g2.le.trans g3.le)) s3 q3 (p.go (g.trans (g2.trans g3)))
end

/-! ### methods of texts -/
def DM := D → List D → Mu → DK → Prop
def RelM (K : PySem.W.Frag) (T : String) (r : V → List V → Hp → VK → Prop) (rd : DM) : Prop := ∀ x vx ds vs H F M Qd Q, Rp K F x vx → RpL K F ds vs → Sv K H F M → rd x ds M Qd → Post K H F M Qd Q → r vx vs H Q
/-- of what type the receiver is -/
def isTy (M : Mu) (T : String) (d : D) : Prop := tyNm M d = some T
def dBM (T : String) (rd : DM) (uo : DTE) (ua : DTA) : DTE := fun δ M Q => uo δ M fun x M1 => tyNm M1 x = some T ∧ ua δ M1 fun ds M2 => rd x ds M2 Q
theorem tyV_str {K : PySem.W.Frag} {H F : Hp} {M : Mu} {d : D} {v : V} (s : Sv K H F M) (r : Rp K F d v) (h : tyNm M d = some "str") : tyV K "str" v H := by
  cases d with
  | str cs => unfold Rp at r; subst r; rfl
  | ref a =>
    have h' : (match M a with | some (.lst _) => some "list" | some (.dic _) => some "dict" | none => none) = some "str" := h
    cases q : M a with
    | none => rw [q] at h'; cases h'
    | some o => rw [q] at h'; cases o <;> exact absurd (Option.some.inj h') (by decide)
  | ty _ => cases h
  | _ => exact absurd (Option.some.inj h) (by decide)
theorem tyV_list {K : PySem.W.Frag} {H F : Hp} {M : Mu} {d : D} {v : V} (s : Sv K H F M) (r : Rp K F d v) (h : tyNm M d = some "list") : tyV K "list" v H := by
  cases d with
  | lst ds =>
    unfold Rp at r
    obtain ⟨a, xs, e, h1, _⟩ := r
    subst e
    exact .inl ⟨rfl, xs, .inl (.inl (s.fh _ _ h1))⟩
  | src ns =>
    unfold Rp at r
    obtain ⟨a, e, h1⟩ := r
    subst e
    exact .inl ⟨rfl, _, s.fh.sqL h1⟩
  | ref a =>
    have h' : (match M a with | some (.lst _) => some "list" | some (.dic _) => some "dict" | none => none) = some "list" := h
    unfold Rp at r
    subst r
    cases q : M a with
    | none => rw [q] at h'; cases h'
    | some o =>
      rw [q] at h'
      cases o with
      | lst ds =>
        obtain ⟨ho, e2, xs, e3, _⟩ := s.mu a _ q
        subst e3
        exact .inl ⟨rfl, xs, .inl (.inl e2)⟩
      | dic _ => exact absurd (Option.some.inj h') (by decide)
  | ty _ => cases h
  | _ => exact absurd (Option.some.inj h) (by decide)
section
variable {X : Cx} {o e : Expr} {es : List Expr} {uo : DTE} {ua : DTA} {name : Str} {apos cpos : Pos} {T id : String} {r : V → List V → Hp → VK → Prop} {rd : DM}
theorem de_bm0 (hT : ∀ {H F : Hp} {M : Mu} {d : D} {v : V}, Sv X.K H F M → Rp X.K F d v → tyNm M d = some T → tyV X.K T v H) (hr : RelM X.K T r rd) (pa : PlainAttrs T) (slot : Slot T name id) (hty : typeOf (.builtin id) = pure (.type "method_descriptor")) (hm : MtR X id r) (ho : DE X o uo)
    (hbase : attributeBase o name X.env (eval o X.env) = eval o X.env := by rfl) (hline : (apos.endLine == cpos.line) = true := by rfl) : DE X (.Call (.Attribute o name apos) [] [] cpos) (dBM T rd uo dNil) := PE.weak (pe_bm0 pa slot hty hm ho hbase hline) fun σ H Q h => by
  obtain ⟨δ, M, F, Qd, hE, s, hu, p⟩ := h
  refine ⟨δ, M, F, _, hE, s, hu, fun d M1 F1 v H1 q g s1 r1 => ?_⟩
  exact ⟨hT s1 r1 q.1, hr _ _ _ _ _ _ _ _ _ r1 RpL.nil s1 q.2 (p.go g)⟩
theorem de_bm (hT : ∀ {H F : Hp} {M : Mu} {d : D} {v : V}, Sv X.K H F M → Rp X.K F d v → tyNm M d = some T → tyV X.K T v H) (hr : RelM X.K T r rd) (pa : PlainAttrs T) (slot : Slot T name id) (hty : typeOf (.builtin id) = pure (.type "method_descriptor")) (hm : MtR X id r) (ho : DE X o uo) (ha : DA X (e :: es) ua)
    (hbase : attributeBase o name X.env (eval o X.env) = eval o X.env := by rfl)
    (hfew : ((backTo cpos (starEach (e :: es) X.env)).all (fun x => !x.1) && (backToKw cpos (keywordEach [] X.env)).all (fun x => x.1.isSome)
      && decide ((e :: es).length + ([] : List Keyword).length + (if ([] : List Keyword).isEmpty then 0 else 1) < 30)) = true := by rfl)
    (hline : (apos.endLine == cpos.line) = true := by rfl) (hs : starEach (e :: es) X.env = (false, eval e X.env) :: starEach es X.env := by rfl) (hplain : (backTo cpos (starEach es X.env)).any (·.1) = false := by rfl) :
    DE X (.Call (.Attribute o name apos) (e :: es) [] cpos) (dBM T rd uo ua) := PE.weak (pe_bm pa slot hty hm ho ha hbase hfew hline hs hplain) fun σ H Q h => by
  obtain ⟨δ, M, F, Qd, hE, s, hu, p⟩ := h
  refine ⟨δ, M, F, _, hE, s, hu, fun d M1 F1 v H1 q g s1 r1 => ?_⟩
  refine ⟨hT s1 r1 q.1, δ, M1, F1, _, hE.mono g.le, s1, q.2, fun ds M2 F2 vs H2 q2 g2 s2 r2 => ?_⟩
  exact hr _ _ _ _ _ _ _ _ _ (r1.mono g2.le) r2 s2 q2 (p.go (g.trans g2))
end
/-- list.append -/
def dAppend : DM := fun x ds M Q => match x, ds with
  | .ref a, [d] => match M a with
    | some (.lst es) => es.length < sizeLine ∧ Q .non (mset M a (.lst (es ++ [d])))
    | _ => False
  | _, _ => False
theorem rel_append {K : PySem.W.Frag} : RelM K "list" rAppend dAppend := by
  intro x vx ds vs H F M Qd Q rx rs s h po
  unfold dAppend at h
  split at h
  · obtain ⟨v, e, r1⟩ := rs.one
    unfold Rp at rx
    subst e rx
    split at h
    · rename_i es q
      obtain ⟨ho, e2, xs, e3, r2⟩ := s.mu _ _ q
      subst e3
      obtain ⟨s1, g1⟩ := s.wr (o' := .lst (es ++ [_])) (ho := .lst (xs ++ [v])) q ⟨_, rfl, r2.snoc r1⟩
      exact ⟨_, xs, v, rfl, rfl, e2, by rw [← r2.len]; exact h.1, po _ _ _ _ _ h.2 g1 s1 (by unfold Rp; rfl)⟩
    · exact h.elim
  · exact h.elim
/-- list.pop() -/
def dPop : DM := fun x ds M Q => match x, ds with
  | .ref a, [] => match M a with
    | some (.lst es) => match es[es.length - 1]? with
      | some d => Q d (mset M a (.lst es.dropLast))
      | none => False
    | _ => False
  | _, _ => False
theorem rel_pop {K : PySem.W.Frag} : RelM K "list" rPop dPop := by
  intro x vx ds vs H F M Qd Q rx rs s h po
  unfold dPop at h
  split at h
  · unfold RpL at rs
    unfold Rp at rx
    subst rs rx
    split at h
    · rename_i es q
      obtain ⟨ho, e2, xs, e3, r2⟩ := s.mu _ _ q
      subst e3
      split at h
      · rename_i d e
        obtain ⟨v, e4, r3⟩ := r2.get e
        obtain ⟨s1, g1⟩ := s.wr (o' := .lst es.dropLast) (ho := .lst xs.dropLast) q ⟨_, rfl, r2.last⟩
        exact ⟨_, xs, v, rfl, rfl, e2, by rw [← r2.len]; exact e4, po _ _ _ _ _ h g1 s1 r3⟩
      · exact h.elim
    · exact h.elim
  · exact h.elim
/-- list.extend(a list) -/
def dExtend : DM := fun x ds M Q => match x, ds with
  | .ref a, [d] => match M a, dseq M d with
    | some (.lst es), some fs => es.length + fs.length ≤ sizeLine ∧ Q .non (mset M a (.lst (es ++ fs)))
    | _, _ => False
  | _, _ => False
theorem rel_extend {K : PySem.W.Frag} : RelM K "list" rExtend dExtend := by
  intro x vx ds vs H F M Qd Q rx rs s h po
  unfold dExtend at h
  split at h
  · obtain ⟨v, e, r1⟩ := rs.one
    unfold Rp at rx
    subst e rx
    split at h
    · rename_i es fs q q2
      obtain ⟨ho, e2, xs, e3, r2⟩ := s.mu _ _ q
      subst e3
      obtain ⟨b, ys, e4, h4, r4⟩ := dseq_at s r1 q2
      subst e4
      obtain ⟨s1, g1⟩ := s.wr (o' := .lst (es ++ fs)) (ho := .lst (xs ++ ys)) q ⟨_, rfl, r2.app r4⟩
      exact ⟨_, b, xs, ys, rfl, rfl, e2, h4, by rw [← r2.len, ← r4.len]; exact h.1, po _ _ _ _ _ h.2 g1 s1 (by unfold Rp; rfl)⟩
    · exact h.elim
  · exact h.elim
/-- list.reverse() -/
def dReverse : DM := fun x ds M Q => match x, ds with
  | .ref a, [] => match M a with
    | some (.lst es) => Q .non (mset M a (.lst es.reverse))
    | _ => False
  | _, _ => False
theorem rel_reverse {K : PySem.W.Frag} : RelM K "list" rReverse dReverse := by
  intro x vx ds vs H F M Qd Q rx rs s h po
  unfold dReverse at h
  split at h
  · unfold RpL at rs
    unfold Rp at rx
    subst rs rx
    split at h
    · rename_i es q
      obtain ⟨ho, e2, xs, e3, r2⟩ := s.mu _ _ q
      subst e3
      obtain ⟨s1, g1⟩ := s.wr (o' := .lst es.reverse) (ho := .lst xs.reverse) q ⟨_, rfl, r2.rev⟩
      exact ⟨_, xs, rfl, rfl, e2, po _ _ _ _ _ h g1 s1 (by unfold Rp; rfl)⟩
    · exact h.elim
  · exact h.elim
/-! texts: by lists of codes -/
def dSplit (mu : Bool) : DM := fun x ds M Q => match x, ds with
  | .str a, [.str b] => b ≠ [] ∧ a.length + 2 ≤ sizeLine ∧ b.all (· < 256) = true ∧ dNew mu ((spl b 0 [] a).map .str) M Q
  | _, _ => False
def rSplit : V → List V → Hp → VK → Prop := fun x xs H Q => ∃ a b, x = .str a ∧ xs = [.str b] ∧ (b.length == 0) = false ∧ a.length + 2 ≤ sizeLine ∧ rNewStrs (Txt.split a b) H Q
theorem RpL.ofStrs {K : PySem.W.Frag} {F : Hp} : ∀ {ys : List Str}, RpL K F ((ys.map tl).map D.str) (ys.map V.str)
  | [] => RpL.nil
  | y :: ys => RpL.cons (by unfold Rp; rw [mkS_of]) RpL.ofStrs
theorem rel_split {K : PySem.W.Frag} {mu : Bool} : RelM K "str" rSplit (dSplit mu) := by
  intro x vx ds vs H F M Qd Q rx rs s h po
  unfold dSplit at h
  split at h
  · rename_i a b
    obtain ⟨v, e, r1⟩ := rs.one
    unfold Rp at rx r1
    subst e r1 rx
    obtain ⟨h1, h2, h3, h4⟩ := h
    refine ⟨_, _, rfl, rfl, ?_, by rw [mkS_len]; exact h2, fun p hp => ?_⟩
    · rw [mkS_len]
      cases b with
      | nil => exact absurd rfl h1
      | cons c b => rfl
    · have e2 : (Txt.split (mkS a) (mkS b)).map tl = spl b 0 [] a := split_spl _ _ h1 (kind_ok (by simpa [mkS] using h3))
      have r2 : RpL K F ((spl b 0 [] a).map .str) ((Txt.split (mkS a) (mkS b)).map V.str) := by rw [← e2]; exact RpL.ofStrs
      exact dNew_at s r2 h4 po hp
  · exact h.elim
def strsOf : List D → Option (List (List Nat))
  | [] => some []
  | .str i :: ds => (strsOf ds).map (i :: ·)
  | _ :: _ => none
theorem strsOf_at {K : PySem.W.Frag} {F : Hp} : ∀ {ds : List D} {vs : List V} {ns : List (List Nat)}, RpL K F ds vs → strsOf ds = some ns → vs = (ns.map mkS).map V.str
  | [], _, _, r, e => by unfold RpL at r; cases e; exact r
  | d :: ds, _, _, r, e => by
    unfold RpL at r
    obtain ⟨x, xs, e1, r1, r2⟩ := r
    cases d <;> first | (cases e; done) | skip
    unfold strsOf at e
    cases q : strsOf ds with
    | none => rw [q] at e; cases e
    | some ms =>
      rw [q] at e
      cases e
      unfold Rp at r1
      rw [e1, r1, strsOf_at r2 q]
      rfl
theorem strsOf_map : ∀ ns : List (List Nat), strsOf (ns.map D.str) = some ns
  | [] => rfl
  | n :: ns => by
    show (strsOf (ns.map D.str)).map (n :: ·) = _
    rw [strsOf_map ns]
    rfl
def dJoin : DM := fun x ds M Q => match x, ds with
  | .str a, [d] => match (dits M d).bind strsOf with
    | some ys => (ys.map (·.length)).sum + ys.length * a.length ≤ 16777216 ∧ Q (.str (joinL a ys)) M
    | none => False
  | _, _ => False
def rJoin (K : PySem.W.Frag) : V → List V → Hp → VK → Prop := fun x xs H Q => ∃ a p, ∃ ys : List Str, x = .str a ∧ xs = [.ref p] ∧ (SqL K H p (ys.map V.str) ∨ SqT K H p (ys.map V.str)) ∧
    (ys.map (·.length)).sum + ys.length * a.length ≤ 16777216 ∧ Q (.str (Txt.join a ys)) H
theorem rel_join {K : PySem.W.Frag} : RelM K "str" (rJoin K) dJoin := by
  intro x vx ds vs H F M Qd Q rx rs s h po
  unfold dJoin at h
  split at h
  · rename_i a d
    obtain ⟨v, e, r1⟩ := rs.one
    unfold Rp at rx
    subst e rx
    split at h
    · rename_i ys e
      obtain ⟨es, e1, e2⟩ := Option.bind_eq_some_iff.mp e
      obtain ⟨p, xs, e3, hs, r2⟩ := dits_at s r1 e1
      have e4 := strsOf_at r2 e2
      subst e3 e4
      refine ⟨mkS a, p, ys.map mkS, rfl, rfl, hs, ?_, po.fin s h.2 ?_⟩
      · have e5 : (ys.map mkS).map (·.length) = ys.map (·.length) := by
          rw [List.map_map]
          exact List.map_congr_left fun y _ => mkS_len y
        rw [e5, List.length_map, mkS_len]
        exact h.1
      · unfold Rp
        congr 1
        refine ext_tl ?_
        rw [join_eq, tl_join, List.map_map]
        have e6 : (ys.map (tl ∘ mkS)) = ys := by
          have : (tl ∘ mkS) = id := by funext y; rfl
          rw [this, List.map_id]
        rw [e6]
        rfl
    · exact h.elim
  · exact h.elim
/-- startswith -/
def dStarts : DM := fun x ds M Q => match x, ds with
  | .str a, [.str b] => Q (.bl (Txt.startswith (mkS a) (mkS b))) M
  | _, _ => False
def r1S (g : Str → Str → V) : V → List V → Hp → VK → Prop := fun x xs H Q => ∃ a b, x = .str a ∧ xs = [.str b] ∧ Q (g a b) H
theorem rel_starts {K : PySem.W.Frag} : RelM K "str" (r1S fun a b => .bl (Txt.startswith a b)) dStarts := by
  intro x vx ds vs H F M Qd Q rx rs s h po
  unfold dStarts at h
  split at h
  · obtain ⟨v, e, r1⟩ := rs.one
    unfold Rp at rx r1
    subst e r1 rx
    exact ⟨_, _, rfl, rfl, po.fin s h (by unfold Rp; rfl)⟩
  · exact h.elim
def dCount : DM := fun x ds M Q => match x, ds with
  | .str a, [.str b] => Q (.int (Txt.count (mkS a) (mkS b))) M
  | _, _ => False
theorem rel_count {K : PySem.W.Frag} : RelM K "str" (r1S fun a b => .int (Txt.count a b)) dCount := by
  intro x vx ds vs H F M Qd Q rx rs s h po
  unfold dCount at h
  split at h
  · obtain ⟨v, e, r1⟩ := rs.one
    unfold Rp at rx r1
    subst e r1 rx
    exact ⟨_, _, rfl, rfl, po.fin s h (by unfold Rp; rfl)⟩
  · exact h.elim
end DL

namespace DL
open PySem PySem.Spec PyProof.Rows L2 TL

/-! ### weaker knowledge: a list that may change is said to stay, a thing is forgotten -/
def Wk (d : D) (M : Mu) (d' : D) (M' : Mu) : Prop := ∀ (K : PySem.W.Frag) (H F : Hp) (v : V), Sv K H F M → Rp K F d v → ∃ F', Sv K H F' M' ∧ Go H F M H F' M' ∧ Rp K F' d' v
theorem Wk.refl {d : D} {M : Mu} : Wk d M d M := fun K H F v s r => ⟨F, s, Go.refl, r⟩
theorem Wk.trans {d d1 d2 : D} {M M1 M2 : Mu} (a : Wk d M d1 M1) (b : Wk d1 M1 d2 M2) : Wk d M d2 M2 := fun K H F v s r => by
  obtain ⟨F1, s1, g1, r1⟩ := a K H F v s r
  obtain ⟨F2, s2, g2, r2⟩ := b K H F1 v s1 r1
  exact ⟨F2, s2, g1.trans g2, r2⟩
def Sub (M' M : Mu) : Prop := ∀ b o, M' b = some o → M b = some o
theorem Sub.refl {M : Mu} : Sub M M := fun _ _ h => h
theorem Sub.trans {M M1 M2 : Mu} (a : Sub M M1) (b : Sub M1 M2) : Sub M M2 := fun c o h => b c o (a c o h)
theorem Sub.set {M M' : Mu} {p : Addr} {o : DO} (h : Sub M M') (n : M p = none) : Sub M (mset M' p o) := fun b u e => by
  rw [mset_ne (fun z => by subst z; rw [n] at e; cases e)]
  exact h b u e
theorem Sub.none {M M' : Mu} {p : Addr} (h : Sub M M') (n : M' p = none) : M p = none := by
  cases e : M p with
  | none => rfl
  | some o => rw [h p o e] at n; cases n
theorem Sv.sub {K : PySem.W.Frag} {H F : Hp} {M M' : Mu} (s : Sv K H F M) (h : Sub M' M) : Sv K H F M' ∧ Go H F M H F M' := by
  refine ⟨⟨s.fh, fun b o e => ?_, fun a o e => s.mu a o (h a o e)⟩, ⟨Le.refl F, fun b o e m => ⟨e, ?_, fun z => z⟩⟩⟩
  · exact h.none (s.fm b o e)
  · exact h.none m
theorem Wk.drop {d : D} {M M' : Mu} (h : Sub M' M) : Wk d M d M' := fun K H F v s r => by
  obtain ⟨s1, g1⟩ := s.sub h
  exact ⟨F, s1, g1, r⟩
theorem Sv.frz {K : PySem.W.Frag} {H F : Hp} {M M' : Mu} {a : Addr} {ds : List D} (s : Sv K H F M) (e : M a = some (.lst ds)) (h : Sub M' M) (n : M' a = none) : ∃ xs, Sv K H (upd F a (.lst xs)) M' ∧ Go H F M H (upd F a (.lst xs)) M' ∧ RpL K (upd F a (.lst xs)) ds xs := by
  obtain ⟨ho, e2, xs, e3, r⟩ := s.mu a _ e
  subst e3
  have hF : F a = none := by
    cases q : F a with
    | none => rfl
    | some u => rw [s.fm a u q] at e; cases e
  have l : Le F (upd F a (.lst xs)) := Le.new hF
  refine ⟨xs, ⟨fun b u q => ?_, fun b u q => ?_, fun b u q => ?_⟩, ⟨l, fun b u q m => ⟨q, ?_, fun z => ?_⟩⟩, r.mono l⟩
  · by_cases hb : b = a
    · subst hb; rw [upd_same] at q; cases q; exact e2
    · rw [upd_ne hb] at q; exact s.fh b u q
  · by_cases hb : b = a
    · subst hb; exact n
    · rw [upd_ne hb] at q; exact h.none (s.fm b u q)
  · obtain ⟨ho, e4, r4⟩ := s.mu b u (h b u q)
    exact ⟨ho, e4, r4.mono l⟩
  · exact h.none m
  · have hb : b ≠ a := fun z => by subst z; rw [m] at e; cases e
    rw [upd_ne hb]; exact z
theorem Wk.frz {M M' : Mu} {a : Addr} {ds : List D} (e : M a = some (.lst ds)) (h : Sub M' M) (n : M' a = none) : Wk (.ref a) M (.lst ds) M' := fun K H F v s r => by
  obtain ⟨xs, s1, g1, r1⟩ := s.frz e h n
  unfold Rp at r
  obtain ⟨ho, e2, ys, e3, _⟩ := s.mu a _ e
  refine ⟨_, s1, g1, ?_⟩
  unfold Rp
  exact ⟨a, xs, r, upd_same, r1⟩
theorem Sub.drop {M : Mu} {a : Addr} : Sub (mdrop M a) M := fun b o e => by
  unfold mdrop at e
  by_cases hb : b = a
  · rw [if_pos hb] at e; cases e
  · rw [if_neg hb] at e; exact e
/-- wanted of a value up to weaker knowledge -/
def Wq (Q : DK) : DK := fun d M => ∃ d' M', Wk d M d' M' ∧ Q d' M'
theorem Wq.now {Q : DK} {d : D} {M : Mu} (h : Q d M) : Wq Q d M := ⟨d, M, Wk.refl, h⟩
theorem Wq.drop {Q : DK} {d : D} {M M' : Mu} (h : Sub M' M) (q : Q d M') : Wq Q d M := ⟨d, M', Wk.drop h, q⟩
theorem Wq.frz {Q : DK} {a : Addr} {ds : List D} {M M' : Mu} (e : M a = some (.lst ds)) (h : Sub M' M) (n : M' a = none) (q : Q (.lst ds) M') : Wq Q (.ref a) M := ⟨_, M', Wk.frz e h n, q⟩
theorem Post.wq {K : PySem.W.Frag} {H F : Hp} {M : Mu} {Qd : DK} {Q : VK} (p : Post K H F M Qd Q) : Post K H F M (Wq Qd) Q := fun d M' F' v H' q g s r => by
  obtain ⟨d2, M2, w, q⟩ := q
  obtain ⟨F2, s2, g2, r2⟩ := w K H' F' v s r
  exact p d2 M2 F2 v H' q (g.trans g2) s2 r2
def dWq (u : DTE) : DTE := fun δ M Q => u δ M (Wq Q)
theorem de_wq {X : Cx} {e : Expr} {u : DTE} (h : DE X e u) : DE X e (dWq u) := PE.weak h fun σ H Q h => by
  obtain ⟨δ, M, F, Qd, hE, s, hu, p⟩ := h
  exact ⟨δ, M, F, _, hE, s, hu, p.wq⟩

/-! ### targets -/
abbrev DTg := D → DEnv → Mu → (DEnv → Mu → Prop) → Prop
def dgN (i : Nat) : DTg := fun d δ M Q => Q (δ.set i (some d)) M
def dgAll : List DTg → List D → DEnv → Mu → (DEnv → Mu → Prop) → Prop
  | [], [], δ, M, Q => Q δ M
  | t :: ts, d :: ds, δ, M, Q => t d δ M fun δ' M' => dgAll ts ds δ' M' Q
  | _, _, _, _, _ => False
def dgT (ts : List DTg) : DTg := fun d δ M Q => match d with
  | .tup ds => ds.length = ts.length ∧ dgAll ts ds δ M Q
  | _ => False
/-- vs: slots of a block's own; what is wanted tells that nothing else was stored -/
def RelG (K : PySem.W.Frag) (vs : List Nat) (g : TG) (dg : DTg) : Prop := ∀ d x δ σ σ0 H F M Qd Q, Rp K F d x → ERel K F δ σ → Sv K H F M → dg d δ M Qd → PostE K H F M Qd (fun σ2 H2 => wipe σ2 vs = wipe σ0 vs → Q σ2 H2) → wipe σ vs = wipe σ0 vs → g x σ H Q
def RelGs (K : PySem.W.Frag) (vs : List Nat) (g : TGs) (dg : List DTg) : Prop := ∀ ds xs δ σ σ0 H F M Qd Q, RpL K F ds xs → ERel K F δ σ → Sv K H F M → dgAll dg ds δ M Qd → PostE K H F M Qd (fun σ2 H2 => wipe σ2 vs = wipe σ0 vs → Q σ2 H2) → wipe σ vs = wipe σ0 vs → g xs σ H Q
theorem wipe_in {σ : L2.St} {i : Nat} : ∀ {vs : List Nat}, i ∈ vs → i < σ.length → (wipe σ vs)[i]? = some none
  | v :: vs, h, hl => by
    unfold wipe
    by_cases e : v = i
    · subst e
      rw [List.getElem?_set_self (by rw [wipe_length]; exact hl)]
    · rw [List.getElem?_set_ne e]
      exact wipe_in ((List.mem_cons.mp h).resolve_left fun z => e z.symm) hl
theorem wipe_set {σ : L2.St} {j : Nat} {v : Option V} {vs : List Nat} (h : j ∈ vs) : wipe (σ.set j v) vs = wipe σ vs := by
  refine List.ext_getElem? fun i => ?_
  by_cases hi : i ∈ vs
  · by_cases hl : i < σ.length
    · rw [wipe_in hi (by rw [List.length_set]; exact hl), wipe_in hi hl]
    · rw [List.getElem?_eq_none (by rw [wipe_length, List.length_set]; omega), List.getElem?_eq_none (by rw [wipe_length]; omega)]
  · rw [wipe_out hi, wipe_out hi, List.getElem?_set_ne (fun z => hi (by rw [← z]; exact h))]
theorem relg_name {K : PySem.W.Frag} {vs : List Nat} (i : Nat) (hi : i ∈ vs := by decide) : RelG K vs (gName i) (dgN i) := fun d x δ σ σ0 H F M Qd Q r e s h po w => po _ _ _ _ _ h Go.refl s (e.set r) (by rw [wipe_set hi]; exact w)
theorem relgs_nil {K : PySem.W.Frag} {vs : List Nat} : RelGs K vs gNil [] := fun ds xs δ σ σ0 H F M Qd Q r e s h po w => by
  cases ds with
  | nil =>
    unfold RpL at r
    exact ⟨r, po _ _ _ _ _ h Go.refl s e w⟩
  | cons _ _ => exact False.elim h
theorem relgs_cons {K : PySem.W.Frag} {vs : List Nat} {g : TG} {gs : TGs} {dg : DTg} {dgs : List DTg} (h1 : RelG K vs g dg) (h2 : RelGs K vs gs dgs) : RelGs K vs (gCons g gs) (dg :: dgs) := fun ds xs δ σ σ0 H F M Qd Q r e s h po w => by
  cases ds with
  | nil => exact False.elim h
  | cons d ds =>
    unfold RpL at r
    obtain ⟨x, ys, e1, r1, r2⟩ := r
    refine ⟨x, ys, e1, ?_⟩
    refine h1 d x δ σ σ0 H F M _ _ r1 e s h (fun δ2 M2 F2 σ2 H2 q2 g2 s2 e2 w2 => ?_) w
    exact h2 ds ys δ2 σ2 σ0 H2 F2 M2 Qd Q (r2.mono g2.le) e2 s2 q2 (po.go g2) w2
theorem relg_tup {K : PySem.W.Frag} {vs : List Nat} {gs : TGs} {dgs : List DTg} (n : Nat) (hn : dgs.length = n) (h : RelGs K vs gs dgs) : RelG K vs (gTup K n gs) (dgT dgs) := fun d x δ σ σ0 H F M Qd Q r e s hd po w => by
  cases d <;> first | exact False.elim hd | skip
  rename_i ds
  unfold Rp at r
  obtain ⟨a, xs, e1, h1, r1⟩ := r
  exact ⟨a, xs, e1, s.fh.sqT h1, by rw [← r1.len, hd.1, hn], h ds xs δ σ σ0 H F M Qd Q r1 e s hd.2 po w⟩

/-! ### statements -/
def dNx : DTS := fun D δ M => D.nx δ M
def dBk : DTS := fun D δ M => D.bk δ M
def dCt : DTS := fun D δ M => D.ct δ M
def dSq (t u : DTS) : DTS := fun D δ M => t { D with nx := u D } δ M
def dNo : DTS := fun _ _ _ => False
def dEx (u : DTE) : DTS := fun D δ M => u δ M fun _ M1 => D.nx δ M1
def dRt (u : DTE) : DTS := fun D δ M => u δ M D.rt
def dRtN : DTS := fun D _ M => D.rt .non M
def dIfS (c : DTT) (t u : DTS) : DTS := fun D δ M => c δ M fun b M1 => match b with
  | true => t D δ M1
  | false => u D δ M1
def dAs (u : DTE) (g : DTg) : DTS := fun D δ M => u δ M fun d M1 => g d δ M1 D.nx
def dAu (i : Nat) (rd : DR2) (u : DTE) : DTS := fun D δ M => match δ[i]? with
  | some (some x) => u δ M fun y M1 => rd x y M1 fun z M2 => D.nx (δ.set i (some z)) M2
  | _ => False
def dPar (i j : Nat) (ua : DTA) : DTS := fun D δ M => ua δ M fun ds M1 => match ds with
  | [v, w] => D.nx ((δ.set i (some v)).set j (some w)) M1
  | _ => False
def dWhile (c : DTT) (b : DTS) : DTS := fun D δ M => ∃ W : Nat → DEnv → Mu → Prop, (∃ m, W m δ M) ∧ ∀ m δ M, W m δ M →
  c δ M fun k M1 => match k with
    | true => b { D with nx := fun δ' M' => ∃ m', m' < m ∧ W m' δ' M', ct := fun δ' M' => ∃ m', m' < m ∧ W m' δ' M', bk := D.nx } δ M1
    | false => D.nx δ M1
section
variable {X : Cx} {st : Stmt} {rest : List Stmt} {t u : DTS} {e : Expr} {ue : DTE} {pos : Pos}
theorem dss_nil : DSs X [] dNx := PSs.weak pss_nil fun D σ H h => by
  obtain ⟨δ, M, F, Dd, hE, s, hu, p⟩ := h
  exact p.nx _ _ _ _ _ hu Go.refl s hE
theorem dss_cons (h1 : DS X st t) (h2 : DSs X rest u) : DSs X (st :: rest) (dSq t u) := PSs.weak (pss_cons h1 h2) fun D σ H h => by
  obtain ⟨δ, M, F, Dd, hE, s, hu, p⟩ := h
  exact ⟨δ, M, F, { Dd with nx := u Dd }, hE, s, hu, ⟨fun δ' M' F' σ' H' q g s' e => ⟨δ', M', F', Dd, e, s', q, p.go g⟩, p.rt, p.bk, p.ct⟩⟩
theorem dss_one (h1 : DS X st t) : DSs X [st] t := pss_one h1
theorem ds_pass : DS X (.Pass pos) dNx := PS.weak ps_pass fun D σ H h => by
  obtain ⟨δ, M, F, Dd, hE, s, hu, p⟩ := h
  exact p.nx _ _ _ _ _ hu Go.refl s hE
theorem ds_break : DS X (.Break pos) dBk := PS.weak ps_break fun D σ H h => by
  obtain ⟨δ, M, F, Dd, hE, s, hu, p⟩ := h
  exact p.bk _ _ _ _ _ hu Go.refl s hE
theorem ds_cont : DS X (.Continue pos) dCt := PS.weak ps_continue fun D σ H h => by
  obtain ⟨δ, M, F, Dd, hE, s, hu, p⟩ := h
  exact p.ct _ _ _ _ _ hu Go.refl s hE
theorem ds_doc {x : Str} {j : Nat} {pos' : Pos} : DS X (.Expr (.Constant (.str x) j pos) pos') dNx := PS.weak ps_doc fun D σ H h => by
  obtain ⟨δ, M, F, Dd, hE, s, hu, p⟩ := h
  exact p.nx _ _ _ _ _ hu Go.refl s hE
theorem ds_never : DS X st dNo := PS.weak ps_never fun D σ H h => by
  obtain ⟨δ, M, F, Dd, hE, s, hu, p⟩ := h
  exact hu
theorem dss_never : DSs X rest dNo := PSs.weak pss_never fun D σ H h => by
  obtain ⟨δ, M, F, Dd, hE, s, hu, p⟩ := h
  exact hu
theorem ds_expr (he : DE X e ue) (hs : swapsWith e none pos.line X.env = pure false := by rfl) : DS X (.Expr e pos) (dEx ue) := PS.weak (ps_expr he hs) fun D σ H h => by
  obtain ⟨δ, M, F, Dd, hE, s, hu, p⟩ := h
  exact ⟨δ, M, F, _, hE, s, hu, fun d M' F' v H' q g s' r => p.nx _ _ _ _ _ q g s' (hE.mono g.le)⟩
theorem ds_ret (he : DE X e ue) : DS X (.Return (some e) pos) (dRt ue) := PS.weak (ps_ret he) fun D σ H h => by
  obtain ⟨δ, M, F, Dd, hE, s, hu, p⟩ := h
  exact ⟨δ, M, F, _, hE, s, hu, p.rt⟩
theorem ds_retN : DS X (.Return none pos) dRtN := PS.weak ps_retN fun D σ H h => by
  obtain ⟨δ, M, F, Dd, hE, s, hu, p⟩ := h
  exact p.rt _ _ _ _ _ hu Go.refl s (by unfold Rp; rfl)
theorem ds_if {c : Expr} {a b : List Stmt} {tc : DTT} (hc : DT X c tc) (ha : DSs X a t) (hb : DSs X b u) : DS X (.If c a b pos) (dIfS tc t u) := PS.weak (ps_if hc ha hb) fun D σ H h => by
  obtain ⟨δ, M, F, Dd, hE, s, hu, p⟩ := h
  refine ⟨δ, M, F, _, hE, s, hu, fun d M' F' H' q g s' => ?_⟩
  cases d with
  | true => exact ⟨δ, M', F', Dd, hE.mono g.le, s', q, p.go g⟩
  | false => exact ⟨δ, M', F', Dd, hE.mono g.le, s', q, p.go g⟩
theorem ds_set {i : Nat} {x : Str} {pos' : Pos} (hN : X.N.Nodup) (he : DE X e ue) (hi : X.N[i]? = some x := by rfl) (hx : Loc X.env.scope x := by first | exact Or.inl rfl | exact Or.inr rfl) (hs : swapsWith e (some (.Name x pos')) pos.line X.env = pure false := by rfl) (hf : X.fn x = true ∨ X.env.scope.names.lookup x = some .local := by first | exact .inl rfl | exact .inr rfl | assumption) :
    DS X (.Assign [.Name x pos'] e pos) (dAs ue (dgN i)) := PS.weak (ps_set hN hi hx he hs hf) fun D σ H h => by
  obtain ⟨δ, M, F, Dd, hE, s, hu, p⟩ := h
  exact ⟨δ, M, F, _, hE, s, hu, fun d M' F' v H' q g s' r => p.nx _ _ _ _ _ q g s' ((hE.mono g.le).set r)⟩
theorem ds_asg {tg : Expr} {g : TG} {dg : DTg} {vs : List Nat} (hg : PG X tg g) (hr : RelG X.K vs g dg) (he : DE X e ue) (hs : swapsWithSole [tg] e pos.line X.env = pure false := by rfl) (hw : swappedStores [tg] e X.env = pure none := by rfl)
    (h1 : (assignEach [tg] X.env).map (·.2) = [assign tg X.env] := by rfl) : DS X (.Assign [tg] e pos) (dAs ue dg) := PS.weak (ps_asg he hg hs hw h1) fun D σ H h => by
  obtain ⟨δ, M, F, Dd, hE, s, hu, p⟩ := h
  refine ⟨δ, M, F, _, hE, s, hu, fun d M' F' v H' q g s' r => ?_⟩
  exact hr d v δ σ σ H' F' M' _ _ r (hE.mono g.le) s' q (fun δ2 M2 F2 σ2 H2 q2 g2 s2 e2 _ => p.nx _ _ _ _ _ q2 (g.trans g2) s2 e2) rfl
theorem ds_aug {i : Nat} {x : Str} {op : Operator} {ti : TIp} {rd : DR2} {pos' : Pos} (hN : X.N.Nodup) (ho : PIp X op ti) (hr : Rel2 X.K ti rd) (he : DE X e ue) (hi : X.N[i]? = some x := by rfl) (hx : Loc X.env.scope x := by first | exact Or.inl rfl | exact Or.inr rfl) (hf : X.fn x = true ∨ X.env.scope.names.lookup x = some .local := by first | exact .inl rfl | exact .inr rfl | assumption) :
    DS X (.AugAssign (.Name x pos') op e pos) (dAu i rd ue) := PS.weak (ps_aug hN hi hx he ho hf) fun D σ H h => by
  obtain ⟨δ, M, F, Dd, hE, s, hu, p⟩ := h
  have hu' : (match δ[i]? with | some (some x) => ue δ M fun y M1 => rd x y M1 fun z M2 => Dd.nx (δ.set i (some z)) M2 | _ => False) := hu
  split at hu'
  · rename_i d ed
    obtain ⟨v, e2, r⟩ := hE.2 i d ed
    refine ⟨v, e2, δ, M, F, _, hE, s, hu', fun y M1 F1 vy H1 q g s1 r1 => ?_⟩
    refine hr _ _ _ _ _ _ _ _ _ (r.mono g.le) r1 s1 q fun z M2 F2 vz H2 q2 g2 s2 r2 => ?_
    exact p.nx _ _ _ _ _ q2 (g.trans g2) s2 ((hE.mono (g.le.trans g2.le)).set r2)
  · exact hu'.elim
theorem ds_par {i j : Nat} {x y : Str} {a b : Expr} {ua : DTA} {px py pt : Pos} {kt k2 : Nat} {pt2 : Pos} (hc : X.calm = true) (hN : X.N.Nodup) (ha : DA X [a, b] ua) (hi : X.N[i]? = some x := by rfl) (hj : X.N[j]? = some y := by rfl) (hij : i ≠ j := by decide)
    (hx : X.env.scope.names.lookup x = some .local := by rfl) (hy : X.env.scope.names.lookup y = some .local := by rfl)
    (hw : swappedStores [.Tuple [.Name x px, .Name y py] kt pt] (.Tuple [a, b] k2 pt2) X.env = pure (some [x, y]) := by rfl)
    (hs : swapsWithSole [.Tuple [.Name x px, .Name y py] kt pt] (.Tuple [a, b] k2 pt2) pos.line X.env = pure false := by rfl) :
    DS X (.Assign [.Tuple [.Name x px, .Name y py] kt pt] (.Tuple [a, b] k2 pt2) pos) (dPar i j ua) := PS.weak (ps_par hc hN hi hj hij hx hy ha hw hs) fun D σ H h => by
  obtain ⟨δ, M, F, Dd, hE, s, hu, p⟩ := h
  refine ⟨δ, M, F, _, hE, s, hu, fun ds M1 F1 vs H1 q g s1 r => ?_⟩
  split at q
  · rename_i v w
    obtain ⟨v1, v2, e, r1, r2⟩ := r.two
    exact ⟨v1, v2, e, p.nx _ _ _ _ _ q g s1 (((hE.mono g.le).set r1).set r2)⟩
  · exact q.elim
theorem ds_while {c : Expr} {body : List Stmt} {tc : DTT} {tb : DTS} (hp : PassesOwn (model X.prog X.w) X.A X.env X.xe) (hc : DT X c tc) (hb : DSs X body tb) : DS X (.While c body [] pos) (dWhile tc tb) := PS.weak (ps_while hp hc hb) fun D σ H h => by
  obtain ⟨δ, M, F, Dd, hE, s, ⟨W, ⟨m, w0⟩, turn⟩, p⟩ := h
  refine ⟨fun m σ' H' => ∃ δ' M' F', W m δ' M' ∧ ERel X.K F' δ' σ' ∧ Sv X.K H' F' M' ∧ Go H F M H' F' M', ⟨m, δ, M, F, w0, hE, s, Go.refl⟩, ?_⟩
  rintro m σ1 H1 ⟨δ1, M1, F1, w1, e1, s1, g1⟩
  refine ⟨δ1, M1, F1, _, e1, s1, turn m δ1 M1 w1, fun b M2 F2 H2 q g2 s2 => ?_⟩
  cases b with
  | false =>
    rw [if_neg Bool.false_ne_true]
    exact p.nx _ _ _ _ _ q (g1.trans g2) s2 (e1.mono g2.le)
  | true =>
    rw [if_pos rfl]
    refine ⟨fun σ' H' => ∃ m', m' < m ∧ ∃ δ' M' F', W m' δ' M' ∧ ERel X.K F' δ' σ' ∧ Sv X.K H' F' M' ∧ Go H F M H' F' M', fun σ' H' z => z, ?_⟩
    refine ⟨δ1, M2, F2, _, e1.mono g2.le, s2, q, ⟨?_, p.rt.go (g1.trans g2), p.nx.go (g1.trans g2), ?_⟩⟩
    · intro δ3 M3 F3 σ3 H3 ⟨m', hm, w3⟩ g3 s3 e3
      exact ⟨m', hm, δ3, M3, F3, w3, e3, s3, (g1.trans g2).trans g3⟩
    · intro δ3 M3 F3 σ3 H3 ⟨m', hm, w3⟩ g3 s3 e3
      exact ⟨m', hm, δ3, M3, F3, w3, e3, s3, (g1.trans g2).trans g3⟩
end
/-! += -/
def dIAdd : DR2
  | .int i, .int j, M, Q => Q (.int (i + j)) M
  | .str a, .str b, M, Q => a.length + b.length ≤ sizeLine ∧ Q (.str (a ++ b)) M
  | _, _, _, _ => False
def rIAdd : R2 := fun x y H Q => (rI0 (fun i j => .int (i + j))) x y H Q ∨ (∃ i j, x = .str i ∧ y = .str j ∧ i.length + j.length ≤ sizeLine ∧ Q (.str (i ++ j)) H)
theorem pip_add {X : Cx} : PIp X .Add rIAdd := fun pins s σ H x y v u Q I rx ry h => OpR.or iop_add iop_add_str pins s σ H x y v u Q I rx ry h
theorem pip_sub {X : Cx} : PIp X .Sub (rI0 fun i j => .int (i - j)) := fun pins s σ H x y v u Q I rx ry h => iop_sub pins s σ H x y v u Q I rx ry h
theorem rel_iadd {K : PySem.W.Frag} : Rel2 K rIAdd dIAdd := by
  intro x y vx vy H F M Qd Q rx ry s h po
  unfold dIAdd at h
  split at h
  · unfold Rp at rx ry
    exact .inl ⟨_, _, rx, ry, po.fin s h (by unfold Rp; rfl)⟩
  · unfold Rp at rx ry
    obtain ⟨hl, h⟩ := h
    exact .inr ⟨_, _, rx, ry, by rw [mkS_len, mkS_len]; exact hl, po.fin s h (by unfold Rp; rw [mkS_app])⟩
  · exact h.elim
/-! o[i] = e, o[i] += e -/
def dSetV (o i v : D) (M : Mu) (Q : Mu → Prop) : Prop := match o, i with
  | .ref a, .int k => match M a with
    | some (.lst es) => match ixN es.length k with
      | some j => Q (mset M a (.lst (es.set j v)))
      | none => False
    | _ => False
  | _, _ => False
def PostM (K : PySem.W.Frag) (H F : Hp) (M : Mu) (Qd : Mu → Prop) (Q : Hp → Prop) : Prop := ∀ M' F' H', Qd M' → Go H F M H' F' M' → Sv K H' F' M' → Q H'
theorem rel_setV {K : PySem.W.Frag} {o i v : D} {vo vi vv : V} {H F : Hp} {M : Mu} {Qd : Mu → Prop} {Q : Hp → Prop} (ro : Rp K F o vo) (ri : Rp K F i vi) (rv : Rp K F v vv) (s : Sv K H F M) (h : dSetV o i v M Qd) (po : PostM K H F M Qd Q) : rSetL vo vi vv H Q := by
  unfold dSetV at h
  split at h
  · unfold Rp at ro ri
    subst ro ri
    split at h
    · rename_i es q
      obtain ⟨ho, e2, xs, e3, r2⟩ := s.mu _ _ q
      subst e3
      split at h
      · rename_i j ej
        obtain ⟨s1, g1⟩ := s.wr (o' := .lst (es.set j v)) (ho := .lst (xs.set j vv)) q ⟨_, rfl, r2.set j rv⟩
        exact ⟨_, xs, _, j, rfl, rfl, e2, by rw [← r2.len]; exact ej, po _ _ _ h g1 s1⟩
      · exact h.elim
    · exact h.elim
  · exact h.elim
def dgSub (uo ui : DTE) : DTg := fun v δ M Q => uo δ M fun o M1 => ui δ M1 fun i M2 => dSetV o i v M2 fun M3 => Q δ M3
def dGetM : DR2 := fun o i M Q => match o, i with
  | .ref a, .int k => match M a with
    | some (.lst es) => match atI es k with
      | some d => Q d M
      | none => False
    | _ => False
  | _, _ => False
theorem rel_getM {K : PySem.W.Frag} : Rel2 K (rIxL K) dGetM := by
  intro x y vx vy H F M Qd Q rx ry s h po
  unfold dGetM at h
  split at h
  · unfold Rp at rx ry
    subst rx ry
    split at h
    · rename_i es q
      obtain ⟨ho, e2, xs, e3, r2⟩ := s.mu _ _ q
      subst e3
      split at h
      · rename_i d ed
        obtain ⟨v, e4, r4⟩ := atI_rel r2 ed
        exact ⟨_, xs, _, v, rfl, rfl, .inl (.inl e2), e4, po.fin s h r4⟩
      · exact h.elim
    · exact h.elim
  · exact h.elim
def dAuS (uo ui ue : DTE) (rd : DR2) : DTS := fun D δ M => uo δ M fun o M1 => ui δ M1 fun i M2 => dGetM o i M2 fun x M3 => ue δ M3 fun y M4 => rd x y M4 fun z M5 => dSetV o i z M5 fun M6 => D.nx δ M6
theorem get_list {X : Cx} : PGet X (rIxL X.K) := by
  intro pins s σ H x y v u Q I rx ry h
  obtain ⟨p, xs, i, z, rfl, rfl, hq, he, q⟩ := h
  cases rx
  obtain ⟨t, rfl⟩ := ry
  obtain ⟨its, r, pl, hz⟩ := I.list hq
  obtain ⟨j, h1, h2, h3, h4, h5⟩ := atI_get he
  obtain ⟨w, ew, rw'⟩ := r.get h2
  have hl := r.length
  have hn := line63
  have fin : EP X pins σ Q w s := ⟨z, H, I, rw', q⟩
  by_cases h0 : 0 ≤ i
  · have hj : i.toNat = j := by
      rw [seqIndex_of h0 h5] at h1
      exact Option.some.inj h1
    exact wpAny_getItem_list pl.isList h0 (by omega) (by rw [hj]; simpa using ew) fin
  · have hj : (i + (its.toArray.size : Int)).toNat = j := by
      rw [seqIndex_neg (by omega) h4] at h1
      rw [List.size_toArray, ← hl]
      exact Option.some.inj h1
    exact wpAny_getItem_list_neg pl.isList (by omega) (by rw [List.size_toArray] <;> omega) (by omega) (by rw [hj]; simpa using ew) fin
theorem relg_sub {K : PySem.W.Frag} {vs : List Nat} {uo ui : DTE} : RelG K vs (gSub (lift K uo) (lift K ui) rSetL) (dgSub uo ui) := fun d x δ σ σ0 H F M Qd Q r e s h po w => by
  refine ⟨δ, M, F, _, e, s, h, fun o M1 F1 vo H1 q1 g1 s1 r1 => ?_⟩
  refine ⟨δ, M1, F1, _, e.mono g1.le, s1, q1, fun i M2 F2 vi H2 q2 g2 s2 r2 => ?_⟩
  exact rel_setV (r1.mono g2.le) r2 (r.mono (g1.le.trans g2.le)) s2 q2 fun M3 F3 H3 q3 g3 s3 => po _ _ _ _ _ q3 (g1.trans (g2.trans g3)) s3 (e.mono (g1.le.trans (g2.le.trans g3.le))) w
section
variable {X : Cx} {o i e : Expr} {uo ui ue : DTE} {pos tpos : Pos}
theorem ds_setIx (ho : DE X o uo) (hi : DE X i ui) (he : DE X e ue) (ha : ∀ v, assign (.Subscript o i tpos) X.env v = (do
      let ov ← holding [v] (eval o X.env)
      let iv ← holding [v, ov] (eval i X.env)
      standAt tpos
      holding [v, ov, iv] (setItem ov iv v)
      release [v, ov, iv] []) := by intro _; rfl) (hs : swapsWithSole [.Subscript o i tpos] e pos.line X.env = pure false := by rfl) (hw : swappedStores [.Subscript o i tpos] e X.env = pure none := by rfl)
    (h1 : (assignEach [.Subscript o i tpos] X.env).map (·.2) = [assign (.Subscript o i tpos) X.env] := by rfl) : DS X (.Assign [.Subscript o i tpos] e pos) (dAs ue (dgSub uo ui)) := ds_asg (vs := []) (pg_sub ho hi set_list ha) relg_sub he hs hw h1
theorem ds_augIx {op : Operator} {ti : TIp} {rd : DR2} (hp : PIp X op ti) (hr : Rel2 X.K ti rd) (ho : DE X o uo) (hi : DE X i ui) (he : DE X e ue)
    (ha : ∀ ov iv new, augStore i ov iv new = (do holding [new, ov, iv] (setItem ov iv new); release [new, ov, iv] []; pure .next) := by intros; rfl) : DS X (.AugAssign (.Subscript o i tpos) op e pos) (dAuS uo ui ue rd) := PS.weak (ps_augS ho hi get_list he hp set_list ha) fun D σ H h => by
  obtain ⟨δ, M, F, Dd, hE, s, hu, p⟩ := h
  refine ⟨δ, M, F, _, hE, s, hu, fun od M1 F1 vo H1 q1 g1 s1 r1 => ?_⟩
  refine ⟨δ, M1, F1, _, hE.mono g1.le, s1, q1, fun id M2 F2 vi H2 q2 g2 s2 r2 => ?_⟩
  have ro := r1.mono g2.le
  have e2 := hE.mono (g1.le.trans g2.le)
  refine rel_getM _ _ _ _ _ _ _ _ _ ro r2 s2 q2 fun x M3 F3 vx H3 q3 g3 s3 r3 => ?_
  refine ⟨δ, M3, F3, _, e2.mono g3.le, s3, q3, fun y M4 F4 vy H4 q4 g4 s4 r4 => ?_⟩
  refine hr _ _ _ _ _ _ _ _ _ (r3.mono g4.le) r4 s4 q4 fun z M5 F5 vz H5 q5 g5 s5 r5 => ?_
  exact rel_setV (ro.mono (g3.le.trans (g4.le.trans g5.le))) (r2.mono (g3.le.trans (g4.le.trans g5.le))) r5 s5 q5 fun M6 F6 H6 q6 g6 s6 =>
    p.nx _ _ _ _ _ q6 (g1.trans (g2.trans (g3.trans (g4.trans (g5.trans g6))))) s6 (e2.mono (g3.le.trans (g4.le.trans (g5.le.trans g6.le))))
end
end DL

namespace DL
open PySem PySem.Spec PyProof.Rows L2 TL

/-! ### what is walked: its items, and what must stay true of what may change -/
abbrev DTI := DEnv → Mu → (List D → (Mu → Prop) → Mu → Prop) → Prop
def PostI (K : PySem.W.Frag) (H F : Hp) (M : Mu) (Rd : List D → (Mu → Prop) → Mu → Prop) (R : It → Hp → Prop) : Prop :=
  ∀ ds g M' F' H' J G Y, Rd ds g M' → Go H F M H' F' M' → Sv K H' F' M' → Walk J ds.length G Y →
    (∀ H2 F2 M2, Go H' F' M' H2 F2 M2 → Sv K H2 F2 M2 → g M2 → G H2) →
    (∀ i H1 F1 M1 x H2, i < ds.length → Go H' F' M' H1 F1 M1 → Sv K H1 F1 M1 → g M1 → Y i H1 x H2 → ∃ F2, Sv K H2 F2 M1 ∧ Go H1 F1 M1 H2 F2 M1 ∧ ∃ d, ds[i]? = some d ∧ Rp K F2 d x) → R J H'
def liftI (K : PySem.W.Frag) (u : DTI) : TI := fun σ H R => ∃ δ M F Rd, ERel K F δ σ ∧ Sv K H F M ∧ u δ M Rd ∧ PostI K H F M Rd R
abbrev DI (X : Cx) (tg iter : Expr) (u : DTI) : Prop := PI X tg iter (liftI X.K u)
theorem PI.weak {X : Cx} {tg e : Expr} {t t' : TI} (h : PI X tg e t) (i : ∀ σ H R, t' σ H R → t σ H R) : PI X tg e t' := ⟨fun pins s σ H R I q => h.run pins s σ H R I (i _ _ _ q)⟩
/-- range -/
def rngD (lo : Int) (n : Nat) : List D := (List.range n).map fun k => .int (lo + (k : Nat))
def diR1 (ua : DTA) : DTI := fun δ M R => ua δ M fun ds M1 => match ds with
  | [.int j] => -(2 ^ 62) ≤ j ∧ j < 2 ^ 62 ∧ R (rngD 0 j.toNat) (fun _ => True) M1
  | _ => False
def diR2 (ua : DTA) : DTI := fun δ M R => ua δ M fun ds M1 => match ds with
  | [.int i, .int j] => (-(2 ^ 62) ≤ i ∧ i < 2 ^ 62 ∧ -(2 ^ 62) ≤ j ∧ j < 2 ^ 62) ∧ R (rngD i (j - i).toNat) (fun _ => True) M1
  | _ => False
theorem rngD_len (lo : Int) (n : Nat) : (rngD lo n).length = n := by unfold rngD; rw [List.length_map, List.length_range]
theorem rngD_at {lo : Int} {n i : Nat} (h : i < n) : (rngD lo n)[i]? = some (.int (lo + (i : Nat))) := by
  unfold rngD
  rw [List.getElem?_map, List.getElem?_range h]
  rfl
theorem post_rng {K : PySem.W.Frag} {H F H1 F1 : Hp} {M M1 : Mu} {Rd : List D → (Mu → Prop) → Mu → Prop} {R : It → Hp → Prop} {lo : Int} {n : Nat} (po : PostI K H F M Rd R) (q : Rd (rngD lo n) (fun _ => True) M1) (g : Go H F M H1 F1 M1) (s : Sv K H1 F1 M1) : R (Itr lo n) H1 := by
  refine po (rngD lo n) _ M1 F1 H1 (Itr lo n) (fun _ => True) (YFn fun i => .int (lo + i)) q g s (by rw [rngD_len]; exact walk_range) (fun _ _ _ _ _ _ => trivial) fun i H2 F2 M2 x H3 hi g2 s2 _ y => ?_
  rw [rngD_len] at hi
  obtain ⟨e1, e2⟩ := y
  subst e1 e2
  exact ⟨F2, s2, Go.refl, _, rngD_at hi, by unfold Rp; rfl⟩
section
variable {X : Cx} {tg : Expr} {a b e : Expr} {ua : DTA} {ue : DTE} {p pos : Pos}
theorem di_r1 (hg : Gl X "range") (hm : X.mg "range" = none) (ha : DA X [a] ua) (hs : starEach [a] X.env = [(false, eval a X.env)] := by rfl) : DI X tg (.Call (.Name "range" p) [a] [] pos) (diR1 ua) := PI.weak (pi_range1 hg hm ha hs) fun σ H R h => by
  obtain ⟨δ, M, F, Rd, hE, s, hu, po⟩ := h
  refine ⟨δ, M, F, _, hE, s, hu, fun ds M1 F1 vs H1 q g s1 r => ?_⟩
  split at q
  · obtain ⟨v, e1, r1⟩ := r.one
    unfold Rp at r1
    subst r1
    exact ⟨_, e1, q.1, q.2.1, post_rng po q.2.2 g s1⟩
  · exact q.elim
theorem di_r2 (hg : Gl X "range") (hm : X.mg "range" = none) (ha : DA X [a, b] ua) (hs : starEach [a, b] X.env = [(false, eval a X.env), (false, eval b X.env)] := by rfl) (hs2 : starEach [b] X.env = [(false, eval b X.env)] := by rfl) : DI X tg (.Call (.Name "range" p) [a, b] [] pos) (diR2 ua) := PI.weak (pi_range2 hg hm ha hs hs2) fun σ H R h => by
  obtain ⟨δ, M, F, Rd, hE, s, hu, po⟩ := h
  refine ⟨δ, M, F, _, hE, s, hu, fun ds M1 F1 vs H1 q g s1 r => ?_⟩
  split at q
  · obtain ⟨v, u, e1, r1, r2⟩ := r.two
    unfold Rp at r1 r2
    subst r1 r2
    exact ⟨_, _, e1, q.1, post_rng po q.2 g s1⟩
  · exact q.elim
end
/-! a list, a tuple, a text -/
def iSeq (K : PySem.W.Frag) (tl : TE) : TI := fun σ H R => tl σ H fun x H1 => (∃ a, x = .ref a ∧ (((∃ xs, SqL K H1 a xs) ∧ R (Itl K a) H1) ∨ ((∃ xs, SqT K H1 a xs) ∧ R (Itt K a) H1))) ∨ ∃ z, x = .str z ∧ R (Its z) H1
theorem pi_seq {X : Cx} {tg l : Expr} {te : TE} (hl : PE X l te) : PI X tg l (iSeq X.K te) := by
  refine ⟨fun pins s σ H R I h => ?_⟩
  refine thn (hl.run pins s σ H _ I h) fun v s1 ⟨x, H1, I1, r1, q1⟩ => ?_
  rcases q1 with ⟨a, e, ⟨⟨xs, hq⟩, q⟩ | ⟨⟨xs, hq⟩, q⟩⟩ | ⟨z, e, q⟩
  · subst e
    cases r1
    obtain ⟨its, rv, p, hz⟩ := I1.list hq
    refine wpAny_pyIter_list p.isList ?_
    refine ⟨s1.heap.objs.size, [s1.heap.objs.size], _, _, H1, rfl, I1.kept (t' := s1.toks) fun b o e => Heap.get?_push_of_some _ e, turn_list a _, ⟨_, Heap.get?_push_size _ rfl, rfl, rfl⟩, fun b hb => ?_, q⟩
    have e : b = s1.heap.objs.size := by simpa using hb
    subst e
    exact I1.fpOk (Nat.le_refl _) (I1.hok.fresh (Nat.le_refl _))
  · subst e
    cases r1
    obtain ⟨its, rv, p, hz⟩ := I1.tuple hq
    refine wpAny_pyIter_tuple (show s1.heap.IsTuple a its.toArray from p) ?_
    refine ⟨s1.heap.objs.size, [s1.heap.objs.size], _, _, H1, rfl, I1.kept (t' := s1.toks) fun b o e => Heap.get?_push_of_some _ e, turn_tuple a _, ⟨_, Heap.get?_push_size _ rfl, rfl, rfl⟩, fun b hb => ?_, q⟩
    have e : b = s1.heap.objs.size := by simpa using hb
    subst e
    exact I1.fpOk (Nat.le_refl _) (I1.hok.fresh (Nat.le_refl _))
  · subst e
    obtain ⟨t, rfl⟩ := r1
    cases ha : z.cps.all (· < 128)
    · exact wpAny_pyIter_wide ha (pi_one (tk := s1.toks) I1 _ (turn_str _ z t "str_iterator" (.inr rfl)) ⟨_, Heap.get?_push_size _ rfl, rfl, rfl⟩ q)
    · exact wpAny_pyIter_ascii ha (pi_one (tk := s1.toks) I1 _ (turn_str _ z t "str_ascii_iterator" (.inl rfl)) ⟨_, Heap.get?_push_size _ rfl, rfl, rfl⟩ q)
/-- a list that may change: it must stand as it was at each turn -/
def diSeq (ue : DTE) : DTI := fun δ M R => ue δ M fun d M1 => match d with
  | .tup ds => R ds (fun _ => True) M1
  | .lst ds => R ds (fun _ => True) M1
  | .src ns => R (ns.map .int) (fun _ => True) M1
  | .str cs => R (cs.map fun c => .str [c]) (fun _ => True) M1
  | .ref a => match M1 a with
    | some (.lst ds) => R ds (fun M2 => M2 a = some (.lst ds)) M1
    | _ => False
  | _ => False
theorem di_seq {X : Cx} {tg e : Expr} {ue : DTE} (h : DE X e ue) : DI X tg e (diSeq ue) := PI.weak (pi_seq h) fun σ H R h => by
  obtain ⟨δ, M, F, Rd, hE, s, hu, po⟩ := h
  refine ⟨δ, M, F, _, hE, s, hu, fun d M1 F1 v H1 q g s1 r => ?_⟩
  have stay : ∀ {ds : List D} {xs : List V} {a : Addr} {g' : Mu → Prop}, Rd ds g' M1 → RpL X.K F1 ds xs → (∀ H2 F2 M2, Go H1 F1 M1 H2 F2 M2 → Sv X.K H2 F2 M2 → g' M2 → SqL X.K H2 a xs) → (∀ H2 F2 M2, Go H1 F1 M1 H2 F2 M2 → Sv X.K H2 F2 M2 → g' M2 → True) → SqL X.K H1 a xs → R (Itl X.K a) H1 := fun {ds xs a g'} q r hs _ h0 => by
    refine po ds g' M1 F1 H1 (Itl X.K a) (fun H => SqL X.K H a xs) (YAt xs) q g s1 (by rw [r.len]; exact walk_list) hs fun i H2 F2 M2 x H3 hi g2 s2 _ y => ?_
    obtain ⟨e1, e2⟩ := y
    subst e1
    obtain ⟨d, e3, r3⟩ := (r.mono g2.le).getV e2
    exact ⟨F2, s2, Go.refl, d, e3, r3⟩
  cases d with
  | tup ds =>
    unfold Rp at r
    obtain ⟨a, xs, e1, h1, r1⟩ := r
    subst e1
    refine .inl ⟨a, rfl, .inr ⟨⟨xs, s1.fh.sqT h1⟩, ?_⟩⟩
    refine po ds _ M1 F1 H1 (Itt X.K a) (fun H => SqT X.K H a xs) (YAt xs) q g s1 (by rw [r1.len]; exact walk_tup) (fun H2 F2 M2 g2 s2 _ => s2.fh.sqT (g2.le.sqT h1)) fun i H2 F2 M2 x H3 hi g2 s2 _ y => ?_
    obtain ⟨e1, e2⟩ := y
    subst e1
    obtain ⟨d, e3, r3⟩ := (r1.mono g2.le).getV e2
    exact ⟨F2, s2, Go.refl, d, e3, r3⟩
  | lst ds =>
    unfold Rp at r
    obtain ⟨a, xs, e1, h1, r1⟩ := r
    subst e1
    have hl : SqL X.K F1 a xs := .inl (.inl h1)
    exact .inl ⟨a, rfl, .inl ⟨⟨xs, s1.fh.sqL hl⟩, stay q r1 (fun H2 F2 M2 g2 s2 _ => s2.fh.sqL (g2.le.sqL hl)) (fun _ _ _ _ _ _ => trivial) (s1.fh.sqL hl)⟩⟩
  | src ns =>
    unfold Rp at r
    obtain ⟨a, e1, h1⟩ := r
    subst e1
    exact .inl ⟨a, rfl, .inl ⟨⟨_, s1.fh.sqL h1⟩, stay q RpL.ints (fun H2 F2 M2 g2 s2 _ => s2.fh.sqL (g2.le.sqL h1)) (fun _ _ _ _ _ _ => trivial) (s1.fh.sqL h1)⟩⟩
  | str cs =>
    unfold Rp at r
    subst r
    refine .inr ⟨_, rfl, ?_⟩
    refine po _ _ M1 F1 H1 (Its (mkS cs)) (fun _ => True) _ q g s1 (by rw [List.length_map]; exact walk_str) (fun _ _ _ _ _ _ => trivial) fun i H2 F2 M2 x H3 hi g2 s2 _ y => ?_
    obtain ⟨e1, c, e2, e3⟩ := y
    subst e1 e3
    refine ⟨F2, s2, Go.refl, .str [c], ?_, by unfold Rp; rfl⟩
    rw [List.getElem?_map]
    have e4 : cs[i]? = some c := by simpa [mkS] using e2
    rw [e4]
    rfl
  | ref a =>
    unfold Rp at r
    subst r
    have q' : (match M1 a with | some (.lst ds) => Rd ds (fun M2 => M2 a = some (.lst ds)) M1 | _ => False) := q
    split at q'
    · rename_i ds e
      obtain ⟨ho, e2, xs, e3, r2⟩ := s1.mu a _ e
      subst e3
      refine .inl ⟨a, rfl, .inl ⟨⟨xs, .inl (.inl e2)⟩, ?_⟩⟩
      have w : Walk (Itl X.K a) ds.length (fun H => ∃ ys, SqL X.K H a ys ∧ ys.length = ds.length) (fun i H x H' => H' = H ∧ ∀ ys, SqL X.K H a ys → ys[i]? = some x) :=
        ⟨fun i _ hi ⟨ys, h1, h2⟩ => ⟨ys, ys[i]'(by omega), h1, by simp [show i < ys.length by omega]⟩, fun _ ⟨ys, h1, h2⟩ => ⟨ys, h1, by omega⟩, fun _ _ _ _ _ _ y => y⟩
      refine po ds _ M1 F1 H1 (Itl X.K a) _ _ q' g s1 w (fun H2 F2 M2 g2 s2 e4 => ?_) fun i H2 F2 M2 x H3 hi g2 s2 e4 y => ?_
      · obtain ⟨ho, e5, ys, e6, r6⟩ := s2.mu a _ e4
        subst e6
        exact ⟨ys, .inl (.inl e5), r6.len.symm⟩
      · obtain ⟨ho, e5, ys, e6, r6⟩ := s2.mu a _ e4
        subst e6
        obtain ⟨e1, e7⟩ := y
        subst e1
        obtain ⟨d, e3, r3⟩ := r6.getV (e7 ys (.inl (.inl e5)))
        exact ⟨F2, s2, Go.refl, d, e3, r3⟩
    · exact q'.elim
  | _ => exact q.elim

/-! ### for -/
def dForGo (g : Mu → Prop) (tg : DTg) (b : DTS) (E : DEnds) : List D → DEnv → Mu → Prop
  | [], δ, M => g M ∧ E.nx δ M
  | x :: xs, δ, M => g M ∧ tg x δ M fun δ' M' => b { E with nx := dForGo g tg b E xs, ct := dForGo g tg b E xs, bk := E.nx } δ' M'
def dFor (di : DTI) (tg : DTg) (b : DTS) : DTS := fun D δ M => di δ M fun ds g M1 => dForGo g tg b D ds δ M1
theorem drop_at {α : Type} {l : List α} {i : Nat} {d : α} (h : l[i]? = some d) : l.drop i = d :: l.drop (i + 1) := by
  obtain ⟨h1, h2⟩ := List.getElem?_eq_some_iff.mp h
  rw [List.drop_eq_getElem_cons h1, h2]
theorem ds_for {X : Cx} {tg iter : Expr} {body : List Stmt} {di : DTI} {g : TG} {dg : DTg} {tb : DTS} {vs : List Nat} {pos : Pos} (hp : PassesOwn (model X.prog X.w) X.A X.env X.xe) (hc : X.calm = true) (hi : DI X tg iter di) (hg : PG X tg g) (hr : RelG X.K vs g dg) (hb : DSs X body tb)
    (hs : ∀ x, foldedSetIterable iter X.env x = pure x := by intro _; rfl) : DS X (.For tg iter body [] pos) (dFor di dg tb) := PS.weak (ps_for hp hc hi hg hb hs) fun D σ H h => by
  obtain ⟨δ, M, F, Dd, hE, s, hu, p⟩ := h
  refine ⟨δ, M, F, _, hE, s, hu, fun ds gd M1 F1 H1 J G Y q g1 s1 w hG hY => ?_⟩
  refine for_it w (fun i σ' H' => ∃ δ' M' F', dForGo gd dg tb Dd (ds.drop i) δ' M' ∧ ERel X.K F' δ' σ' ∧ Sv X.K H' F' M' ∧ Go H1 F1 M1 H' F' M') ⟨δ, M1, F1, q, hE.mono g1.le, s1, Go.refl⟩ ?_ ?_ ?_
  · rintro i σ' H' hi ⟨δ', M', F', q', e', s', g'⟩
    refine hG H' F' M' g' s' ?_
    cases hd : ds.drop i with
    | nil => rw [hd] at q'; exact q'.1
    | cons x xs => rw [hd] at q'; exact q'.1
  · rintro i x σ' H' H2 hi ⟨δ', M', F', q', e', s', g'⟩ y
    have hgd : gd M' := by
      cases hd : ds.drop i with
      | nil => rw [hd] at q'; exact q'.1
      | cons x xs => rw [hd] at q'; exact q'.1
    obtain ⟨F2, s2, g2, d, e2, r2⟩ := hY i H' F' M' x H2 hi g' s' hgd y
    rw [drop_at e2] at q'
    refine hr d x δ' σ' σ' H2 F2 M' _ _ r2 (e'.mono g2.le) s2 q'.2 (fun δ3 M3 F3 σ3 H3 q3 g3 s3 e3 _ => ?_) rfl
    have gg := (g'.trans g2).trans g3
    refine ⟨δ3, M3, F3, _, e3, s3, q3, ⟨?_, p.rt.go (g1.trans gg), p.nx.go (g1.trans gg), ?_⟩⟩
    · intro δ4 M4 F4 σ4 H4 q4 g4 s4 e4
      exact ⟨δ4, M4, F4, q4, e4, s4, gg.trans g4⟩
    · intro δ4 M4 F4 σ4 H4 q4 g4 s4 e4
      exact ⟨δ4, M4, F4, q4, e4, s4, gg.trans g4⟩
  · rintro σ' H' ⟨δ', M', F', q', e', s', g'⟩
    rw [List.drop_length] at q'
    exact p.nx _ _ _ _ _ q'.2 (g1.trans g') s' e'

/-! ### comprehensions -/
def dwipe (δ : DEnv) : List Nat → DEnv
  | [] => δ
  | v :: vs => (dwipe δ vs).set v none
theorem ERel.setN {K : PySem.W.Frag} {F : Hp} {δ : DEnv} {σ : L2.St} {i : Nat} (h : ERel K F δ σ) : ERel K F (δ.set i none) (σ.set i none) := by
  refine ⟨by rw [List.length_set, List.length_set]; exact h.1, fun j e hj => ?_⟩
  by_cases hji : i = j
  · subst hji
    by_cases hl : i < δ.length
    · rw [List.getElem?_set_self hl] at hj; cases hj
    · rw [List.getElem?_eq_none (by rw [List.length_set]; omega)] at hj; cases hj
  · rw [List.getElem?_set_ne hji] at hj ⊢
    exact h.2 j e hj
theorem ERel.wipe {K : PySem.W.Frag} {F : Hp} {δ : DEnv} {σ : L2.St} (h : ERel K F δ σ) : ∀ vs : List Nat, ERel K F (dwipe δ vs) (L2.wipe σ vs)
  | [] => h
  | v :: vs => (ERel.wipe h vs).setN
def dLcGo (g : Mu → Prop) (tg : DTg) (tt : DTT) (te : DTE) (δw : DEnv) : List D → List D → Mu → (List D → Mu → Prop) → Prop
  | [], acc, M, Q => g M ∧ Q acc M
  | x :: xs, acc, M, Q => g M ∧ tg x δw M fun δ' M' => tt δ' M' fun b M1 => match b with
    | true => te δ' M1 fun y M2 => acc.length < sizeLine ∧ dLcGo g tg tt te δw xs (acc ++ [y]) M2 Q
    | false => dLcGo g tg tt te δw xs acc M1 Q
def dLc (mu : Bool) (di : DTI) (tg : DTg) (tt : DTT) (te : DTE) (vs : List Nat) : DTE := fun δ M Q => di δ M fun ds g M1 => dLcGo g tg tt te (dwipe δ vs) ds [] M1 fun acc M2 => dNew mu acc M2 Q
def dYes : DTT := fun _ M Q => Q true M
abbrev DPs (X : Cx) (ifs : List Expr) (t : DTT) : Prop := PTs X ifs (liftT X.K t)
theorem dps_nil {X : Cx} : DPs X [] dYes := ⟨fun pins s σ H Q I h => by
  obtain ⟨δ, M, F, Qd, hE, sv, hu, p⟩ := h
  exact pts_nil.run pins s σ H Q I (p _ _ _ _ hu Go.refl sv)⟩
theorem dps_one {X : Cx} {c : Expr} {t : DTT} (h : DT X c t) : DPs X [c] t := pts_one h
theorem lc_rel {K : PySem.W.Frag} {mu : Bool} {di : DTI} {g : TG} {dg : DTg} {tt : DTT} {te : DTE} {vs : List Nat} (hr : RelG K vs g dg) : ∀ σ H Q, lift K (dLc mu di dg tt te vs) σ H Q → tLc (liftI K di) g (liftT K tt) (lift K te) vs σ H Q := fun σ H Q h => by
  obtain ⟨δ, M, F, Qd, hE, s, hu, p⟩ := h
  refine ⟨δ, M, F, _, hE, s, hu, fun ds gd M1 F1 H1 J G Y q g1 s1 w hG hY => ?_⟩
  intro D hD
  have fr := s1.fresh hD
  -- the list that is made: hidden
  have s1' : Sv K (upd H1 D (.lst [])) F1 M1 := by
    refine ⟨fun b o e => ?_, s1.fm, fun a o e => ?_⟩
    · rw [upd_ne (ne_of_none e fr.1)]; exact s1.fh b o e
    · obtain ⟨ho, e2, r2⟩ := s1.mu a o e
      exact ⟨ho, by rw [upd_ne (ne_of_none e2 hD)]; exact e2, r2⟩
  have g1' : Go H1 F1 M1 (upd H1 D (.lst [])) F1 M1 := ⟨Le.refl _, fun b o e m => ⟨by rw [upd_ne (ne_of_none e hD)]; exact e, m, fun z => z⟩⟩
  refine lc_it w (fun i H' => ∃ M' F' acc xs, dLcGo gd dg tt te (dwipe δ vs) (ds.drop i) acc M' (fun acc M2 => dNew mu acc M2 Qd) ∧ Sv K H' F' M' ∧ Go H1 F1 M1 H' F' M' ∧ H' D = some (.lst xs) ∧ M' D = none ∧ F' D = none ∧ RpL K F' acc xs)
    ⟨M1, F1, [], [], q, s1', g1', upd_same, fr.2, fr.1, RpL.nil⟩ ?_ ?_ ?_
  · rintro i H' hi ⟨M', F', acc, xs, q', s', g', eD, mD, fD, r⟩
    refine hG H' F' M' g' s' ?_
    cases hd : ds.drop i with
    | nil => rw [hd] at q'; exact q'.1
    | cons x xs => rw [hd] at q'; exact q'.1
  · rintro i x H' H2 hi ⟨M', F', acc, xs, q', s', g', eD, mD, fD, r⟩ y
    have hgd : gd M' := by
      cases hd : ds.drop i with
      | nil => rw [hd] at q'; exact q'.1
      | cons x xs => rw [hd] at q'; exact q'.1
    obtain ⟨F2, s2, g2, d, e2, r2⟩ := hY i H' F' M' x H2 hi g' s' hgd y
    rw [drop_at e2] at q'
    have ew : ERel K F2 (dwipe δ vs) (L2.wipe σ vs) := (hE.mono (g1.le.trans (g'.le.trans g2.le))).wipe vs
    refine hr d x _ _ (L2.wipe σ vs) H2 F2 M' _ _ r2 ew s2 q'.2 (fun δ3 M3 F3 σ3 H3 q3 g3 s3 e3 w3 => ⟨?_, ?_⟩) rfl
    · rw [w3]
      clear q q' hG hY
      refine List.ext_getElem? fun j => ?_
      by_cases hj : j ∈ vs
      · by_cases hl : j < σ.length
        · rw [wipe_in hj (by rw [wipe_length]; exact hl), wipe_in hj hl]
        · rw [List.getElem?_eq_none (by rw [wipe_length, wipe_length]; omega), List.getElem?_eq_none (by rw [wipe_length]; omega)]
      · rw [wipe_out hj]
    · refine ⟨δ3, M3, F3, _, e3, s3, q3, fun b M4 F4 H4 q4 g4 s4 => ?_⟩
      cases b with
      | false =>
        rw [if_neg Bool.false_ne_true]
        have gg := (g2.trans g3).trans g4
        obtain ⟨h1, h2, h3⟩ := gg.kp D _ eD mD
        exact ⟨M4, F4, acc, xs, q4, s4, g'.trans gg, h1, h2, h3 fD, r.mono gg.le⟩
      | true =>
        rw [if_pos rfl]
        refine ⟨δ3, M4, F4, _, e3.mono g4.le, s4, q4, fun z M5 F5 v H5 q5 g5 s5 r5 => ?_⟩
        have gg := ((g2.trans g3).trans g4).trans g5
        obtain ⟨h1, h2, h3⟩ := gg.kp D _ eD mD
        have rr := r.mono gg.le
        have hD5 : H1 D = none := hD
        have g6 := g'.trans gg
        refine ⟨xs, h1, by rw [← r.len]; exact q5.1, M5, F5, acc ++ [z], xs ++ [v], q5.2, ?_, ?_, upd_same, h2, h3 fD, rr.snoc r5⟩
        · refine ⟨fun b o e => ?_, s5.fm, fun a o e => ?_⟩
          · rw [upd_ne (fun z => by rw [z, h3 fD] at e; cases e)]; exact s5.fh b o e
          · obtain ⟨ho, e2, r2⟩ := s5.mu a o e
            exact ⟨ho, by rw [upd_ne (fun z => by rw [z, h2] at e; cases e)]; exact e2, r2⟩
        · refine ⟨g6.le, fun b o e m => ?_⟩
          obtain ⟨k1, k2, k3⟩ := g6.kp b o e m
          exact ⟨by rw [upd_ne (ne_of_none e hD5)]; exact k1, k2, k3⟩
  · rintro H' ⟨M', F', acc, xs, q', s', g', eD, mD, fD, r⟩
    rw [List.drop_length] at q'
    have po := p.go g1
    have q2 := q'.2
    have nD : ∀ b o, H1 b = some o → b ≠ D := fun b o e => ne_of_none e hD
    cases mu with
    | false =>
      have l : Le F' (upd F' D (.lst xs)) := Le.new fD
      refine po _ M' (upd F' D (.lst xs)) _ _ q2 ⟨g'.le.trans l, fun b o e m => ?_⟩ ⟨fun b o e => ?_, fun b o e => ?_, fun a o e => ?_⟩ ?_
      · obtain ⟨k1, k2, k3⟩ := g'.kp b o e m
        exact ⟨k1, k2, fun z => by rw [upd_ne (nD b o e)]; exact k3 z⟩
      · by_cases hb : b = D
        · subst hb; rw [upd_same] at e; cases e; exact eD
        · rw [upd_ne hb] at e; exact s'.fh b o e
      · by_cases hb : b = D
        · subst hb; exact mD
        · rw [upd_ne hb] at e; exact s'.fm b o e
      · obtain ⟨ho, e2, r2⟩ := s'.mu a o e
        exact ⟨ho, e2, r2.mono l⟩
      · unfold Rp
        exact ⟨D, xs, rfl, upd_same, r.mono l⟩
    | true =>
      refine po _ (mset M' D (.lst acc)) F' _ _ (q2 D mD) ⟨g'.le, fun b o e m => ?_⟩ ⟨s'.fh, fun b o e => ?_, fun a o e => ?_⟩ (by unfold Rp; rfl)
      · obtain ⟨k1, k2, k3⟩ := g'.kp b o e m
        exact ⟨k1, by rw [mset_ne (nD b o e)]; exact k2, k3⟩
      · rw [mset_ne (fun z => by rw [z, fD] at e; cases e)]; exact s'.fm b o e
      · by_cases ha : a = D
        · subst ha
          rw [mset_same] at e
          cases e
          exact ⟨_, eD, xs, rfl, r⟩
        · rw [mset_ne ha] at e
          exact s'.mu a o e
section
variable {X : Cx} {elt tg iter : Expr} {ifs : List Expr} {scope : Scope} {own : List (Str × Nat)} {pos : Pos} {di : DTI} {g : TG} {dg : DTg} {tt : DTT} {te : DTE}
theorem de_lc (mu : Bool) (hc : X.calm = true) (hN : X.N.Nodup) (hi : DI X tg iter di) (ok : BlkOk X.N X.env.scope scope own) (hr : RelG X.K (own.map (·.2)) g dg)
    (hg : ∀ (s : Shared) (H : Hp) (C : Addr) (cl : List (Str × Addr)) (fp : List Addr), PG (X.blk s H scope (compEnvC scope cl C X.env) fp) tg g) (ht : ∀ (s : Shared) (H : Hp) (C : Addr) (cl : List (Str × Addr)) (fp : List Addr), DPs (X.blk s H scope (compEnvC scope cl C X.env) fp) ifs tt)
    (he : ∀ (s : Shared) (H : Hp) (C : Addr) (cl : List (Str × Addr)) (fp : List Addr), DE (X.blk s H scope (compEnvC scope cl C X.env) fp) elt te) (hs : ∀ x, foldedSetIterable iter X.env x = pure x := by intro _; rfl) :
    DE X (.ListComp elt [⟨tg, iter, ifs, 0⟩] scope pos) (dLc mu di dg tt te (own.map (·.2))) := PE.weak (pe_lc hc hN hi ok hg ht he hs) (lc_rel hr)
theorem ds_setLc (mu : Bool) {i : Nat} {y : Str} {py : Pos} {spos : Pos} (hc : X.calm = true) (hN : X.N.Nodup) (hi : DI X tg iter di) (ok : BlkOk X.N X.env.scope scope own) (hr : RelG X.K (own.map (·.2)) g dg)
    (hg : ∀ (s : Shared) (H : Hp) (C : Addr) (cl : List (Str × Addr)) (fp : List Addr), PG (X.blk s H scope (compEnvC scope cl C X.env) fp) tg g) (ht : ∀ (s : Shared) (H : Hp) (C : Addr) (cl : List (Str × Addr)) (fp : List Addr), DPs (X.blk s H scope (compEnvC scope cl C X.env) fp) ifs tt)
    (he : ∀ (s : Shared) (H : Hp) (C : Addr) (cl : List (Str × Addr)) (fp : List Addr), DE (X.blk s H scope (compEnvC scope cl C X.env) fp) elt te)
    (hsw : swapsWith (.ListComp elt [⟨tg, iter, ifs, 0⟩] scope pos) (some (.Name y py)) spos.line X.env = pure true) (hy : X.N[i]? = some y := by rfl) (hyl : X.env.scope.names.lookup y = some .local := by rfl) (hs : ∀ x, foldedSetIterable iter X.env x = pure x := by intro _; rfl) :
    DS X (.Assign [.Name y py] (.ListComp elt [⟨tg, iter, ifs, 0⟩] scope pos) spos) (dAs (dLc mu di dg tt te (own.map (·.2))) (dgN i)) := PS.weak (ps_setLc hc hN hy hyl hsw hi ok hg ht he hs) fun D σ H h => by
  obtain ⟨δ, M, F, Dd, hE, s, hu, p⟩ := h
  exact lc_rel hr σ H _ ⟨δ, M, F, _, hE, s, hu, fun d M' F' v H' q g s' r => p.nx _ _ _ _ _ q g s' ((hE.mono g.le).set r)⟩
end

/-! ### defs -/
structure DX where
  cls : Addr
  fs : List (Str × D)
abbrev DXK := DX → Mu → Prop
abbrev DSp := List D → Mu → DK → DXK → Prop
def RpX (K : PySem.W.Frag) (F : Hp) (H : Hp) (M : Mu) (x : DX) (d : Option Addr) : Prop := match x.fs with
  | [] => d = none
  | fs => ∃ a vs, d = some a ∧ H a = some (.xd vs) ∧ M a = none ∧ fs.map (·.1) = vs.map (·.1) ∧ RpL K F (fs.map (·.2)) (vs.map (·.2))
def PostX (K : PySem.W.Frag) (H F : Hp) (M : Mu) (Ed : DXK) (E : XK) : Prop := ∀ x M' F' d H', Ed x M' → Go H F M H' F' M' → Sv K H' F' M' → RpX K F' H' M' x d → E (.ref x.cls) d H'
theorem PostX.go {K : PySem.W.Frag} {H F H1 F1 : Hp} {M M1 : Mu} {Ed : DXK} {E : XK} (p : PostX K H F M Ed E) (g : Go H F M H1 F1 M1) : PostX K H1 F1 M1 Ed E := fun x M' F' d H' q g' s r => p x M' F' d H' q (g.trans g') s r
abbrev dX0 : DXK := fun _ _ => False
theorem post0 {K : PySem.W.Frag} {H F : Hp} {M : Mu} {E : XK} : PostX K H F M dX0 E := fun _ _ _ _ _ q _ _ _ => q.elim
def liftSp (K : PySem.W.Frag) (sp : DSp) : Sp := fun vs H Q E => ∃ ds M F Qd Ed, RpL K F ds vs ∧ Sv K H F M ∧ sp ds M Qd Ed ∧ Post K H F M Qd Q ∧ PostX K H F M Ed E
/-- a call of a def whose promise is sp; ds: the defaults that fill up -/
def dCall (sp : DSp) (dds : List D) (E : DXK) (ua : DTA) : DTE := fun δ M Q => ua δ M fun ds M1 => sp (ds ++ dds) M1 Q E
section
variable {X : Cx} {CX : CXT} {k : Nat} {f : Addr} {fd : FuncData} {ps : List Str} {sp : DSp} {dvs : List V} {dds : List D} {ds : List Value} {x : Str} {p pos : Pos} {e : Expr} {es : List Expr} {ua : DTA}
theorem call_rel (hd : ∀ F, RpL X.K F dds dvs) : ∀ σ H Q, lift X.K (dCall sp dds dX0 ua) σ H Q → tCall (liftSp X.K sp) dvs E0 (liftA X.K ua) σ H Q := fun σ H Q h => by
  obtain ⟨δ, M, F, Qd, hE, s, hu, p⟩ := h
  exact ⟨δ, M, F, _, hE, s, hu, fun ds M1 F1 vs H1 q g s1 r => ⟨_, M1, F1, Qd, dX0, r.app (hd F1), s1, q, p.go g, post0⟩⟩
/-- f(e, ..), nothing is raised -/
theorem de_call (F : FnOk X.prog X.w X.K X.mg X.base CX0 k f fd ps (liftSp X.K sp)) (hr : Room k X.A) (hm : X.mg x = some (.ref f)) (hk : PySem.W.keepIn X.K (.ref f) = true) (hb : Binds X.K fd ps ds) (hd : Vals dvs ds) (hdd : ∀ F, RpL X.K F dds dvs)
    (ha : DA X (e :: es) ua) (hg : Gl X x := by rfl) (hdb : (x == ("__debug__" : Str)) = false := by decide) (he : starEach (e :: es) X.env = (false, eval e X.env) :: starEach es X.env := by rfl) (hpl : (backTo pos (starEach es X.env)).any (·.1) = false := by rfl) :
    DE X (.Call (.Name x p) (e :: es) [] pos) (dCall sp dds dX0 ua) := PE.weak (pe_call F hr hg hm hk hb hd pass0 ha hdb he hpl) (call_rel hdd)
theorem de_call0 (F : FnOk X.prog X.w X.K X.mg X.base CX0 k f fd ps (liftSp X.K sp)) (hr : Room k X.A) (hm : X.mg x = some (.ref f)) (hk : PySem.W.keepIn X.K (.ref f) = true) (hb : Binds X.K fd ps ds) (hd : Vals dvs ds) (hdd : ∀ F, RpL X.K F dds dvs)
    (hg : Gl X x := by rfl) (hdb : (x == ("__debug__" : Str)) = false := by decide) :
    DE X (.Call (.Name x p) [] [] pos) (dCall sp dds dX0 dNil) := PE.weak (pe_call0 F hr hg hm hk hb hd pass0 hdb) fun σ H Q h => by
  obtain ⟨δ, M, F, Qd, hE, s, hu, p⟩ := call_rel hdd σ H Q h
  exact p _ _ _ _ _ hu Go.refl s RpL.nil
end
/-- what a def's body is to reach -/
def dEnd (Q : DK) : DEnds := { nx := fun _ M => Wq Q .non M, rt := Wq Q }
def dstart (n : Nat) (ds : List D) : DEnv := ds.map some ++ List.replicate (n - ds.length) none
/-- THE RULE: a def that raises nothing, by its body's reading t -/
theorem dfn {P : Program} {w : World} {K : PySem.W.Frag} {mg : Str → Option Value} {base : Heap} {x qual : Str} {params : Arguments} {body : List Stmt} {scope : Scope} {dvs : List V} {kws : List (Str × V)} {f : Addr} {fd : FuncData} {N ps : List Str} {k : Nat} {sp : DSp} {t : DTS}
    (Fd : FunD K x qual params body scope dvs kws f fd) (S : FnScope N ps scope) (len : ∀ ds M Q E, sp ds M Q E → ds.length = ps.length)
    (hb : ∀ (cdv : Value) (A : Around) (outer : List Env) (s : Shared) (H : Hp) (E : XK), Room k (A.deeper (envOfC qual scope s.heap.objs.size f cdv)) → DSs (cxOf CX0 P w K mg base N qual scope f cdv A outer s H E).nox body t)
    (hs : ∀ ds M Q E, sp ds M Q E → t (dEnd Q) (dstart N.length ds) M) : FnOk P w K mg base CX0 (k + 1) f fd ps (liftSp K sp) := by
  refine Fd.ok S (fun vs H Q E h => ?_) (fun cdv A outer s H vs Q E hr h => ⟨liftS K t, PSs.nox (hb cdv A outer s H E hr), ?_⟩)
  · obtain ⟨ds, M, F, Qd, Ed, r, _, h, _⟩ := h
    rw [← r.len]
    exact len _ _ _ _ h
  · obtain ⟨ds, M, F, Qd, Ed, r, sv, h, po, px⟩ := h
    refine ⟨dstart N.length ds, M, F, dEnd Qd, ?_, sv, hs ds M Qd Ed h, ⟨?_, po.wq, fun _ _ _ _ _ q => q.elim, fun _ _ _ _ _ q => q.elim⟩⟩
    · exact ERel.start r
    · intro δ' M' F' σ' H' q g s' e
      exact po.wq _ _ _ _ _ q g s' (by unfold Rp; rfl)
end DL

namespace DL
open PySem PySem.Spec PyProof.Rows L2 TL

/-! ### defs and constants of the module by their names -/
/-- the def x stands there, as the text says -/
def DefAt (K : PySem.W.Frag) (mg : Str → Option Value) (x : Str) (st : Stmt) : Prop := ∃ f fd, FunD K x x (defArgs st) (defBody st) (defScope st) [] [] f fd ∧ mg x = some (.ref f)
/-- the def x may be called with this promise -/
def Cal (P : Program) (w : World) (K : PySem.W.Frag) (mg : Str → Option Value) (base : Heap) (k : Nat) (x : Str) (ps : List Str) (sp : DSp) : Prop :=
  ∃ f fd, FnOk P w K mg base CX0 k f fd ps (liftSp K sp) ∧ mg x = some (.ref f) ∧ PySem.W.keepIn K (.ref f) = true ∧ Binds K fd ps []
theorem Cal.mono {P : Program} {w : World} {K : PySem.W.Frag} {mg : Str → Option Value} {base : Heap} {j k : Nat} {x : Str} {ps : List Str} {sp : DSp} (c : Cal P w K mg base j x ps sp) (h : j ≤ k) : Cal P w K mg base k x ps sp := by
  obtain ⟨f, fd, F, m, kp, b⟩ := c
  exact ⟨f, fd, F.mono h, m, kp, b⟩
/-- a weaker promise -/
theorem Cal.imp {P : Program} {w : World} {K : PySem.W.Frag} {mg : Str → Option Value} {base : Heap} {k : Nat} {x : Str} {ps : List Str} {sp sp' : DSp} (c : Cal P w K mg base k x ps sp) (h : ∀ ds M Q E, sp' ds M Q E → sp ds M Q E) : Cal P w K mg base k x ps sp' := by
  obtain ⟨f, fd, F, m, kp, b⟩ := c
  refine ⟨f, fd, F.imp fun vs H Q E q => ?_, m, kp, b⟩
  obtain ⟨ds, M, F, Qd, Ed, r, s, q, p1, p2⟩ := q
  exact ⟨ds, M, F, Qd, Ed, r, s, h _ _ _ _ q, p1, p2⟩
section
variable {X : Cx} {k : Nat} {ps : List Str} {sp : DSp} {x : Str} {p pos : Pos} {e : Expr} {es : List Expr} {ua : DTA}
theorem de_cal (C : Cal X.prog X.w X.K X.mg X.base k x ps sp) (hr : Room k X.A) (ha : DA X (e :: es) ua) (hg : Gl X x := by rfl) (hdb : (x == ("__debug__" : Str)) = false := by decide)
    (he : starEach (e :: es) X.env = (false, eval e X.env) :: starEach es X.env := by rfl) (hpl : (backTo pos (starEach es X.env)).any (·.1) = false := by rfl) : DE X (.Call (.Name x p) (e :: es) [] pos) (dCall sp [] dX0 ua) := by
  obtain ⟨f, fd, F, m, kp, b⟩ := C
  exact de_call F hr m kp b .nil (fun _ => RpL.nil) ha hg hdb he hpl
theorem de_cal0 (C : Cal X.prog X.w X.K X.mg X.base k x ps sp) (hr : Room k X.A) (hg : Gl X x := by rfl) (hdb : (x == ("__debug__" : Str)) = false := by decide) : DE X (.Call (.Name x p) [] [] pos) (dCall sp [] dX0 dNil) := by
  obtain ⟨f, fd, F, m, kp, b⟩ := C
  exact de_call0 F hr m kp b .nil (fun _ => RpL.nil) hg hdb
end
/-- THE RULE -/
theorem cal_of {P : Program} {w : World} {K : PySem.W.Frag} {mg : Str → Option Value} {base : Heap} {x : Str} {st : Stmt} {N ps : List Str} {k : Nat} {sp : DSp} {t : DTS} (d : DefAt K mg x st) (S : FnScope N ps (defScope st))
    (len : ∀ ds M Q E, sp ds M Q E → ds.length = ps.length)
    (hbind : ∀ (kV doc pm : Value) (an : Option Addr) (cdv ct : Value) (us : List Value), us.length = ps.length → bindArgs (PySem.W.fnOf x x (defArgs st) (defBody st) (defScope st) .none kV doc pm an cdv ct) ⟨us, []⟩ = pure (ps.zip us))
    (hb : ∀ (f : Addr) (cdv : Value) (A : Around) (outer : List Env) (s : Shared) (H : Hp) (E : XK), Room k (A.deeper (envOfC x (defScope st) s.heap.objs.size f cdv)) → DSs (cxOf CX0 P w K mg base N x (defScope st) f cdv A outer s H E).nox (defBody st) t)
    (hs : ∀ ds M Q E, sp ds M Q E → t (dEnd Q) (dstart N.length ds) M) : Cal P w K mg base (k + 1) x ps sp := by
  obtain ⟨f, fd, F, m⟩ := d
  exact ⟨f, fd, dfn F S len (hb f) hs, m, F.kp, F.bindsN hbind⟩
/-- a constant of the module -/
def GC (K : PySem.W.Frag) (mg : Str → Option Value) (x : Str) (d : D) : Prop := ∃ u v, mg x = some u ∧ RelV v u ∧ ∀ F, Rp K F d v
theorem de_gc {X : Cx} {x : Str} {pos : Pos} {d : D} (c : GC X.K X.mg x d) (hg : Gl X x := by rfl) (hd : (x == ("__debug__" : Str)) = false := by decide) : DE X (.Name x pos) (dC d) := by
  obtain ⟨u, v, m, r, rp⟩ := c
  exact de_glob hg m r rp hd
/-- an entry of a dict of the module -/
def GD (K : PySem.W.Frag) (mg : Str → Option Value) (w : World) (x key : Str) (d : D) : Prop := ∃ a v, mg x = some (.ref a) ∧ KDct K w a key v ∧ ∀ F, Rp K F d v
theorem de_gd {X : Cx} {x key : Str} {pos p kp : Pos} {j : Nat} {d : D} (c : GD X.K X.mg X.w x key d) (hg : Gl X x := by rfl) (hd : (x == ("__debug__" : Str)) = false := by decide) (hs : PlainIx (.Constant (.str key) j kp) := by intro _ _; rfl) :
    DE X (.Subscript (.Name x p) (.Constant (.str key) j kp) pos) (dC d) := by
  obtain ⟨a, v, m, kd, rp⟩ := c
  refine PE.weak (pe_ix ix_kdict (pe_glob (v := .ref a) hg m rfl hd) pe_str hs) fun σ H Q h => ?_
  obtain ⟨δ, M, F, Qd, hE, s, hu, po⟩ := h
  exact ⟨a, key, v, rfl, rfl, kd, po.fin s hu (rp F)⟩
theorem gc_str {K : PySem.W.Frag} {mg : Str → Option Value} {x z : Str} {cs : List Nat} {t : Tok} (h : mg x = some (.str z t)) (e : z = mkS cs) : GC K mg x (.str cs) := ⟨_, .str z, h, ⟨t, rfl⟩, fun F => by unfold Rp; rw [e]⟩
/-! ### bit_length -/
def dBits (uo : DTE) : DTE := fun δ M Q => uo δ M fun d M1 => match d with
  | .int i => Q (.int (Builtin.Int.intBits i : Nat)) M1
  | _ => False
theorem de_bits {X : Cx} {o : Expr} {uo : DTE} {apos pos : Pos} (ho : DE X o uo) (hbase : attributeBase o "bit_length" X.env (eval o X.env) = eval o X.env := by rfl) (hline : (apos.endLine == pos.line) = true := by rfl) : DE X (.Call (.Attribute o "bit_length" apos) [] [] pos) (dBits uo) := PE.weak (pe_bits ho hbase hline) fun σ H Q h => by
  obtain ⟨δ, M, F, Qd, hE, s, hu, po⟩ := h
  refine ⟨δ, M, F, _, hE, s, hu, fun d M1 F1 v H1 q g s1 r => ?_⟩
  cases d <;> first | exact False.elim q | skip
  unfold Rp at r
  subst r
  exact ⟨_, rfl, po _ _ _ _ _ q g s1 (by unfold Rp; rfl)⟩
/-! ### e.replace of written texts, where a token has been given out -/
open CwR PySem.StrLaws
def dRepl (uo : DTE) (y z : List Nat) : DTE := fun δ M Q => uo δ M fun d M1 => match d with
  | .str cs => cs.length + (cs.length + 1) * z.length ≤ 16777216 ∧ Q (.str (replL y z cs)) M1
  | _ => False
abbrev DET (X : Cx) (e : Expr) (u : DTE) : Prop := PET X e (lift X.K u)
abbrev DSsT (X : Cx) (s : List Stmt) (u : DTS) : Prop := PSsT X s (liftS X.K u)
theorem PET.weak {X : Cx} {e : Expr} {t t' : TE} (h : PET X e t) (i : ∀ σ H Q, t' σ H Q → t σ H Q) : PET X e t' := fun pins s σ H Q h0 I q => h pins s σ H Q h0 I (i _ _ _ q)
theorem PST.weak {X : Cx} {e : Stmt} {t t' : TS} (h : PST X e t) (i : ∀ D σ H, t' D σ H → t D σ H) : PST X e t' := fun pins s σ H D h0 I q => h pins s σ H D h0 I (i _ _ _ q)
theorem det_repl {X : Cx} {o : Expr} {uo : DTE} {j k : Nat} {c0 c1 apos pos : Pos} {y z : Str} (ys zs : List Nat) (ho : DE X o uo) (hy : y = mkS ys := by decide +kernel) (hz : z = mkS zs := by decide +kernel) (hne : 1 ≤ ys.length := by decide) (hyz : (y == z) = false := by decide +kernel)
    (hst : starEach [.Constant (.str y) j c0, .Constant (.str z) k c1] X.env = [(false, eval (.Constant (.str y) j c0) X.env), (false, eval (.Constant (.str z) k c1) X.env)] := by rfl)
    (hbase : attributeBase o "replace" X.env (eval o X.env) = eval o X.env := by rfl) (hline : (apos.endLine == pos.line) = true := by rfl) :
    DET X (.Call (.Attribute o "replace" apos) [.Constant (.str y) j c0, .Constant (.str z) k c1] [] pos) (dRepl uo ys zs) := PET.weak (pet_replC ho hyz hst hbase hline) fun σ H Q h => by
  obtain ⟨δ, M, F, Qd, hE, s, hu, po⟩ := h
  refine ⟨δ, M, F, _, hE, s, hu, fun d M1 F1 v H1 q g s1 r => ?_⟩
  cases d <;> first | exact False.elim q | skip
  unfold Rp at r
  subst r hy hz
  refine ⟨_, rfl, by rw [mkS_len, mkS_len]; exact q.1, po _ _ _ _ _ q.2 g s1 ?_⟩
  unfold Rp
  congr 1
  refine ext_tl ?_
  have e := replace_list (x := mkS (by assumption)) (y := mkS ys) (z := mkS zs) (by rw [mkS_len]; exact hne)
  exact e
theorem dst_ret {X : Cx} {e : Expr} {ue : DTE} {pos : Pos} (he : DET X e ue) : PST X (.Return (some e) pos) (liftS X.K (dRt ue)) := PST.weak (pst_ret he) fun D σ H h => by
  obtain ⟨δ, M, F, Dd, hE, s, hu, p⟩ := h
  exact ⟨δ, M, F, _, hE, s, hu, p.rt⟩
theorem dsst_one {X : Cx} {st : Stmt} {t : DTS} (h : PST X st (liftS X.K t)) : DSsT X [st] t := fun pins s σ H D h0 I q => psst_one h pins s σ H D h0 I q
/-- if a == 8: ..: behind the test a token has been given out -/
theorem ds_ifT {X : Cx} {a : Expr} {i : Int} {j : Nat} {cp pos pos' : Pos} {body : List Stmt} {ua : DTE} {t : DTS} (hu : X.A.units + 64 < cLine) (ha : DE X a ua) (hb : DSsT X body t) : DS X (.If (.Compare a [.Eq] [.Constant (.int i) j cp] pos') body [] pos) (dIfS (dTest (dOp dEq ua (dC (.int i)))) t dNx) := by
  have hc : DT X (.Compare a [.Eq] [.Constant (.int i) j cp] pos') (dTest (dOp dEq ua (dC (.int i)))) := dt_eq hu ha de_int
  refine ⟨fun pins s σ H D I h => ?_⟩
  obtain ⟨δ, M, F, Dd, hE, sv, hu', p⟩ := h
  have h2 : liftT X.K (dTest (dOp dEq ua (dC (.int i)))) σ H (fun b H1 => if b = true then liftS X.K t D σ H1 else liftS X.K dNx D σ H1) := by
    refine ⟨δ, M, F, _, hE, sv, hu', fun d M' F' H' q g s' => ?_⟩
    cases d with
    | true => exact ⟨δ, M', F', Dd, hE.mono g.le, s', q, p.go g⟩
    | false => exact ⟨δ, M', F', Dd, hE.mono g.le, s', q, p.go g⟩
  have h3 := bin2 rel_eq _ _ _ (lift_test h2)
  refine wpAny_If (thn (Q := fun b s1 => 1 ≤ s1.toks ∧ TP X pins σ (fun b H1 => if b = true then liftS X.K t D σ H1 else liftS X.K dNx D σ H1) b s1) ?_ fun d s1 q => ?_)
  · refine wpAny_isTrue_Compare1 (thn (ha.run pins s σ H _ I h3) fun v s1 ⟨x, H1, I1, r1, q1⟩ => ?_) (nomark _)
    obtain ⟨δ2, M2, F2, Qd2, hE2, sv2, hu2, p2⟩ := q1
    have q2 := p2.fin (d := .int i) (v := .int i) sv2 hu2 (by unfold Rp; rfl)
    refine wpAny_Constant_int ?_
    refine wpAny_mono (PySem.wpAny_toks_of (n := 1) (by show 1 ≤ s1.toks + 1; omega) (op_eqAll hu pins _ σ H1 x (.int i) v _ _ (I1.tok _) r1 ⟨_, rfl⟩ q2)) (fun c s3 ⟨hk, z, H3, I3, r3, k, e, q3⟩ => ?_) fun _ _ z => z.2
    subst e
    cases r3
    exact wpAny_truthy_bool ⟨hk, H3, I3, q3⟩
  · obtain ⟨hk, H1, I1, q1⟩ := q
    cases d with
    | true =>
      rw [if_pos rfl] at q1
      exact hb pins s1 σ H1 D hk I1 q1
    | false =>
      rw [if_neg Bool.false_ne_true] at q1
      exact dss_nil.run pins s1 σ H1 D I1 q1
end DL

namespace DL
open PySem PySem.Spec PyProof.Rows L2 TL

/-! ### for, comprehensions: by a word of what is left -/
theorem for_inv {g : Mu → Prop} {tg : DTg} {b : DTS} {E : DEnds} (I : List D → DEnv → Mu → Prop) (hg : ∀ xs δ M, I xs δ M → g M)
    (hs : ∀ x xs δ M (N : DEnv → Mu → Prop), I (x :: xs) δ M → (∀ δ' M', I xs δ' M' → N δ' M') → tg x δ M fun δ' M' => b { E with nx := N, ct := N, bk := E.nx } δ' M')
    (he : ∀ δ M, I [] δ M → E.nx δ M) : ∀ (ds : List D) (δ : DEnv) (M : Mu), I ds δ M → dForGo g tg b E ds δ M
  | [], δ, M, h => ⟨hg _ _ _ h, he _ _ h⟩
  | x :: xs, δ, M, h => ⟨hg _ _ _ h, hs x xs δ M _ h fun δ' M' h' => for_inv I hg hs he xs δ' M' h'⟩
theorem lc_inv {g : Mu → Prop} {tg : DTg} {tt : DTT} {te : DTE} {δw : DEnv} {Q : List D → Mu → Prop} (I : List D → List D → Mu → Prop) (hg : ∀ xs acc M, I xs acc M → g M)
    (hs : ∀ x xs acc M (N : List D → Mu → Prop), I (x :: xs) acc M → (∀ acc' M', I xs acc' M' → N acc' M') → tg x δw M fun δ' M' => tt δ' M' fun b M1 => match b with
      | true => te δ' M1 fun y M2 => acc.length < sizeLine ∧ N (acc ++ [y]) M2
      | false => N acc M1)
    (he : ∀ acc M, I [] acc M → Q acc M) : ∀ (ds acc : List D) (M : Mu), I ds acc M → dLcGo g tg tt te δw ds acc M Q
  | [], acc, M, h => ⟨hg _ _ _ h, he _ _ h⟩
  | x :: xs, acc, M, h => ⟨hg _ _ _ h, hs x xs acc M (fun acc M => dLcGo g tg tt te δw xs acc M Q) h fun acc' M' h' => lc_inv I hg hs he xs acc' M' h'⟩
/-- a comprehension without tests, whose element is the value f x of the item and changes nothing -/
theorem lc_map {g : Mu → Prop} {tg : DTg} {te : DTE} {δw : DEnv} {Q : List D → Mu → Prop} (f : D → D) {M : Mu} (hg : g M) : ∀ (ds acc : List D), acc.length + ds.length ≤ sizeLine →
    (∀ x ∈ ds, ∀ R : DK, R (f x) M → tg x δw M fun δ' M' => te δ' M' R) → Q (acc ++ ds.map f) M → dLcGo g tg dYes te δw ds acc M Q
  | [], acc, _, _, h => ⟨hg, by rw [List.map_nil, List.append_nil] at h; exact h⟩
  | x :: xs, acc, hl, hs, h => by
    rw [List.length_cons] at hl
    refine ⟨hg, hs x (List.mem_cons_self ..) (fun y M2 => acc.length < sizeLine ∧ dLcGo g tg dYes te δw xs (acc ++ [y]) M2 Q) ⟨by omega, ?_⟩⟩
    refine lc_map f hg xs (acc ++ [f x]) (by rw [List.length_append, List.length_singleton]; omega) (fun y hy => hs y (List.mem_cons_of_mem _ hy)) ?_
    rw [List.append_assoc]
    exact h
theorem sz1000 {n : Nat} (h : n ≤ 1000000) : n ≤ sizeLine := Nat.le_trans h (by rw [sizeLine_eq]; decide)
theorem szlt {n : Nat} (h : n < 1000000) : n < sizeLine := Nat.lt_of_lt_of_le h (by rw [sizeLine_eq]; decide)
theorem mul_fit {i j : Int} (a b : Nat) (ha : i.natAbs < 2 ^ a) (hb : j.natAbs < 2 ^ b) (h : a + b ≤ 134217728 := by decide) : CMulX i j := mulx_ok ha hb h
theorem nlt_pow {i : Int} {k : Nat} (h1 : -(2 ^ k : Nat) < i) (h2 : i < (2 ^ k : Nat)) : i.natAbs < 2 ^ k := by omega
theorem div_fit {j : Int} (k : Nat) (h0 : j ≠ 0) (h : j.natAbs < 2 ^ k) (hk : 0 < k := by decide) (h9 : k ≤ 9000 := by decide) : CDivX j := ⟨h0, Nat.lt_of_lt_of_le (PySem.Flt.log2_lt_of hk h) h9⟩
theorem fmod_pos {i j : Int} (h : 0 < j) : i.fmod j = i % j := Int.fmod_eq_emod_of_nonneg i (by omega)
theorem fdiv_pos {i j : Int} (h : 0 < j) : i.fdiv j = i / j := Int.fdiv_eq_ediv_of_nonneg i (by omega)
theorem atI_zero {α : Type} {x : α} {xs : List α} : atI (x :: xs) 0 = some x := atI_nat (xs := x :: xs) (j := 0) rfl
theorem atI_one {α : Type} {x y : α} {xs : List α} : atI (x :: y :: xs) 1 = some y := atI_nat (xs := x :: y :: xs) (j := 1) rfl
theorem atI_two {α : Type} {x y z : α} {xs : List α} : atI (x :: y :: z :: xs) 2 = some z := atI_nat (xs := x :: y :: z :: xs) (j := 2) rfl
theorem ixN_nat {n : Nat} {j : Nat} (h : j < n) : ixN n (j : Int) = some j := by
  unfold ixN
  rw [if_pos (by omega), if_pos (by omega)]
  rfl
theorem dseq_ref {M : Mu} {a : Addr} {ds : List D} (h : M a = some (.lst ds)) : dseq M (.ref a) = some ds := by
  show (match M a with | some (.lst ds) => some ds | _ => none) = some ds
  rw [h]
theorem dits_ref {M : Mu} {a : Addr} {ds : List D} (h : M a = some (.lst ds)) : dits M (.ref a) = some ds := dseq_ref h
theorem tyNm_ref {M : Mu} {a : Addr} {ds : List D} (h : M a = some (.lst ds)) : tyNm M (.ref a) = some "list" := by
  show (match M a with | some (.lst _) => some "list" | some (.dic _) => some "dict" | none => none) = some "list"
  rw [h]
end DL

namespace DL
open PySem PySem.Spec PyProof.Rows L2 TL

/-! ### stepping through readings, rule by rule (the tactic of that name stands behind them) -/
def kB (Q : Bool → Mu → Prop) : DK := fun d M => match d with
  | .bl b => Q b M
  | _ => False
def kT (Q : Bool → Mu → Prop) : DK := fun d M => dTruB M d fun b => Q b M
def kP (Q : Option Int → Mu → Prop) : DK := fun d M => match d with
  | .int i => Q (some i) M
  | _ => False
def kI (R : List D → (Mu → Prop) → Mu → Prop) : DK := fun d M1 => match d with
  | .tup ds => R ds (fun _ => True) M1
  | .lst ds => R ds (fun _ => True) M1
  | .src ns => R (ns.map .int) (fun _ => True) M1
  | .str cs => R (cs.map fun c => .str [c]) (fun _ => True) M1
  | .ref a => match M1 a with
    | some (.lst ds) => R ds (fun M2 => M2 a = some (.lst ds)) M1
    | _ => False
  | _ => False
def kR1 (R : List D → (Mu → Prop) → Mu → Prop) : List D → Mu → Prop := fun ds M1 => match ds with
  | [.int j] => -(2 ^ 62) ≤ j ∧ j < 2 ^ 62 ∧ R (rngD 0 j.toNat) (fun _ => True) M1
  | _ => False
def kR2 (R : List D → (Mu → Prop) → Mu → Prop) : List D → Mu → Prop := fun ds M1 => match ds with
  | [.int i, .int j] => (-(2 ^ 62) ≤ i ∧ i < 2 ^ 62 ∧ -(2 ^ 62) ≤ j ∧ j < 2 ^ 62) ∧ R (rngD i (j - i).toNat) (fun _ => True) M1
  | _ => False
def kS {α : Type} (b : Bool) (x y : α) (P : α → Prop) : Prop := P (if b = true then x else y)
section
variable {δ : DEnv} {M : Mu} {Q : DK} {QT : Bool → Mu → Prop} {QA : List D → Mu → Prop} {QE : DEnv → Mu → Prop} {D0 : DEnds} {d x y : D} {u ua ub ue uo ui : DTE} {us ur : DTA} {t t1 t2 : DTS} {c c1 c2 : DTT} {g : DTg} {i j : Nat} {n m : Int} {a b : Addr} {es fs : List D} {cs ds' : List Nat} {mu : Bool}
theorem r_sq (h : t1 { nx := t2 D0, rt := D0.rt, bk := D0.bk, ct := D0.ct } δ M) : dSq t1 t2 D0 δ M := h
theorem r_nx (h : D0.nx δ M) : dNx D0 δ M := h
theorem r_bk (h : D0.bk δ M) : dBk D0 δ M := h
theorem r_ct (h : D0.ct δ M) : dCt D0 δ M := h
theorem r_rt (h : u δ M D0.rt) : dRt u D0 δ M := h
theorem r_rtN (h : D0.rt .non M) : dRtN D0 δ M := h
theorem r_ex (h : u δ M fun _ M1 => D0.nx δ M1) : dEx u D0 δ M := h
theorem r_as (h : u δ M fun d M1 => g d δ M1 D0.nx) : dAs u g D0 δ M := h
theorem r_if (h : c δ M fun b M1 => (b = true → t1 D0 δ M1) ∧ (b = false → t2 D0 δ M1)) : dIfS c t1 t2 D0 δ M := by
  unfold dIfS
  revert h
  exact cast (congrArg (fun z => (c δ M z → _)) (funext fun b => funext fun M1 => by cases b <;> simp)) id
theorem r_ifT (h : c δ M fun b M1 => match b with
  | true => t1 D0 δ M1
  | false => t2 D0 δ M1) : dIfS c t1 t2 D0 δ M := h
theorem r_dgN {δ' : DEnv} (e : δ.set i (some d) = δ') (h : QE δ' M) : dgN i d δ M QE := by unfold dgN; rw [e]; exact h
theorem r_dgSub (h : uo δ M fun o M1 => ui δ M1 fun i M2 => dSetV o i d M2 fun M3 => QE δ M3) : dgSub uo ui d δ M QE := h
theorem r_dgT {ts : List DTg} (hl : es.length = ts.length) (h : dgAll ts es δ M QE) : dgT ts (.tup es) δ M QE := ⟨hl, h⟩
theorem r_dga0 (h : QE δ M) : dgAll [] [] δ M QE := h
theorem r_dga1 {ts : List DTg} (h : g d δ M fun δ' M' => dgAll ts es δ' M' QE) : dgAll (g :: ts) (d :: es) δ M QE := h
theorem r_auS {rd : DR2} (h : uo δ M fun o M1 => ui δ M1 fun i M2 => dGetM o i M2 fun x M3 => ue δ M3 fun y M4 => rd x y M4 fun z M5 => dSetV o i z M5 fun M6 => D0.nx δ M6) : dAuS uo ui ue rd D0 δ M := h
theorem r_setV {k : Int} (h : M a = some (.lst es)) (hk : ixN es.length k = some j) {Q : Mu → Prop} (q : Q (mset M a (.lst (es.set j d)))) : dSetV (.ref a) (.int k) d M Q := by
  unfold dSetV; simp only [h, hk]; exact q
theorem r_getM (h : M a = some (.lst es)) (hk : atI es n = some d) (q : Q d M) : dGetM (.ref a) (.int n) M Q := by
  unfold dGetM; simp only [h, hk]; exact q
theorem r_au {rd : DR2} (e : δ[i]? = some (some x)) (h : u δ M fun y M1 => rd x y M1 fun z M2 => D0.nx (δ.set i (some z)) M2) : dAu i rd u D0 δ M := by
  unfold dAu; rw [e]; exact h
def kPar (i j : Nat) (δ : DEnv) (D0 : DEnds) : List D → Mu → Prop := fun ds M1 => match ds with
  | [v, w] => D0.nx ((δ.set i (some v)).set j (some w)) M1
  | _ => False
theorem r_par (h : us δ M (kPar i j δ D0)) : dPar i j us D0 δ M := h
theorem r_kPar {v w : D} {δ' : DEnv} (e : (δ.set i (some v)).set j (some w) = δ') (h : D0.nx δ' M) : kPar i j δ D0 [v, w] M := by
  unfold kPar; simp only [e]; exact h
/-! expressions -/
theorem r_var (e : δ[i]? = some (some d)) (q : Q d M) : dVar i δ M Q := by unfold dVar; rw [e]; exact q
theorem r_c (q : Q d M) : dC d δ M Q := q
theorem r_op {rd : DR2} (h : ua δ M fun x M1 => ub δ M1 fun y M2 => rd x y M2 Q) : dOp rd ua ub δ M Q := h
theorem r_un {rd : DUn} (h : ua δ M fun x M1 => rd x M1 Q) : dUn rd ua δ M Q := h
theorem r_neg (q : Q (.int (-n)) M) : dNeg (.int n) M Q := q
theorem r_addI (q : Q (.int (n + m)) M) : dAdd mu (.int n) (.int m) M Q := q
theorem r_addS {p q : List Nat} (h : p.length + q.length ≤ sizeLine ∧ Q (.str (p ++ q)) M) : dAdd mu (.str p) (.str q) M Q := h
theorem r_addT {p q : List D} (h : p.length + q.length ≤ sizeLine ∧ Q (.tup (p ++ q)) M) : dAdd mu (.tup p) (.tup q) M Q := h
theorem r_addL {p q : List D} (h : p.length + q.length ≤ sizeLine ∧ dNew mu (p ++ q) M Q) : dAdd mu (.lst p) (.lst q) M Q := h
theorem r_subI (q : Q (.int (n - m)) M) : dSub (.int n) (.int m) M Q := q
theorem r_mulI (h : CMulX n m ∧ Q (.int (n * m)) M) : dMul mu (.int n) (.int m) M Q := h
theorem r_fdiv (h : CDivX m ∧ Q (.int (n.fdiv m)) M) : dFdiv (.int n) (.int m) M Q := h
theorem r_mod (h : m ≠ 0 ∧ Q (.int (n.fmod m)) M) : dMod (.int n) (.int m) M Q := h
theorem r_pow (h : CPow n m ∧ Q (.int (n ^ m.toNat)) M) : dPow (.int n) (.int m) M Q := h
theorem r_shl (h : CShl n m ∧ Q (.int (n * 2 ^ m.toNat)) M) : dShl (.int n) (.int m) M Q := h
theorem r_eqI (q : Q (.bl (decide (n = m))) M) : dEq (.int n) (.int m) M Q := q
theorem r_eqS {p q : List Nat} (h : Q (.bl (decide (p = q))) M) : dEq (.str p) (.str q) M Q := h
theorem r_eqB {p q : Bool} (h : Q (.bl (decide (p = q))) M) : dEq (.bl p) (.bl q) M Q := h
theorem r_neI (q : Q (.bl (!decide (n = m))) M) : dNe (.int n) (.int m) M Q := q
theorem r_neS {p q : List Nat} (h : Q (.bl (!decide (p = q))) M) : dNe (.str p) (.str q) M Q := h
theorem r_neB {p q : Bool} (h : Q (.bl (!decide (p = q))) M) : dNe (.bl p) (.bl q) M Q := h
theorem r_ltI (q : Q (.bl (decide (n < m))) M) : dLt (.int n) (.int m) M Q := q
theorem r_gtI (q : Q (.bl (decide (m < n))) M) : dGt (.int n) (.int m) M Q := q
theorem r_leI (q : Q (.bl (decide (n ≤ m))) M) : dLe (.int n) (.int m) M Q := q
theorem r_geI (q : Q (.bl (decide (m ≤ n))) M) : dGe (.int n) (.int m) M Q := q
theorem r_isN (q : Q (.bl (DL.isNon x)) M) : dIsN x .non M Q := ⟨rfl, q⟩
theorem r_notN (q : Q (.bl (!DL.isNon x)) M) : dNotN x .non M Q := ⟨rfl, q⟩
theorem r_inS {neg : Bool} {z : Nat} (q : Q (.bl (if neg then !decide (z ∈ cs) else decide (z ∈ cs))) M) : dInB neg (.str [z]) (.str cs) M Q := q
theorem r_idxR (h : M a = some (.lst es)) (hk : atI es n = some d) (q : Q d M) : dIdx (.ref a) (.int n) M Q := by
  unfold dIdx; simp only [dits, dseq, h, Option.bind_some, hk]; exact q
theorem r_idxL (hk : atI es n = some d) (q : Q d M) : dIdx (.lst es) (.int n) M Q := by
  unfold dIdx; simp only [dits, dseq, Option.bind_some, hk]; exact q
theorem r_idxT (hk : atI es n = some d) (q : Q d M) : dIdx (.tup es) (.int n) M Q := by
  unfold dIdx; simp only [dits, Option.bind_some, hk]; exact q
theorem r_idxSrc {ns : List Int} (hk : atI (ns.map D.int) n = some d) (q : Q d M) : dIdx (.src ns) (.int n) M Q := by
  unfold dIdx; simp only [dits, Option.bind_some, hk]; exact q
theorem r_idxS {z : Nat} (hk : atI cs n = some z) (hl : cs.length ≤ sizeLine) (q : Q (.str [z]) M) : dIdx (.str cs) (.int n) M Q := by
  unfold dIdx; simp only [hk]; exact ⟨hl, q⟩
/-! tests -/
theorem r_test (h : u δ M (kB QT)) : dTest u δ M QT := h
theorem r_kB {b : Bool} (q : QT b M) : kB QT (.bl b) M := q
theorem r_tru (h : u δ M (kT QT)) : dTru u δ M QT := h
theorem r_kTb {b : Bool} (q : QT b M) : kT QT (.bl b) M := q
theorem r_kTi (q : QT (n != 0) M) : kT QT (.int n) M := q
theorem r_kTn (q : QT false M) : kT QT .non M := q
theorem r_kTl (q : QT (!es.isEmpty) M) : kT QT (.lst es) M := q
theorem r_kTt (q : QT (!es.isEmpty) M) : kT QT (.tup es) M := q
theorem r_kTs (q : cs.length ≤ sizeLine ∧ QT (!cs.isEmpty) M) : kT QT (.str cs) M := q
theorem r_not (h : c δ M fun b M1 => QT (!b) M1) : dNot c δ M QT := h
theorem r_and (h : c1 δ M fun b M1 => (b = true → c2 δ M1 QT) ∧ (b = false → QT false M1)) : dAnd c1 c2 δ M QT := by
  unfold dAnd
  revert h
  exact cast (congrArg (fun z => (c1 δ M z → _)) (funext fun b => funext fun M1 => by cases b <;> simp)) id
theorem r_or (h : c1 δ M fun b M1 => (b = true → QT true M1) ∧ (b = false → c2 δ M1 QT)) : dOr c1 c2 δ M QT := by
  unfold dOr
  revert h
  exact cast (congrArg (fun z => (c1 δ M z → _)) (funext fun b => funext fun M1 => by cases b <;> simp)) id
theorem r_dif (h : c δ M fun b M1 => (b = true → ua δ M1 Q) ∧ (b = false → ub δ M1 Q)) : dIf c ua ub δ M Q := by
  unfold dIf
  revert h
  exact cast (congrArg (fun z => (c δ M z → _)) (funext fun b => funext fun M1 => by cases b <;> simp)) id
theorem r_andV (h : ua δ M (kB fun b M1 => (b = true → ub δ M1 Q) ∧ (b = false → Q (.bl false) M1))) : dAndV ua ub δ M Q := by
  unfold dAndV
  revert h
  refine cast (congrArg (fun z => (ua δ M z → _)) (funext fun d => funext fun M1 => ?_)) id
  cases d <;> try rfl
  rename_i b
  cases b <;> simp [kB]
theorem r_orV (h : ua δ M (kB fun b M1 => (b = true → Q (.bl true) M1) ∧ (b = false → ub δ M1 Q))) : dOrV ua ub δ M Q := by
  unfold dOrV
  revert h
  refine cast (congrArg (fun z => (ua δ M z → _)) (funext fun d => funext fun M1 => ?_)) id
  cases d <;> try rfl
  rename_i b
  cases b <;> simp [kB]
theorem r_notV (h : u δ M (kB fun b M1 => Q (.bl !b) M1)) : dNotV u δ M Q := h
theorem r_yes (h : QT true M) : dYes δ M QT := h
/-! rows -/
theorem r_nil (q : QA [] M) : dNil δ M QA := q
theorem r_cons (h : ua δ M fun d M1 => ur δ M1 fun ds M2 => QA (d :: ds) M2) : dCons ua ur δ M QA := h
theorem r_tup (h : us δ M fun ds M1 => ds.length ≤ sizeLine ∧ Q (.tup ds) M1) : dTup us δ M Q := h
theorem r_lst (h : us δ M fun ds M1 => ds.length ≤ sizeLine ∧ dNew mu ds M1 Q) : dLst mu us δ M Q := h
theorem r_newF (q : Q (.lst es) M) : dNew false es M Q := q
theorem r_newT (q : ∀ p, M p = none → Q (.ref p) (mset M p (.lst es))) : dNew true es M Q := q
theorem r_cb {rd : DRC} (h : us δ M fun ds M1 => rd ds M1 Q) : dCB rd us δ M Q := h
theorem r_lenS (h : cs.length ≤ sizeLine ∧ Q (.int cs.length) M) : dLen [.str cs] M Q := h
theorem r_lenL (h : Q (.int es.length) M) : dLen [.lst es] M Q := h
theorem r_lenT (h : Q (.int es.length) M) : dLen [.tup es] M Q := h
theorem r_lenSrc {ns : List Int} (h : Q (.int ns.length) M) : dLen [.src ns] M Q := by
  unfold dLen; simp only [dits, List.length_map]; exact h
theorem r_lenR (e : M a = some (.lst es)) (h : Q (.int es.length) M) : dLen [.ref a] M Q := by
  unfold dLen; simp only [dits, dseq, e]; exact h
theorem r_abs (h : Q (.int (n.natAbs : Int)) M) : dAbs [.int n] M Q := h
theorem r_min2 (h : Q (.int (if m < n then m else n)) M) : dMin2 [.int n, .int m] M Q := h
theorem r_max2 (h : Q (.int (if m > n then m else n)) M) : dMax2 [.int n, .int m] M Q := h
theorem r_intI (h : Q (.int n) M) : dInt [.int n] M Q := h
theorem r_str (h : n.natAbs.log2 < 1920 ∧ Q (.str (numI n)) M) : dStr [.int n] M Q := h
theorem r_tupT (h : Q (.tup es) M) : dTupOf [.tup es] M Q := h
theorem r_tupL (h : Q (.tup es) M) : dTupOf [.lst es] M Q := h
theorem r_tupR (e : M a = some (.lst es)) (h : Q (.tup es) M) : dTupOf [.ref a] M Q := by
  unfold dTupOf; simp only [dlis, dseq, e]; exact h
theorem r_divmod (h : CDivP n m ∧ Q (.tup [.int (n / m), .int (n % m)]) M) : dDivmod [.int n, .int m] M Q := h
theorem r_isi {T S : String} {b : Bool} (h : tyNm M d = some S) (hb : kitB S T = some b) (q : Q (.bl b) M) : dIsi [d, .ty T] M Q := by
  unfold dIsi; simp only [h, Option.bind_some, hb]; exact q
theorem r_sum {ns : List Int} (e : dseq M d = some es) (hi : intsOf es = some ns) (q : Q (.int ns.sum) M) : dSum [d] M Q := by
  unfold dSum; simp only [e, Option.bind_some, hi]; exact q
theorem r_all {bs : List Bool} (e : dseq M d = some es) (hi : blsOf es = some bs) (q : Q (.bl (bs.all id)) M) : dAll [d] M Q := by
  unfold dAll; simp only [e, Option.bind_some, hi]; exact q
theorem r_any {bs : List Bool} (e : dseq M d = some es) (hi : blsOf es = some bs) (q : Q (.bl (bs.any id)) M) : dAny [d] M Q := by
  unfold dAny; simp only [e, Option.bind_some, hi]; exact q
theorem r_sl {ul uh : DTO} (h : u δ M fun x M1 => ul δ M1 fun lo M2 => uh δ M2 fun hi M3 => dSlV mu x lo hi M3 Q) : dSl mu u ul uh δ M Q := h
theorem r_noP {QO : Option Int → Mu → Prop} (h : QO none M) : dNoP δ M QO := h
theorem r_part {QO : Option Int → Mu → Prop} (h : u δ M (kP QO)) : dPart u δ M QO := h
theorem r_kP {QO : Option Int → Mu → Prop} (h : QO (some n) M) : kP QO (.int n) M := h
theorem r_slS {lo hi : Option Int} (h : cs.length ≤ sizeLine ∧ Q (.str (cutL cs lo hi)) M) : dSlV mu (.str cs) lo hi M Q := h
theorem r_slT {lo hi : Option Int} (h : Q (.tup (cutL es lo hi)) M) : dSlV mu (.tup es) lo hi M Q := h
theorem r_slL {lo hi : Option Int} (h : dNew mu (cutL es lo hi) M Q) : dSlV mu (.lst es) lo hi M Q := h
theorem r_slSrc {ns : List Int} {lo hi : Option Int} (h : dNew mu (cutL (ns.map D.int) lo hi) M Q) : dSlV mu (.src ns) lo hi M Q := h
theorem r_slR {lo hi : Option Int} (e : M a = some (.lst es)) (h : dNew mu (cutL es lo hi) M Q) : dSlV mu (.ref a) lo hi M Q := by
  unfold dSlV; simp only [dlis, dseq, e]; exact h
theorem r_bm {T : String} {rd : DM} (h : uo δ M fun x M1 => tyNm M1 x = some T ∧ us δ M1 fun ds M2 => rd x ds M2 Q) : dBM T rd uo us δ M Q := h
theorem r_tyS {P : Prop} (h : P) : tyNm M (.str cs) = some "str" ∧ P := ⟨rfl, h⟩
theorem r_tyR {P : Prop} (e : M a = some (.lst es)) (h : P) : tyNm M (.ref a) = some "list" ∧ P := ⟨tyNm_ref e, h⟩
theorem r_append (e : M a = some (.lst es)) (hl : es.length < sizeLine) (h : Q .non (mset M a (.lst (es ++ [d])))) : dAppend (.ref a) [d] M Q := by
  unfold dAppend; simp only [e]; exact ⟨hl, h⟩
theorem r_split {z : List Nat} (h0 : z ≠ []) (h1 : z.all (· < 256) = true) (hl : cs.length + 2 ≤ sizeLine) (h : dNew mu ((spl z 0 [] cs).map .str) M Q) : dSplit mu (.str cs) [.str z] M Q := ⟨h0, hl, h1, h⟩
theorem r_join {ys : List (List Nat)} (e : dits M d = some es) (hs : strsOf es = some ys) (hl : (ys.map (·.length)).sum + ys.length * cs.length ≤ 16777216) (h : Q (.str (joinL cs ys)) M) : dJoin (.str cs) [d] M Q := by
  unfold dJoin; simp only [e, Option.bind_some, hs]; exact ⟨hl, h⟩
theorem r_starts {z : List Nat} (h : Q (.bl (Txt.startswith (mkS cs) (mkS z))) M) : dStarts (.str cs) [.str z] M Q := h
theorem r_count {z : List Nat} (h : Q (.int (Txt.count (mkS cs) (mkS z))) M) : dCount (.str cs) [.str z] M Q := h
theorem r_bits (h : uo δ M fun d M1 => ∃ n, d = .int n ∧ Q (.int (Builtin.Int.intBits n : Nat)) M1) : dBits uo δ M Q := by
  unfold dBits
  revert h
  refine cast (congrArg (fun z => (uo δ M z → _)) (funext fun d => funext fun M1 => ?_)) id
  cases d <;> simp
/-! calls, loops -/
theorem r_call {sp : DSp} {E : DXK} (h : us δ M fun ds M1 => sp ds M1 Q E) : dCall sp [] E us δ M Q := by
  unfold dCall
  revert h
  exact cast (congrArg (fun z => (us δ M z → _)) (funext fun ds => funext fun M1 => by rw [List.append_nil])) id
theorem r_for {di : DTI} (h : di δ M fun ds g1 M1 => dForGo g1 g t D0 ds δ M1) : dFor di g t D0 δ M := h
theorem r_seq {R : List D → (Mu → Prop) → Mu → Prop} (h : ue δ M (kI R)) : diSeq ue δ M R := h
theorem r_kIt {R : List D → (Mu → Prop) → Mu → Prop} (h : R es (fun _ => True) M) : kI R (.tup es) M := h
theorem r_kIl {R : List D → (Mu → Prop) → Mu → Prop} (h : R es (fun _ => True) M) : kI R (.lst es) M := h
theorem r_kIs {R : List D → (Mu → Prop) → Mu → Prop} (h : R (cs.map fun c => .str [c]) (fun _ => True) M) : kI R (.str cs) M := h
theorem r_kIsrc {ns : List Int} {R : List D → (Mu → Prop) → Mu → Prop} (h : R (ns.map .int) (fun _ => True) M) : kI R (.src ns) M := h
theorem r_kIr {R : List D → (Mu → Prop) → Mu → Prop} (e : M a = some (.lst es)) (h : R es (fun M2 => M2 a = some (.lst es)) M) : kI R (.ref a) M := by
  unfold kI; simp only [e]; exact h
theorem r_r1 {R : List D → (Mu → Prop) → Mu → Prop} (h : us δ M (kR1 R)) : diR1 us δ M R := h
theorem r_kR1 {R : List D → (Mu → Prop) → Mu → Prop} (h1 : -(2 ^ 62) ≤ n) (h2 : n < 2 ^ 62) (h : R (rngD 0 n.toNat) (fun _ => True) M) : kR1 R [.int n] M := ⟨h1, h2, h⟩
theorem r_r2 {R : List D → (Mu → Prop) → Mu → Prop} (h : us δ M (kR2 R)) : diR2 us δ M R := h
theorem r_kR2 {R : List D → (Mu → Prop) → Mu → Prop} (h0 : -(2 ^ 62) ≤ n ∧ n < 2 ^ 62 ∧ -(2 ^ 62) ≤ m ∧ m < 2 ^ 62) (h : R (rngD n (m - n).toNat) (fun _ => True) M) : kR2 R [.int n, .int m] M := ⟨h0, h⟩
theorem r_lc {di : DTI} {vs : List Nat} (h : di δ M fun ds g1 M1 => dLcGo g1 g c ue (dwipe δ vs) ds [] M1 fun acc M2 => dNew mu acc M2 Q) : dLc mu di g c ue vs δ M Q := h
/-! what may change -/
theorem sub_new {p : Addr} {o : DO} (h : M p = none) : Sub M (mset M p o) := fun b u e => by
  rw [mset_ne (fun z => by rw [z, h] at e; cases e)]; exact e
theorem ne_new {p q : Addr} {o : DO} (h : M p = some o) (e : M q = none) : p ≠ q := fun z => by rw [z, e] at h; cases h
theorem mset_swap {p q : Addr} {o o' : DO} (h : p ≠ q) : mset (mset M p o) q o' = mset (mset M q o') p o := by
  funext b
  unfold mset
  by_cases h1 : b = q
  · subst h1; rw [if_pos rfl, if_neg (fun z => h z.symm), if_pos rfl]
  · rw [if_neg h1]
    by_cases h2 : b = p
    · rw [if_pos h2, if_pos h2]
    · rw [if_neg h2, if_neg h2, if_neg h1]
theorem lit_len {α : Type} {xs : List α} (n : Nat) (h : xs.length = n) (hn : n ≤ 1000000) : xs.length ≤ sizeLine := sz1000 (h ▸ hn)
theorem lit0 {α : Type} {P : Prop} (h : P) : ([] : List α).length ≤ sizeLine ∧ P := ⟨lit_len 0 rfl (by decide), h⟩
theorem lit1 {α : Type} {a : α} {P : Prop} (h : P) : [a].length ≤ sizeLine ∧ P := ⟨lit_len 1 rfl (by decide), h⟩
theorem lit2 {α : Type} {a b : α} {P : Prop} (h : P) : [a, b].length ≤ sizeLine ∧ P := ⟨lit_len 2 rfl (by decide), h⟩
theorem lit3 {α : Type} {a b c : α} {P : Prop} (h : P) : [a, b, c].length ≤ sizeLine ∧ P := ⟨lit_len 3 rfl (by decide), h⟩
theorem lit4 {α : Type} {a b c d : α} {P : Prop} (h : P) : [a, b, c, d].length ≤ sizeLine ∧ P := ⟨lit_len 4 rfl (by decide), h⟩
theorem lit5 {α : Type} {a b c d e : α} {P : Prop} (h : P) : [a, b, c, d, e].length ≤ sizeLine ∧ P := ⟨lit_len 5 rfl (by decide), h⟩
theorem lit6 {α : Type} {a b c d e f : α} {P : Prop} (h : P) : [a, b, c, d, e, f].length ≤ sizeLine ∧ P := ⟨lit_len 6 rfl (by decide), h⟩
theorem lit7 {α : Type} {a b c d e f g : α} {P : Prop} (h : P) : [a, b, c, d, e, f, g].length ≤ sizeLine ∧ P := ⟨lit_len 7 rfl (by decide), h⟩
end
/-! a middle word -/
theorem via {u : DTE} {δ : DEnv} {M : Mu} {Q : DK} (P : DK) (h1 : ∀ Q' : DK, (∀ d M', P d M' → Q' d M') → u δ M Q') (h2 : ∀ d M', P d M' → Q d M') : u δ M Q := h1 Q h2
theorem viaS {t : DTS} {D0 : DEnds} {δ : DEnv} {M : Mu} (P : DEnv → Mu → Prop) (h1 : ∀ N : DEnv → Mu → Prop, (∀ δ' M', P δ' M' → N δ' M') → t { nx := N, rt := D0.rt, bk := D0.bk, ct := D0.ct } δ M) (h2 : ∀ δ' M', P δ' M' → D0.nx δ' M') : t D0 δ M := h1 D0.nx h2
end DL

namespace DL
open PySem PySem.Spec PyProof.Rows L2 TL
local macro_rules | `(tactic| walk_at "st1") => `(tactic| first
  | with_reducible refine r_sq ?_ | with_reducible refine r_nx ?_ | with_reducible refine r_rt ?_ | with_reducible refine r_rtN ?_ | with_reducible refine r_ex ?_ | with_reducible refine r_as ?_ | with_reducible refine r_bk ?_ | with_reducible refine r_ct ?_
  | ((with_reducible apply r_var); exact rfl) | with_reducible refine r_c ?_ | with_reducible refine r_op ?_ | with_reducible refine r_un ?_ | with_reducible refine r_neg ?_
  | ((with_reducible refine r_dgN rfl ?_); (try simp only [List.set]))
  | with_reducible refine r_dgSub ?_ | with_reducible refine r_dgT rfl ?_ | with_reducible refine r_dga0 ?_ | with_reducible refine r_dga1 ?_ | with_reducible refine r_auS ?_ | ((with_reducible apply r_au); exact rfl)
  | with_reducible refine r_par ?_ | ((with_reducible refine r_kPar rfl ?_); (try simp only [List.set]))
  | with_reducible refine r_addI ?_ | with_reducible refine r_addS ?_ | with_reducible refine r_addT ?_ | with_reducible refine r_addL ?_ | with_reducible refine r_subI ?_ | with_reducible refine r_mulI ?_ | with_reducible refine r_fdiv ?_ | with_reducible refine r_mod ?_ | with_reducible refine r_pow ?_ | with_reducible refine r_shl ?_
  | with_reducible refine r_eqI ?_ | with_reducible refine r_eqS ?_ | with_reducible refine r_eqB ?_ | with_reducible refine r_neI ?_ | with_reducible refine r_neS ?_ | with_reducible refine r_neB ?_ | with_reducible refine r_ltI ?_ | with_reducible refine r_gtI ?_ | with_reducible refine r_leI ?_ | with_reducible refine r_geI ?_ | with_reducible refine r_isN ?_ | with_reducible refine r_notN ?_ | with_reducible refine r_inS ?_
  | with_reducible refine r_test ?_ | with_reducible refine r_kB ?_ | with_reducible refine r_tru ?_ | with_reducible refine r_kTb ?_ | with_reducible refine r_kTi ?_ | with_reducible refine r_kTn ?_ | with_reducible refine r_kTl ?_ | with_reducible refine r_kTt ?_ | with_reducible refine r_kTs ?_ | with_reducible refine r_not ?_ | with_reducible refine r_notV ?_ | with_reducible refine r_yes ?_
  | with_reducible refine r_nil ?_ | with_reducible refine r_cons ?_ | with_reducible refine r_tup ?_ | with_reducible refine r_lst ?_ | with_reducible refine r_newF ?_ | with_reducible refine r_cb ?_
  | with_reducible refine r_lenS ?_ | with_reducible refine r_lenL ?_ | with_reducible refine r_lenT ?_ | with_reducible refine r_lenSrc ?_ | with_reducible refine r_abs ?_ | with_reducible refine r_min2 ?_ | with_reducible refine r_max2 ?_ | with_reducible refine r_intI ?_ | with_reducible refine r_str ?_ | with_reducible refine r_tupT ?_ | with_reducible refine r_tupL ?_ | with_reducible refine r_divmod ?_
  | with_reducible refine r_sl ?_ | with_reducible refine r_noP ?_ | with_reducible refine r_part ?_ | with_reducible refine r_kP ?_ | with_reducible refine r_slS ?_ | with_reducible refine r_slT ?_ | with_reducible refine r_slL ?_ | with_reducible refine r_slSrc ?_
  | with_reducible refine r_bm ?_ | with_reducible refine r_tyS ?_ | with_reducible refine r_starts ?_ | with_reducible refine r_count ?_ | with_reducible refine r_call ?_ | with_reducible refine r_for ?_ | with_reducible refine r_seq ?_ | with_reducible refine r_kIt ?_ | with_reducible refine r_kIl ?_ | with_reducible refine r_kIs ?_ | with_reducible refine r_kIsrc ?_ | with_reducible refine r_r1 ?_ | with_reducible refine r_r2 ?_ | with_reducible refine r_lc ?_
  | with_reducible refine lit0 ?_ | with_reducible refine lit1 ?_ | with_reducible refine lit2 ?_ | with_reducible refine lit3 ?_ | with_reducible refine lit4 ?_ | with_reducible refine lit5 ?_ | with_reducible refine lit6 ?_ | with_reducible refine lit7 ?_
  | fail)
local macro_rules | `(tactic| walk_at "st") => `(tactic| repeat (first | walk_at "st1" | dsimp only))
local macro_rules | `(tactic| walk_at "go") => `(tactic| (simp only [dstart, dEnd, List.map_cons, List.map_nil, List.length_cons, List.length_nil, Nat.reduceAdd, Nat.reduceSub, Nat.zero_add, List.replicate, List.cons_append, List.nil_append]; walk_at "st"))

/-! ### the law's source of numbers -/
/-- a source: k more picks may be made -/
def Src (k : Nat) (o : DO) : Prop := ∃ a b c : Int, o = .lst [.int a, .int b, .int c] ∧ 0 ≤ a ∧ a < 2 ^ 400 ∧ 0 ≤ b ∧ b < 2147483647 ∧ 0 ≤ c ∧ c + k ≤ 2 ^ 60
theorem Src.less {j k : Nat} {o : DO} (h : Src k o) (l : j ≤ k) : Src j o := by
  obtain ⟨a, b, c, e, h1, h2, h3, h4, h5, h6⟩ := h
  exact ⟨a, b, c, e, h1, h2, h3, h4, h5, by omega⟩
def sp_law_pick : DSp := fun ds M Q _ => ∃ a m o k, ds = [.ref a, .int m] ∧ M a = some o ∧ Src (k + 1) o ∧ 0 < m ∧ m < 2 ^ 1000 ∧ ∀ r o', 0 ≤ r → r < m → Src k o' → Q (.int r) (mset M a o')
def t_law_pick : DTS := (dSq (dIfS (dTest (dOp dGt (dOp dIdx (dVar 0) (dC (.int 0))) (dC (.int 0)))) (dSq (dAs (dOp dMod (dCB dInt (dCons (dOp dIdx (dVar 0) (dC (.int 0))) dNil)) (dVar 1)) (dgN 2)) (dSq (dAs (dOp dFdiv (dOp dIdx (dVar 0) (dC (.int 0))) (dVar 1)) (dgSub (dVar 0) (dC (.int 0)))) (dRt (dVar 2)))) dNx) (dSq (dAuS (dVar 0) (dC (.int 2)) (dC (.int 1)) dIAdd) (dSq (dAs (dOp dMod (dCB dInt (dCons (dOp (dAdd false) (dOp (dMul false) (dOp dIdx (dVar 0) (dC (.int 1))) (dC (.int 48271))) (dOp (dMul false) (dOp dIdx (dVar 0) (dC (.int 2))) (dC (.int 90001)))) dNil)) (dC (.int 2147483647))) (dgSub (dVar 0) (dC (.int 1)))) (dRt (dOp dMod (dOp dFdiv (dOp dMod (dCB dInt (dCons (dOp (dAdd false) (dOp (dMul false) (dOp dIdx (dVar 0) (dC (.int 1))) (dC (.int 16807))) (dOp (dMul false) (dOp dIdx (dVar 0) (dC (.int 2))) (dC (.int 5701)))) dNil)) (dC (.int 2147483629))) (dC (.int 8))) (dVar 1))))))
theorem len_law_pick : ∀ ds M Q E, sp_law_pick ds M Q E → ds.length = 2 := by
  intro ds M Q E h
  obtain ⟨a, m, o, k, rfl, _⟩ := h
  rfl
theorem sem_law_pick (ds : List D) (M : Mu) (Q : DK) (E : DXK) (h : sp_law_pick ds M Q E) : t_law_pick (dEnd Q) (dstart 3 ds) M := by
  obtain ⟨p, m, o, k, rfl, hM, ⟨a, b, c, rfl, a0, a1, b0, b1, c0, c1⟩, m0, m1, h⟩ := h
  unfold t_law_pick
  walk_at "go"
  refine r_if ?_
  walk_at "st"
  refine r_idxR hM atI_zero ?_
  walk_at "st"
  refine ⟨fun ha => ?_, fun ha => ?_⟩
  · have ha := of_decide_eq_true ha
    walk_at "st"
    refine r_idxR hM atI_zero ?_
    walk_at "st"
    refine ⟨by omega, ?_⟩
    walk_at "st"
    refine r_idxR hM atI_zero ?_
    walk_at "st"
    refine ⟨div_fit 1000 (by omega) (by omega), ?_⟩
    walk_at "st"
    refine r_setV hM (j := 0) rfl ?_
    walk_at "st"
    refine Wq.now (h _ _ ?_ ?_ ⟨_, b, c, rfl, ?_, ?_, b0, b1, c0, by omega⟩)
    · rw [fmod_pos m0]; exact Int.emod_nonneg _ (by omega)
    · rw [fmod_pos m0]; exact Int.emod_lt_of_pos _ m0
    · rw [fdiv_pos m0]; exact Int.ediv_nonneg a0 (by omega)
    · rw [fdiv_pos m0]; exact Int.lt_of_le_of_lt (Int.ediv_le_self _ a0) a1
  · clear ha
    walk_at "st"
    refine r_getM hM atI_two ?_
    walk_at "st"
    refine r_setV hM (j := 2) rfl ?_
    walk_at "st"
    refine r_idxR mset_same atI_one ?_
    walk_at "st"
    refine ⟨mul_fit 32 32 (by omega) (by decide), ?_⟩
    walk_at "st"
    refine r_idxR mset_same atI_two ?_
    walk_at "st"
    refine ⟨mul_fit 64 32 (by omega) (by decide), ?_⟩
    walk_at "st"
    refine ⟨by decide, ?_⟩
    have p1 : (0 : Int) < 2147483647 := by decide
    have p2 : (0 : Int) < 2147483629 := by decide
    have p3 : (0 : Int) < 8 := by decide
    rw [fmod_pos p1]
    walk_at "st"
    refine r_setV mset_same (j := 1) rfl ?_
    rw [mset_mset]
    walk_at "st"
    refine r_idxR mset_same atI_one ?_
    walk_at "st"
    refine ⟨mul_fit 32 32 (by omega) (by decide), ?_⟩
    walk_at "st"
    refine r_idxR mset_same atI_two ?_
    walk_at "st"
    refine ⟨mul_fit 64 32 (by omega) (by decide), ?_⟩
    walk_at "st"
    refine ⟨by decide, ?_⟩
    rw [fmod_pos p2]
    walk_at "st"
    refine ⟨div_fit 4 (by decide) (by decide), ?_⟩
    walk_at "st"
    refine ⟨by omega, ?_⟩
    rw [fmod_pos m0]
    refine Wq.now (h _ _ (Int.emod_nonneg _ (by omega)) (Int.emod_lt_of_pos _ m0) ⟨a, _, _, rfl, a0, a1, Int.emod_nonneg _ (by omega), Int.emod_lt_of_pos _ p1, by omega, by omega⟩)
/-! one of a list of things -/
def sp_law_one : DSp := fun ds M Q _ => ∃ a xs o k, ds = [.ref a, .lst xs] ∧ M a = some o ∧ Src (k + 1) o ∧ 0 < xs.length ∧ xs.length < 2 ^ 60 ∧ ∀ x o', x ∈ xs → Src k o' → Q x (mset M a o')
def t_law_one : DTS := (dRt (dOp dIdx (dVar 1) (dCall sp_law_pick [] dX0 (dCons (dVar 0) (dCons (dCB dLen (dCons (dVar 1) dNil)) dNil)))))
theorem len_law_one : ∀ ds M Q E, sp_law_one ds M Q E → ds.length = 2 := by
  intro ds M Q E h
  obtain ⟨a, m, o, k, rfl, _⟩ := h
  rfl
theorem sem_law_one (ds : List D) (M : Mu) (Q : DK) (E : DXK) (h : sp_law_one ds M Q E) : t_law_one (dEnd Q) (dstart 2 ds) M := by
  obtain ⟨p, xs, o, k, rfl, hM, hS, l0, l1, h⟩ := h
  unfold t_law_one
  walk_at "go"
  refine ⟨p, _, o, k, rfl, hM, hS, by omega, by omega, fun r o' r0 r1 s' => ?_⟩
  obtain ⟨j, rfl⟩ := Int.eq_ofNat_of_zero_le r0
  have hj : j < xs.length := by omega
  refine r_idxL (atI_nat (xs := xs) (j := j) (List.getElem?_eq_getElem hj)) ?_
  exact Wq.now (h _ _ (List.getElem_mem hj) s')
/-! the source -/
def sp_law_source : DSp := fun ds M Q _ => ∃ ns at', ds = [.src ns, .int at'] ∧ 0 ≤ at' ∧ at' < 1000000 ∧ ∀ p o, M p = none → Src (2 ^ 59) o → Q (.ref p) (mset M p o)
def t_law_source : DTS := (dSq (dAs (dIf (dTest (dOp dLt (dVar 1) (dCB dLen (dCons (dVar 0) dNil)))) (dCB dInt (dCons (dOp dIdx (dVar 0) (dVar 1)) dNil)) (dOp (dAdd false) (dOp (dMul false) (dC (.int 41)) (dCB dSum (dCons (dLc false (diSeq (dSl false (dVar 0) dNoP (dPart (dC (.int 6))))) (dgN 5) dYes (dOp dMod (dCB dInt (dCons (dVar 5) dNil)) (dC (.int 999979))) [5]) dNil))) (dC (.int 29)))) (dgN 2)) (dSq (dAs (dOp dMod (dCB dAbs (dCons (dVar 2) dNil)) (dOp (dMul false) (dOp dPow (dC (.int 10)) (dC (.int 60))) (dOp dPow (dC (.int 10)) (dC (.int 60))))) (dgN 3)) (dSq (dAs (dOp dMod (dCB dInt (dCons (dOp (dAdd false) (dOp (dAdd false) (dOp (dAdd false) (dOp (dMul false) (dC (.int 2)) (dVar 3)) (dIf (dTest (dOp dLt (dVar 2) (dC (.int 0)))) (dC (.int 1)) (dC (.int 0)))) (dOp (dMul false) (dVar 1) (dC (.int 130043)))) (dC (.int 70099))) dNil)) (dC (.int 2147483629))) (dgN 4)) (dRt (dLst true (dCons (dIf (dTest (dOp dGe (dVar 3) (dOp dPow (dC (.int 10)) (dC (.int 18))))) (dVar 3) (dC (.int 0))) (dCons (dOp dMod (dCB dInt (dCons (dOp (dMul false) (dOp (dAdd false) (dVar 4) (dC (.int 7019))) (dOp (dAdd false) (dVar 4) (dC (.int 80021)))) dNil)) (dC (.int 2147483629))) (dCons (dVar 1) dNil))))))))
theorem len_law_source : ∀ ds M Q E, sp_law_source ds M Q E → ds.length = 2 := by
  intro ds M Q E h
  obtain ⟨a, m, rfl, _⟩ := h
  rfl
theorem cutL_none_nat {α : Type} {xs : List α} {n : Nat} : cutL xs none (some (n : Int)) = xs.take n := by
  unfold cutL
  rw [HT.sIx_none, HT.sIx_nat, List.drop_zero, Nat.sub_zero]
  by_cases h : n ≤ xs.length
  · rw [Nat.min_eq_left h]
  · rw [Nat.min_eq_right (by omega), List.take_of_length_le (Nat.le_refl _), List.take_of_length_le (by omega)]
theorem sum_bd {B : Nat} : ∀ ns : List Int, (∀ n ∈ ns, 0 ≤ n ∧ n < B) → 0 ≤ ns.sum ∧ ns.sum ≤ (ns.length * B : Nat)
  | [], _ => by simp
  | n :: ns, h => by
    obtain ⟨h1, h2⟩ := sum_bd ns fun m hm => h m (List.mem_cons_of_mem _ hm)
    obtain ⟨h3, h4⟩ := h n (List.mem_cons_self ..)
    rw [List.sum_cons, List.length_cons, Nat.succ_mul]
    omega
theorem sem_law_source (ds : List D) (M : Mu) (Q : DK) (E : DXK) (h : sp_law_source ds M Q E) : t_law_source (dEnd Q) (dstart 6 ds) M := by
  obtain ⟨ns, at', rfl, a0, a1, h⟩ := h
  unfold t_law_source
  walk_at "go"
  have tail : ∀ cell : Int, (dSq (dAs (dOp dMod (dCB dAbs (dCons (dVar 2) dNil)) (dOp (dMul false) (dOp dPow (dC (.int 10)) (dC (.int 60))) (dOp dPow (dC (.int 10)) (dC (.int 60))))) (dgN 3)) (dSq (dAs (dOp dMod (dCB dInt (dCons (dOp (dAdd false) (dOp (dAdd false) (dOp (dAdd false) (dOp (dMul false) (dC (.int 2)) (dVar 3)) (dIf (dTest (dOp dLt (dVar 2) (dC (.int 0)))) (dC (.int 1)) (dC (.int 0)))) (dOp (dMul false) (dVar 1) (dC (.int 130043)))) (dC (.int 70099))) dNil)) (dC (.int 2147483629))) (dgN 4)) (dRt (dLst true (dCons (dIf (dTest (dOp dGe (dVar 3) (dOp dPow (dC (.int 10)) (dC (.int 18))))) (dVar 3) (dC (.int 0))) (dCons (dOp dMod (dCB dInt (dCons (dOp (dMul false) (dOp (dAdd false) (dVar 4) (dC (.int 7019))) (dOp (dAdd false) (dVar 4) (dC (.int 80021)))) dNil)) (dC (.int 2147483629))) (dCons (dVar 1) dNil))))))) { nx := fun x M => Wq Q D.non M, rt := Wq Q } [some (.src ns), some (.int at'), some (.int cell), none, none, none] M := by
    intro cell
    walk_at "st"
    refine ⟨⟨by decide, by decide, by decide⟩, ?_⟩
    walk_at "st"
    refine ⟨⟨by decide, by decide, by decide⟩, ?_⟩
    walk_at "st"
    refine ⟨mul_fit 200 200 (by decide +kernel) (by decide +kernel), ?_⟩
    walk_at "st"
    refine ⟨by decide +kernel, ?_⟩
    have hs0 : 0 ≤ Int.fmod (cell.natAbs : Int) (10 ^ Int.toNat 60 * 10 ^ Int.toNat 60) := by
      rw [fmod_pos (by decide +kernel)]; exact Int.emod_nonneg _ (by decide +kernel)
    have hs1 : Int.fmod (cell.natAbs : Int) (10 ^ Int.toNat 60 * 10 ^ Int.toNat 60) < 2 ^ 400 := by
      rw [fmod_pos (by decide +kernel)]; exact Int.lt_trans (Int.emod_lt_of_pos _ (by decide +kernel)) (by decide +kernel)
    generalize Int.fmod (cell.natAbs : Int) (10 ^ Int.toNat 60 * 10 ^ Int.toNat 60) = size at hs0 hs1 ⊢
    walk_at "st"
    refine ⟨mul_fit 2 400 (by decide) (by omega), ?_⟩
    walk_at "st"
    refine r_dif ?_
    walk_at "st"
    have rest : ∀ e : Int, (dSq (dAs (dOp dMod (dCB dInt (dCons (dOp (dAdd false) (dOp (dAdd false) (dC (.int (2 * size + e))) (dOp (dMul false) (dVar 1) (dC (.int 130043)))) (dC (.int 70099))) dNil)) (dC (.int 2147483629))) (dgN 4)) (dRt (dLst true (dCons (dIf (dTest (dOp dGe (dVar 3) (dOp dPow (dC (.int 10)) (dC (.int 18))))) (dVar 3) (dC (.int 0))) (dCons (dOp dMod (dCB dInt (dCons (dOp (dMul false) (dOp (dAdd false) (dVar 4) (dC (.int 7019))) (dOp (dAdd false) (dVar 4) (dC (.int 80021)))) dNil)) (dC (.int 2147483629))) (dCons (dVar 1) dNil)))))) { nx := fun x M => Wq Q D.non M, rt := Wq Q } [some (.src ns), some (.int at'), some (.int cell), some (.int size), none, none] M := by
      intro e
      walk_at "st"
      refine ⟨mul_fit 32 32 (by omega) (by decide), ?_⟩
      walk_at "st"
      refine ⟨by decide, ?_⟩
      rw [fmod_pos (j := 2147483629) (by decide)]
      have hz0 : 0 ≤ (2 * size + e + at' * 130043 + 70099) % 2147483629 := Int.emod_nonneg _ (by decide)
      have hz1 : (2 * size + e + at' * 130043 + 70099) % 2147483629 < 2147483629 := Int.emod_lt_of_pos _ (by decide)
      generalize (2 * size + e + at' * 130043 + 70099) % 2147483629 = small at hz0 hz1 ⊢
      walk_at "st"
      refine r_dif ?_
      walk_at "st"
      refine ⟨⟨by decide, by decide, by decide⟩, ?_⟩
      walk_at "st"
      have fin : ∀ a : Int, 0 ≤ a → a < 2 ^ 400 → (dCons (dOp dMod (dCB dInt (dCons (dOp (dMul false) (dOp (dAdd false) (dVar 4) (dC (.int 7019))) (dOp (dAdd false) (dVar 4) (dC (.int 80021)))) dNil)) (dC (.int 2147483629))) (dCons (dVar 1) dNil)) [some (.src ns), some (.int at'), some (.int cell), some (.int size), some (.int small), none] M fun ds M2 => (D.int a :: ds).length ≤ sizeLine ∧ dNew true (D.int a :: ds) M2 (Wq Q) := by
        intro a h0 h1
        walk_at "st"
        refine ⟨mul_fit 40 40 (by omega) (by omega), ?_⟩
        walk_at "st"
        refine ⟨by decide, ?_⟩
        walk_at "st"
        refine r_newT fun p hp => Wq.now (h p _ hp ⟨a, _, at', rfl, h0, h1, ?_, ?_, a0, by omega⟩)
        · rw [fmod_pos (by decide)]; exact Int.emod_nonneg _ (by decide)
        · rw [fmod_pos (by decide)]; exact Int.lt_trans (Int.emod_lt_of_pos _ (by decide)) (by decide)
      refine ⟨fun _ => ?_, fun _ => ?_⟩
      · walk_at "st1"
        exact fin _ hs0 hs1
      · walk_at "st1"
        exact fin _ (by decide) (by decide +kernel)
    refine ⟨fun _ => ?_, fun _ => ?_⟩
    · exact rest 1
    · exact rest 0
  refine r_dif ?_
  walk_at "st"
  refine ⟨fun hl => ?_, fun hl => ?_⟩
  · have hl := of_decide_eq_true hl
    obtain ⟨j, rfl⟩ := Int.eq_ofNat_of_zero_le a0
    have hj : j < ns.length := by omega
    walk_at "st"
    refine r_idxSrc (atI_nat (xs := ns.map D.int) (j := j) (by rw [List.getElem?_map, List.getElem?_eq_getElem hj]; rfl)) ?_
    walk_at "st1"
    walk_at "st1"
    exact tail _
  · clear hl
    walk_at "st"
    rw [show (6 : Int) = ((6 : Nat) : Int) from rfl, cutL_none_nat]
    have hl6 : ((ns.map D.int).take 6).length ≤ 6 := by rw [List.length_take]; omega
    refine lc_map (fun d => match d with
      | .int i => .int (i.fmod 999979)
      | d => d) trivial _ _ (by rw [List.length_nil, Nat.zero_add]; exact sz1000 (by omega)) (fun x hx R hR => ?_) ?_
    · obtain ⟨n, _, rfl⟩ := List.mem_map.mp (List.mem_of_mem_take hx)
      simp only [dwipe, List.set]
      walk_at "st"
      exact ⟨by decide, hR⟩
    · rw [List.nil_append, ← List.map_take, List.map_map]
      walk_at "st"
      refine r_sum (es := ((ns.take 6).map fun i => i.fmod 999979).map D.int) (by rw [List.map_map]; rfl) (intsOf_map _) ?_
      have hb := sum_bd (B := 999979) ((ns.take 6).map fun i => i.fmod 999979) (fun n hn => by
        obtain ⟨m, _, rfl⟩ := List.mem_map.mp hn
        rw [fmod_pos (by decide)]
        exact ⟨Int.emod_nonneg _ (by decide), Int.emod_lt_of_pos _ (by decide)⟩)
      have hl7 : ((ns.take 6).map fun i => i.fmod 999979).length ≤ 6 := by rw [List.length_map, List.length_take]; omega
      have hl8 := Nat.mul_le_mul_right 999979 hl7
      walk_at "st"
      refine ⟨mul_fit 32 64 (by decide) (by omega), ?_⟩
      walk_at "st1"
      walk_at "st1"
      walk_at "st1"
      exact tail _
/-! sameness -/
/-- x looks as the data d does -/
def Vw (M : Mu) (x d : D) : Prop := x = d ∨ ∃ a es, x = .ref a ∧ d = .lst es ∧ M a = some (.lst es)
/-- plain data, not deeper than n -/
def Pl : Nat → D → Prop
  | _, .non => True
  | _, .bl _ => True
  | _, .int _ => True
  | _, .str _ => True
  | n + 1, .tup ds => ds.length ≤ 1000000 ∧ ∀ d ∈ ds, Pl n d
  | n + 1, .lst ds => ds.length ≤ 1000000 ∧ ∀ d ∈ ds, Pl n d
  | _, _ => False
def spS : Nat → DSp
  | 0 => fun _ _ _ _ => False
  | n + 1 => fun ds M Q _ => ∃ x y d, ds = [x, y] ∧ Vw M x d ∧ Vw M y d ∧ Pl n d ∧ Q (.bl true) M
def t_law_same (n : Nat) : DTS := (dSq (dIfS (dOr (dTest (dOp dIsN (dVar 1) (dC .non))) (dTest (dOp dIsN (dVar 0) (dC .non)))) (dRt (dAndV (dOp dIsN (dVar 1) (dC .non)) (dOp dIsN (dVar 0) (dC .non)))) dNx) (dSq (dIfS (dOr (dTru (dCB dIsi (dCons (dVar 1) (dCons (dC (.ty "bool")) dNil)))) (dTru (dCB dIsi (dCons (dVar 0) (dCons (dC (.ty "bool")) dNil))))) (dRt (dAndV (dCB dIsi (dCons (dVar 1) (dCons (dC (.ty "bool")) dNil))) (dAndV (dCB dIsi (dCons (dVar 0) (dCons (dC (.ty "bool")) dNil))) (dOp dEq (dVar 0) (dVar 1))))) dNx) (dSq (dIfS (dTru (dCB dIsi (dCons (dVar 1) (dCons (dC (.ty "int")) dNil)))) (dRt (dAndV (dCB dIsi (dCons (dVar 0) (dCons (dC (.ty "int")) dNil))) (dOp dEq (dVar 0) (dVar 1)))) dNx) (dSq (dIfS (dTru (dCB dIsi (dCons (dVar 1) (dCons (dC (.ty "str")) dNil)))) (dRt (dAndV (dCB dIsi (dCons (dVar 0) (dCons (dC (.ty "str")) dNil))) (dOp dEq (dVar 0) (dVar 1)))) dNx) (dSq (dIfS (dAnd (dTru (dCB dIsi (dCons (dVar 1) (dCons (dC (.ty "tuple")) dNil)))) (dNot (dTru (dCB dIsi (dCons (dVar 0) (dCons (dC (.ty "tuple")) dNil)))))) (dRt (dC (.bl false))) dNx) (dSq (dIfS (dAnd (dTru (dCB dIsi (dCons (dVar 1) (dCons (dC (.ty "list")) dNil)))) (dNot (dTru (dCB dIsi (dCons (dVar 0) (dCons (dC (.ty "list")) dNil)))))) (dRt (dC (.bl false))) dNx) (dSq (dIfS (dTest (dOp dNe (dCB dLen (dCons (dVar 0) dNil)) (dCB dLen (dCons (dVar 1) dNil)))) (dRt (dC (.bl false))) dNx) (dRt (dCB dAll (dCons (dLc false (diR1 (dCons (dCB dLen (dCons (dVar 1) dNil)) dNil)) (dgN 2) dYes (dCall (spS n) [] dX0 (dCons (dOp dIdx (dVar 0) (dVar 2)) (dCons (dOp dIdx (dVar 1) (dVar 2)) dNil))) [2]) dNil))))))))))
theorem len_law_same : ∀ n ds M Q E, spS n ds M Q E → ds.length = 2
  | 0, _, _, _, _, h => h.elim
  | n + 1, ds, M, Q, E, h => by
    obtain ⟨x, y, d, rfl, _⟩ := h
    rfl
theorem r_lenG {M : Mu} {d : D} {es : List D} {Q : DK} (e : dits M d = some es) (q : Q (.int es.length) M) : dLen [d] M Q := by
  unfold dLen
  cases d with
  | str cs => cases e
  | _ => simp only [e]; exact q
theorem r_idxG {M : Mu} {d z : D} {es : List D} {n : Int} {Q : DK} (e : dits M d = some es) (hk : atI es n = some z) (q : Q z M) : dIdx d (.int n) M Q := by
  unfold dIdx
  cases d with
  | str cs => cases e
  | _ => simp only [e, Option.bind_some, hk]; exact q
theorem same_seq {n : Nat} {M : Mu} {Q : DK} {x y : D} {ds : List D} {S : String} (hx : dits M x = some ds) (hy : dits M y = some ds) (nx : DL.isNon x = false) (ny : DL.isNon y = false) (tx : tyNm M x = some S) (ty : tyNm M y = some S) (hS : S = "tuple" ∨ S = "list")
    (hl : ds.length ≤ 1000000) (hp : ∀ d ∈ ds, ∀ Q E, Q (.bl true) M → spS n [d, d] M Q E) (h : Q (.bl true) M) : t_law_same n (dEnd Q) (dstart 3 [x, y]) M := by
  have k1 : kitB S "bool" = some false := by rcases hS with rfl | rfl <;> decide +kernel
  have k2 : kitB S "int" = some false := by rcases hS with rfl | rfl <;> decide +kernel
  have k3 : kitB S "str" = some false := by rcases hS with rfl | rfl <;> decide +kernel
  obtain ⟨k4, e4⟩ : ∃ b, kitB S "tuple" = some b := by rcases hS with rfl | rfl <;> exact ⟨_, rfl⟩
  obtain ⟨k5, e5⟩ : ∃ b, kitB S "list" = some b := by rcases hS with rfl | rfl <;> exact ⟨_, rfl⟩
  unfold t_law_same
  walk_at "go"
  refine r_if (r_or ?_)
  walk_at "st"
  rw [ny]
  refine ⟨fun z => (Bool.noConfusion z), fun _ => ?_⟩
  walk_at "st"
  rw [nx]
  refine ⟨fun z => (Bool.noConfusion z), fun _ => ?_⟩
  walk_at "st"
  refine r_if (r_or ?_)
  walk_at "st"
  refine r_isi ty k1 ?_
  walk_at "st"
  refine ⟨fun z => (Bool.noConfusion z), fun _ => ?_⟩
  walk_at "st"
  refine r_isi tx k1 ?_
  walk_at "st"
  refine ⟨fun z => (Bool.noConfusion z), fun _ => ?_⟩
  walk_at "st"
  refine r_if ?_
  walk_at "st"
  refine r_isi ty k2 ?_
  walk_at "st"
  refine ⟨fun z => (Bool.noConfusion z), fun _ => ?_⟩
  walk_at "st"
  refine r_if ?_
  walk_at "st"
  refine r_isi ty k3 ?_
  walk_at "st"
  refine ⟨fun z => (Bool.noConfusion z), fun _ => ?_⟩
  walk_at "st"
  refine r_if (r_and ?_)
  walk_at "st"
  refine r_isi ty e4 ?_
  walk_at "st"
  have rest : (dSq (dIfS (dAnd (dTru (dCB dIsi (dCons (dVar 1) (dCons (dC (.ty "list")) dNil)))) (dNot (dTru (dCB dIsi (dCons (dVar 0) (dCons (dC (.ty "list")) dNil)))))) (dRt (dC (.bl false))) dNx) (dSq (dIfS (dTest (dOp dNe (dCB dLen (dCons (dVar 0) dNil)) (dCB dLen (dCons (dVar 1) dNil)))) (dRt (dC (.bl false))) dNx) (dRt (dCB dAll (dCons (dLc false (diR1 (dCons (dCB dLen (dCons (dVar 1) dNil)) dNil)) (dgN 2) dYes (dCall (spS n) [] dX0 (dCons (dOp dIdx (dVar 0) (dVar 2)) (dCons (dOp dIdx (dVar 1) (dVar 2)) dNil))) [2]) dNil))))) { nx := fun x M => Wq Q D.non M, rt := Wq Q } [some x, some y, none] M := by
    walk_at "st"
    have rest2 : (dSq (dIfS (dTest (dOp dNe (dCB dLen (dCons (dVar 0) dNil)) (dCB dLen (dCons (dVar 1) dNil)))) (dRt (dC (.bl false))) dNx) (dRt (dCB dAll (dCons (dLc false (diR1 (dCons (dCB dLen (dCons (dVar 1) dNil)) dNil)) (dgN 2) dYes (dCall (spS n) [] dX0 (dCons (dOp dIdx (dVar 0) (dVar 2)) (dCons (dOp dIdx (dVar 1) (dVar 2)) dNil))) [2]) dNil)))) { nx := fun x M => Wq Q D.non M, rt := Wq Q } [some x, some y, none] M := by
      walk_at "st"
      refine r_if ?_
      walk_at "st"
      refine r_lenG hx ?_
      walk_at "st"
      refine r_lenG hy ?_
      walk_at "st"
      refine ⟨fun z => by simp at z, fun _ => ?_⟩
      walk_at "st"
      refine r_lenG hy ?_
      walk_at "st"
      refine r_kR1 (by omega) (by omega) ?_
      rw [Int.toNat_natCast]
      refine lc_map (fun _ => .bl true) trivial _ _ (by rw [rngD_len, List.length_nil, Nat.zero_add]; exact sz1000 hl) (fun z hz R hR => ?_) ?_
      · obtain ⟨j, hj, rfl⟩ := List.mem_map.mp hz
        rw [List.mem_range] at hj
        rw [Int.zero_add]
        simp only [dwipe, List.set]
        walk_at "st"
        have hg := atI_nat (xs := ds) (j := j) (List.getElem?_eq_getElem hj)
        refine r_idxG hx hg ?_
        walk_at "st"
        refine r_idxG hy hg ?_
        walk_at "st"
        exact hp _ (List.getElem_mem hj) _ _ hR
      · walk_at "st"
        refine r_all (bs := List.replicate ds.length true) (es := List.replicate ds.length (.bl true)) ?_ ?_ ?_
        · rw [List.nil_append, List.map_const', rngD_len]; rfl
        · rw [← List.map_replicate, blsOf_map]
        · refine Wq.now ?_
          have : (List.replicate ds.length true).all id = true := by
            rw [List.all_eq_true]
            intro b hb
            exact (List.eq_of_mem_replicate hb)
          rw [this]
          exact h
    refine r_if (r_and ?_)
    walk_at "st"
    refine r_isi ty e5 ?_
    walk_at "st"
    refine ⟨fun z => ?_, fun z => ?_⟩
    · subst z
      walk_at "st"
      refine r_isi tx e5 ?_
      walk_at "st"
      refine ⟨fun z => (Bool.noConfusion z), fun _ => ?_⟩
      exact rest2
    · exact ⟨fun z => (Bool.noConfusion z), fun _ => rest2⟩
  refine ⟨fun z => ?_, fun z => ?_⟩
  · subst z
    walk_at "st"
    refine r_isi tx e4 ?_
    walk_at "st"
    refine ⟨fun z => (Bool.noConfusion z), fun _ => ?_⟩
    exact rest
  · exact ⟨fun z => (Bool.noConfusion z), fun _ => rest⟩
theorem sem_law_same (n : Nat) (ds : List D) (M : Mu) (Q : DK) (E : DXK) (h : spS (n + 1) ds M Q E) : t_law_same n (dEnd Q) (dstart 3 ds) M := by
  obtain ⟨x, y, d, rfl, hx, hy, hp, h⟩ := h
  have seq : ∀ es : List D, (d = .tup es ∨ d = .lst es) → es.length ≤ 1000000 → (∀ e ∈ es, ∀ Q E, Q (.bl true) M → spS n [e, e] M Q E) → t_law_same n (dEnd Q) (dstart 3 [x, y]) M := by
    intro es hd hl hq
    rcases hd with rfl | rfl
    · rcases hx with rfl | ⟨a, fs, _, hz, _⟩
      · rcases hy with rfl | ⟨a, fs, _, hz, _⟩
        · exact same_seq rfl rfl rfl rfl rfl rfl (.inl rfl) hl hq h
        · cases hz
      · cases hz
    · have two : ∀ z, Vw M z (.lst es) → dits M z = some es ∧ DL.isNon z = false ∧ tyNm M z = some "list" := by
        intro z hz
        rcases hz with rfl | ⟨a, fs, rfl, hz, e⟩
        · exact ⟨rfl, rfl, rfl⟩
        · cases hz
          exact ⟨dits_ref e, rfl, tyNm_ref e⟩
      obtain ⟨a1, a2, a3⟩ := two x hx
      obtain ⟨b1, b2, b3⟩ := two y hy
      exact same_seq a1 b1 a2 b2 a3 b3 (.inr rfl) hl hq h
  have atom : (∀ ds, d ≠ .lst ds) → x = d ∧ y = d := fun hd => by
    refine ⟨?_, ?_⟩
    · rcases hx with rfl | ⟨a, fs, _, hz, _⟩
      · rfl
      · exact absurd hz (hd _)
    · rcases hy with rfl | ⟨a, fs, _, hz, _⟩
      · rfl
      · exact absurd hz (hd _)
  cases d with
  | non =>
    obtain ⟨rfl, rfl⟩ := atom (fun _ z => by cases z)
    unfold t_law_same
    walk_at "go"
    refine r_if (r_or ?_)
    walk_at "st"
    refine ⟨fun _ => ?_, fun z => (Bool.noConfusion z)⟩
    refine ⟨fun _ => ?_, fun z => (Bool.noConfusion z)⟩
    walk_at "st"
    refine r_andV ?_
    walk_at "st"
    refine ⟨fun _ => ?_, fun z => (Bool.noConfusion z)⟩
    walk_at "st"
    exact Wq.now h
  | bl b =>
    obtain ⟨rfl, rfl⟩ := atom (fun _ z => by cases z)
    unfold t_law_same
    walk_at "go"
    refine r_if (r_or ?_)
    walk_at "st"
    refine ⟨fun z => (Bool.noConfusion z), fun _ => ?_⟩
    walk_at "st"
    refine ⟨fun z => (Bool.noConfusion z), fun _ => ?_⟩
    walk_at "st"
    refine r_if (r_or ?_)
    walk_at "st"
    refine r_isi (S := "bool") (b := true) rfl (by decide +kernel) ?_
    walk_at "st"
    refine ⟨fun _ => ?_, fun z => (Bool.noConfusion z)⟩
    refine ⟨fun _ => ?_, fun z => (Bool.noConfusion z)⟩
    walk_at "st"
    refine r_andV ?_
    walk_at "st"
    refine r_isi (S := "bool") (b := true) rfl (by decide +kernel) ?_
    walk_at "st"
    refine ⟨fun _ => ?_, fun z => (Bool.noConfusion z)⟩
    refine r_andV ?_
    walk_at "st"
    refine r_isi (S := "bool") (b := true) rfl (by decide +kernel) ?_
    walk_at "st"
    refine ⟨fun _ => ?_, fun z => (Bool.noConfusion z)⟩
    walk_at "st"
    rw [decide_eq_true rfl]
    exact Wq.now h
  | int i =>
    obtain ⟨rfl, rfl⟩ := atom (fun _ z => by cases z)
    unfold t_law_same
    walk_at "go"
    refine r_if (r_or ?_)
    walk_at "st"
    refine ⟨fun z => (Bool.noConfusion z), fun _ => ?_⟩
    walk_at "st"
    refine ⟨fun z => (Bool.noConfusion z), fun _ => ?_⟩
    walk_at "st"
    refine r_if (r_or ?_)
    walk_at "st"
    refine r_isi (S := "int") (b := false) rfl (by decide +kernel) ?_
    walk_at "st"
    refine ⟨fun z => (Bool.noConfusion z), fun _ => ?_⟩
    walk_at "st"
    refine r_isi (S := "int") (b := false) rfl (by decide +kernel) ?_
    walk_at "st"
    refine ⟨fun z => (Bool.noConfusion z), fun _ => ?_⟩
    walk_at "st"
    refine r_if ?_
    walk_at "st"
    refine r_isi (S := "int") (b := true) rfl (by decide +kernel) ?_
    walk_at "st"
    refine ⟨fun _ => ?_, fun z => (Bool.noConfusion z)⟩
    walk_at "st"
    refine r_andV ?_
    walk_at "st"
    refine r_isi (S := "int") (b := true) rfl (by decide +kernel) ?_
    walk_at "st"
    refine ⟨fun _ => ?_, fun z => (Bool.noConfusion z)⟩
    walk_at "st"
    rw [decide_eq_true rfl]
    exact Wq.now h
  | str i =>
    obtain ⟨rfl, rfl⟩ := atom (fun _ z => by cases z)
    unfold t_law_same
    walk_at "go"
    refine r_if (r_or ?_)
    walk_at "st"
    refine ⟨fun z => (Bool.noConfusion z), fun _ => ?_⟩
    walk_at "st"
    refine ⟨fun z => (Bool.noConfusion z), fun _ => ?_⟩
    walk_at "st"
    refine r_if (r_or ?_)
    walk_at "st"
    refine r_isi (S := "str") (b := false) rfl (by decide +kernel) ?_
    walk_at "st"
    refine ⟨fun z => (Bool.noConfusion z), fun _ => ?_⟩
    walk_at "st"
    refine r_isi (S := "str") (b := false) rfl (by decide +kernel) ?_
    walk_at "st"
    refine ⟨fun z => (Bool.noConfusion z), fun _ => ?_⟩
    walk_at "st"
    refine r_if ?_
    walk_at "st"
    refine r_isi (S := "str") (b := false) rfl (by decide +kernel) ?_
    walk_at "st"
    refine ⟨fun z => (Bool.noConfusion z), fun _ => ?_⟩
    walk_at "st"
    refine r_if ?_
    walk_at "st"
    refine r_isi (S := "str") (b := true) rfl (by decide +kernel) ?_
    walk_at "st"
    refine ⟨fun _ => ?_, fun z => (Bool.noConfusion z)⟩
    walk_at "st"
    refine r_andV ?_
    walk_at "st"
    refine r_isi (S := "str") (b := true) rfl (by decide +kernel) ?_
    walk_at "st"
    refine ⟨fun _ => ?_, fun z => (Bool.noConfusion z)⟩
    walk_at "st"
    rw [decide_eq_true rfl]
    exact Wq.now h
  | tup es =>
    cases n with
    | zero => exact hp.elim
    | succ m => exact seq es (.inl rfl) hp.1 fun e he Q E q => ⟨e, e, e, rfl, .inl rfl, .inl rfl, hp.2 e he, q⟩
  | lst es =>
    cases n with
    | zero => exact hp.elim
    | succ m => exact seq es (.inr rfl) hp.1 fun e he Q E q => ⟨e, e, e, rfl, .inl rfl, .inl rfl, hp.2 e he, q⟩
  | src _ => cases n <;> exact hp.elim
  | ref _ => cases n <;> exact hp.elim
  | ty _ => cases n <;> exact hp.elim
def sp_law_same : DSp := spS 9
/-! a def that promises nothing -/
theorem cal_no {P : Program} {w : World} {K : PySem.W.Frag} {mg : Str → Option Value} {base : Heap} {x : Str} {st : Stmt} {N ps : List Str} (d : DefAt K mg x st) (S : FnScope N ps (defScope st))
    (hbind : ∀ (kV doc pm : Value) (an : Option Addr) (cdv ct : Value) (us : List Value), us.length = ps.length → bindArgs (PySem.W.fnOf x x (defArgs st) (defBody st) (defScope st) .none kV doc pm an cdv ct) ⟨us, []⟩ = pure (ps.zip us)) :
    Cal P w K mg base 0 x ps (fun _ _ _ _ => False) := by
  obtain ⟨f, fd, F, m⟩ := d
  refine ⟨f, fd, ⟨fun vs H Q E h => ?_, fun A outer s H args us vs Q E hr he hb hv h => ?_⟩, m, F.kp, ?_⟩
  · obtain ⟨ds, M, F, Qd, Ed, r, s, h, _⟩ := h
    exact h.elim
  · obtain ⟨ds, M, F, Qd, Ed, r, s, h, _⟩ := h
    exact h.elim
  · exact F.bindsN hbind
end DL

namespace DL
open PySem PySem.Spec PyProof.Rows L2 TL

/-! ### from the head's facts to the data layer -/
def mkD (x : Str) (st : Stmt) : He.DefD := ⟨(x, none), x, x, defArgs st, defBody st, defScope st, [], []⟩
section
variable {K : PySem.W.Frag} {h : Heap} {mg : Str → Option Value} {w : World} {fa : List He.Fa} {fn : List He.DefD} {x : Str}
theorem defAt_of (X : K.In h) (G : h.Ns mainGlobals mg) (c : He.SaysD fa fn K) {st : Stmt} (i j : Nat) (h1 : fn[i]? = some (mkD x st)) (h2 : fa[j]? = some (.glo x)) : DefAt K mg x st := by
  obtain ⟨fd, F⟩ := c.def_ i h1
  exact ⟨_, fd, F, He.glo_ok X G (c.fact j h2)⟩
theorem free_of (X : K.In h) (G : h.Ns mainGlobals mg) (c : He.SaysD fa fn K) (j : Nat) (h2 : fa[j]? = some (.free x)) : mg x = none := He.free_ok X G (c.fact j h2)
theorem gcS_of (X : K.In h) (G : h.Ns mainGlobals mg) (c : He.SaysD fa fn K) (j : Nat) {z : Str} {cs : List Nat} (h2 : fa[j]? = some (.str x z)) (e : z = mkS cs) : GC K mg x (.str cs) := by
  obtain ⟨t, e2⟩ := He.str_ok X G (c.fact j h2)
  exact gc_str e2 e
theorem gcI_of (X : K.In h) (G : h.Ns mainGlobals mg) (c : He.SaysD fa fn K) (j : Nat) {i : Int} (h2 : fa[j]? = some (.int x i)) : GC K mg x (.int i) := by
  obtain ⟨t, e2⟩ := He.int_ok X G (c.fact j h2)
  exact ⟨_, .int i, e2, ⟨t, rfl⟩, fun F => by unfold Rp; rfl⟩
theorem gdI_of (X : K.In h) (G : h.Ns mainGlobals mg) {ts : List He.Tab} (c : He.SaysT fa fn ts w K) (j i : Nat) {key : Str} {n : Int} {t : He.Tab} (h2 : fa[j]? = some (.glo x)) (h3 : ts[i]? = some t) (ht : t.1 K = He.ga K x) {kvs : List (Str × He.Dv)} (hv : He.valsB K (He.ga K x) kvs = true) (hm : (key, He.Dv.int n) ∈ kvs) : GD K mg w x key (.int n) := by
  obtain ⟨es, m, hd⟩ := c.tab i h3
  rw [ht] at hd
  obtain ⟨u, e, r⟩ := He.valsB_ok hv hm
  refine ⟨_, .int n, He.glo_ok X G (c.d.fact j h2), ⟨es, m, u, hd.at_, hd.lit, e, r⟩, fun F => by unfold Rp; rfl⟩
end
/-- the law's own def: from its script to True -/
theorem law_sp {K : PySem.W.Frag} {sp : DSp} (h : ∀ ns M Q E, Q (.bl true) M → sp [.src ns] M Q E) (H : Hp) (a : Addr) (ns : List Int) (hS : SqL K H a (ns.map V.int)) : liftSp K sp [.ref a] H (fun v _ => v = .bl true) fun _ _ _ => False := by
  refine ⟨[.src ns], fun _ => none, H, fun d _ => d = .bl true, fun _ _ => False, ?_, ⟨Le.refl H, fun _ _ _ => rfl, fun _ _ e => by cases e⟩, h _ _ _ _ rfl, ?_, fun _ _ _ _ _ q _ _ _ => q.elim⟩
  · refine RpL.cons ?_ RpL.nil
    unfold Rp
    exact ⟨a, rfl, hS⟩
  · intro d M' F' v H' q g s r
    subst q
    unfold Rp at r
    exact r
/-- sameness, to a depth -/
theorem cal_same {P : Program} {w : World} {K : PySem.W.Frag} {mg : Str → Option Value} {base : Heap} {st : Stmt} {N : List Str} (d : DefAt K mg "_law_same" st) (S : FnScope N ["answer", "due"] (defScope st)) (hN : N.length = 3)
    (hb : ∀ (n k : Nat), Cal P w K mg base k "_law_same" ["answer", "due"] (spS n) → ∀ (f : Addr) (cdv : Value) (A : Around) (outer : List Env) (s : Shared) (H : Hp) (E : XK), Room k (A.deeper (envOfC "_law_same" (defScope st) s.heap.objs.size f cdv)) → DSs (cxOf CX0 P w K mg base N "_law_same" (defScope st) f cdv A outer s H E).nox (defBody st) (t_law_same n))
    (hbind : ∀ (kV doc pm : Value) (an : Option Addr) (cdv ct : Value) (us : List Value), us.length = 2 → bindArgs (PySem.W.fnOf "_law_same" "_law_same" (defArgs st) (defBody st) (defScope st) .none kV doc pm an cdv ct) ⟨us, []⟩ = pure ((["answer", "due"] : List Str).zip us)) :
    ∀ n, Cal P w K mg base n "_law_same" ["answer", "due"] (spS n)
  | 0 => cal_no d S hbind
  | n + 1 => cal_of d S (len_law_same (n + 1)) hbind (hb n n (cal_same d S hN hb hbind n)) fun ds M Q E h => by
    rw [hN]
    exact sem_law_same n ds M Q E h
end DL

namespace K06
open PySem PySem.Spec PyProof.Rows L2 TL DL

/-! ### plain: numbers as words -/
theorem numI_nat (n : Nat) : numI (n : Int) = numL n := tl_num n
theorem numI_neg {n : Nat} (h : 0 < n) : numI (-(n : Int)) = 45 :: numL n := by
  unfold numI
  have e := toString_neg (n := -(n : Int)) (by omega)
  rw [e, show (0 : Int) - -(n : Int) = (n : Int) by omega]
  have e2 : Str.ofString ("-" ++ toString (n : Int)) = Str.ofString "-" ++ Str.ofString (toString (n : Int)) := by
    refine ext_tl ?_
    rw [tl_append, tl_ofString, tl_ofString, tl_ofString, String.toList_append, List.map_append]
  rw [e2, tl_append, tl_num]
  rfl
theorem mkS_num (n : Nat) : mkS (numL n) = Str.ofString (toString (n : Int)) := by rw [← tl_num, mkS_of]
theorem numI_free {c : Nat} (h : c ≠ 45 ∧ (c < 48 ∨ 57 < c)) (i : Int) : c ∉ numI i := int_text_free' c h i
theorem numL_zero : numL 0 = [48] := numL_lt (by decide)
theorem numL_head : ∀ {n : Nat}, n ≠ 0 → ∃ c r, numL n = c :: r ∧ c ≠ 48 := by
  intro n
  induction n using Nat.strongRecOn with
  | _ n ih =>
    intro h
    by_cases h1 : n < 10
    · exact ⟨48 + n, [], numL_lt h1, by omega⟩
    · obtain ⟨c, r, e, hc⟩ := ih (n / 10) (by omega) (by omega)
      exact ⟨c, r ++ [48 + n % 10], by rw [numL_step (by omega), e]; rfl, hc⟩
theorem numI_inj {i j : Nat} (h : numI (i : Int) = numI (j : Int)) : i = j := by
  rw [numI_nat, numI_nat] at h
  exact numL_inj h
theorem int_cases (i : Int) : (∃ n : Nat, i = n) ∨ ∃ n : Nat, 0 < n ∧ i = -(n : Int) := by
  rcases Int.lt_or_le i 0 with h | h
  · exact .inr ⟨i.natAbs, by omega, by omega⟩
  · exact .inl ⟨i.natAbs, by omega⟩
theorem numI_ne (i : Int) : numI i ≠ [] := by
  rcases int_cases i with ⟨n, rfl⟩ | ⟨n, h, rfl⟩
  · rw [numI_nat]; exact numL_ne n
  · rw [numI_neg h]; simp
theorem numI_len {i : Int} (h : i.natAbs < 10 ^ 100) : (numI i).length ≤ 101 := by
  rcases int_cases i with ⟨n, rfl⟩ | ⟨n, h0, rfl⟩
  · rw [numI_nat]
    have := numL_len (n := n) (k := 100) (by decide) (by omega)
    omega
  · rw [numI_neg h0]
    have := numL_len (n := n) (k := 100) (by decide) (by omega)
    rw [List.length_cons]
    omega
def isFig (c : Nat) : Bool := decide (c ∈ [48, 49, 50, 51, 52, 53, 54, 55, 56, 57])
theorem isFig_iff (c : Nat) : isFig c = true ↔ 48 ≤ c ∧ c ≤ 57 := by
  unfold isFig
  rw [decide_eq_true_iff]
  constructor
  · intro h
    simp at h
    omega
  · intro h
    simp
    omega
def allFig (cs : List Nat) : Bool := !cs.isEmpty && cs.all isFig
def plain (cs : List Nat) : Bool := allFig cs && (decide (cs = [48]) || !decide (cs.take 1 = [48]))
def bare (cs : List Nat) : List Nat := if cs.take 1 = [45] then cs.drop 1 else cs
def Bad (cs : List Nat) : Prop := plain (bare cs) = false ∨ cs = [45, 48]
theorem allFig_num (n : Nat) : allFig (numL n) = true := by
  unfold allFig
  rw [Bool.and_eq_true]
  refine ⟨?_, List.all_eq_true.mpr fun c hc => (isFig_iff c).mpr (numL_digits n c hc)⟩
  cases e : numL n with
  | nil => exact absurd e (numL_ne n)
  | cons _ _ => rfl
theorem plain_num (n : Nat) : plain (numL n) = true := by
  unfold plain
  rw [allFig_num, Bool.true_and]
  by_cases h : n = 0
  · subst h
    rw [numL_zero]
    rfl
  · obtain ⟨c, r, e, hc⟩ := numL_head h
    rw [e]
    simp [hc]
theorem num_take (n : Nat) : (numL n).take 1 ≠ [45] := by
  intro h
  cases e : numL n with
  | nil => exact absurd e (numL_ne n)
  | cons c r =>
    rw [e] at h
    have := numL_digits n c (by rw [e]; exact List.mem_cons_self ..)
    simp at h
    omega
theorem bare_num (n : Nat) : bare (numL n) = numL n := if_neg (num_take n)
theorem bare_neg (n : Nat) : bare (45 :: numL n) = numL n := rfl
/-- a sign that is no figure, not at the place of the - -/
theorem bad_of {c : Nat} {cs : List Nat} (hc : isFig c = false) (h : c ∈ cs) (h2 : c ≠ 45 ∨ c ∈ cs.drop 1) : Bad cs := by
  left
  have hb : c ∈ bare cs := by
    unfold bare
    by_cases e : cs.take 1 = [45]
    · rw [if_pos e]
      rcases h2 with h2 | h2
      · cases cs with
        | nil => cases h
        | cons a r =>
          simp at e
          subst e
          rcases List.mem_cons.mp h with z | z
          · exact absurd z h2
          · exact z
      · exact h2
    · rw [if_neg e]; exact h
  unfold plain allFig
  have : (bare cs).all isFig = false := by
    rw [List.all_eq_false]
    exact ⟨c, hb, by rw [hc]; decide⟩
  rw [this, Bool.and_false, Bool.false_and]
theorem bad_dash : Bad [45] := .inl rfl
/-! ### lines -/
def wordOf : Option Int → List Nat
  | none => [45]
  | some i => numI i
def Gd (o : Option Int) : Prop := ∀ i, o = some i → i.natAbs < 10 ^ 100
theorem word_free {c : Nat} (h : c ≠ 45 ∧ (c < 48 ∨ 57 < c)) (o : Option Int) : c ∉ wordOf o := by
  cases o with
  | none => intro z; exact h.1 (List.mem_singleton.mp z)
  | some i => exact numI_free h i
theorem word_ne (o : Option Int) : wordOf o ≠ [] := by
  cases o with
  | none => intro z; cases z
  | some i => exact numI_ne i
theorem word_len {o : Option Int} (h : Gd o) : (wordOf o).length ≤ 101 := by
  cases o with
  | none => show 1 ≤ 101; decide
  | some i => exact numI_len (h i rfl)
def rnd : List Nat := [114, 111, 117, 110, 100]
def wsOf (at' : Nat) (row : List (Option Int)) : List (List Nat) := rnd :: numI (at' : Int) :: row.map wordOf
def lineOf (at' : Nat) (row : List (Option Int)) : List Nat := joinL [32] (wsOf at' row)
theorem join_flat (p : List Nat) : ∀ ps : List (List Nat), joinL [32] (p :: ps) = p ++ (ps.map (32 :: ·)).flatten := by
  intro ps
  induction ps generalizing p with
  | nil => simp [joinL]
  | cons q r ih =>
    show p ++ ([32] ++ joinL [32] (q :: r)) = _
    rw [ih q]
    simp
theorem join_nil : ∀ ps : List (List Nat), joinL [] ps = ps.flatten := by
  intro ps
  induction ps with
  | nil => rfl
  | cons p r ih =>
    cases r with
    | nil => simp [joinL]
    | cons q r =>
      show p ++ ([] ++ joinL [] (q :: r)) = _
      rw [ih]
      simp
theorem join_snoc {S : List Nat} : ∀ {ps : List (List Nat)} {q : List Nat}, ps ≠ [] → joinL S (ps ++ [q]) = joinL S ps ++ (S ++ q)
  | [], _, h => absurd rfl h
  | [p], q, _ => rfl
  | p :: p2 :: r, q, _ => by
    show p ++ (S ++ joinL S ((p2 :: r) ++ [q])) = p ++ (S ++ joinL S (p2 :: r)) ++ (S ++ q)
    rw [join_snoc (by simp)]
    simp
theorem ws_free32 (at' : Nat) (row : List (Option Int)) : ∀ w ∈ wsOf at' row, 32 ∉ w := by
  intro w hw
  rcases List.mem_cons.mp hw with rfl | hw
  · decide
  rcases List.mem_cons.mp hw with rfl | hw
  · exact numI_free (by decide) _
  · obtain ⟨o, _, rfl⟩ := List.mem_map.mp hw
    exact word_free (by decide) o
theorem ws_free10 (at' : Nat) (row : List (Option Int)) : ∀ w ∈ wsOf at' row, 10 ∉ w := by
  intro w hw
  rcases List.mem_cons.mp hw with rfl | hw
  · decide
  rcases List.mem_cons.mp hw with rfl | hw
  · exact numI_free (by decide) _
  · obtain ⟨o, _, rfl⟩ := List.mem_map.mp hw
    exact word_free (by decide) o
theorem join_free {c : Nat} {S : List Nat} (hS : c ∉ S) : ∀ {ps : List (List Nat)}, (∀ w ∈ ps, c ∉ w) → c ∉ joinL S ps
  | [], _ => by simp [joinL]
  | [p], h => h p (List.mem_cons_self ..)
  | p :: q :: r, h => by
    show c ∉ p ++ (S ++ joinL S (q :: r))
    have i := join_free hS (ps := q :: r) fun w hw => h w (List.mem_cons_of_mem _ hw)
    have j := h p (List.mem_cons_self ..)
    simp [List.mem_append, hS, i, j]
theorem line_free (at' : Nat) (row : List (Option Int)) : 10 ∉ lineOf at' row := join_free (by decide) (ws_free10 at' row)
theorem spl_line (at' : Nat) (row : List (Option Int)) : spl [32] 0 [] (lineOf at' row) = wsOf at' row := spl_join (by unfold wsOf; simp) (ws_free32 at' row)
theorem line_len {at' : Nat} {row : List (Option Int)} (ha : at' < 10 ^ 9) (hr : row.length ≤ 9) (hg : ∀ o ∈ row, Gd o) : (lineOf at' row).length ≤ 1100 := by
  unfold lineOf wsOf
  rw [join_flat, List.map_cons, List.flatten_cons, List.length_append, List.length_append, List.length_cons]
  have h1 : (numI (at' : Int)).length ≤ 101 := numI_len (by omega)
  have h2 : ∀ ps : List (List Nat), (∀ p ∈ ps, p.length ≤ 101) → ((ps.map (32 :: ·)).flatten).length ≤ 102 * ps.length := by
    intro ps hp
    induction ps with
    | nil => simp
    | cons p r ih =>
      rw [List.map_cons, List.flatten_cons, List.length_append, List.length_cons, List.length_cons]
      have := ih fun q hq => hp q (List.mem_cons_of_mem _ hq)
      have := hp p (List.mem_cons_self ..)
      omega
  have h3 := h2 (row.map wordOf) (fun p hp => by
    obtain ⟨o, ho, rfl⟩ := List.mem_map.mp hp
    exact word_len (hg o ho))
  rw [List.length_map] at h3
  have h4 : rnd.length = 5 := rfl
  omega
/-! ### lines that are not due -/
/-- the words ws are no row of that number and width -/
def BadL (ws : List (List Nat)) (at' many : Nat) : Prop := ws.length ≠ many + 2 ∨ ∃ w0 w1 rest, ws = w0 :: w1 :: rest ∧ (w0 ≠ rnd ∨ w1 ≠ numI (at' : Int) ∨ ∃ (pre : List (Option Int)) (b : List Nat) (post : List (List Nat)), rest = pre.map wordOf ++ b :: post ∧ (∀ o ∈ pre, Gd o) ∧ Bad b ∧ b ≠ [45] ∧ b.length ≤ 640)
def BadT (line : List Nat) (at' many : Nat) : Prop := 10 ∉ line ∧ line.length ≤ 4000 ∧ BadL (spl [32] 0 [] line) at' many
theorem badT_len {line : List Nat} {at' many : Nat} (ps : List (List Nat)) (he : line = joinL [32] ps) (hne : ps ≠ []) (h32 : ∀ p ∈ ps, 32 ∉ p) (h10 : ∀ p ∈ ps, 10 ∉ p) (hl : line.length ≤ 4000) (h : BadL ps at' many) : BadT line at' many := by
  subst he
  exact ⟨join_free (by decide) h10, hl, by rw [spl_join hne h32]; exact h⟩
section
variable {at' many : Nat} {row : List (Option Int)}
theorem ws_len (at' : Nat) (row : List (Option Int)) : (wsOf at' row).length = row.length + 2 := by
  unfold wsOf
  rw [List.length_cons, List.length_cons, List.length_map]
theorem ws_ne (at' : Nat) (row : List (Option Int)) : wsOf at' row ≠ [] := by unfold wsOf; simp
structure GoodR (many : Nat) (row : List (Option Int)) : Prop where
  len : row.length = many
  gd : ∀ o ∈ row, Gd o
theorem join_len1 {S : List Nat} {ps : List (List Nat)} : (joinL S (ps ++ [[]])).length ≤ (joinL S ps).length + S.length := by
  by_cases h : ps = []
  · subst h; simp [joinL]
  · rw [join_snoc h]; simp
theorem way0 (hg : GoodR many row) (hl : (lineOf at' row).length ≤ 1100) : BadT (lineOf at' row ++ [32]) at' many := by
  refine badT_len (wsOf at' row ++ [[]]) ?_ (by simp) ?_ ?_ (by rw [List.length_append]; show _ + 1 ≤ _; omega) (.inl ?_)
  · rw [join_snoc (ws_ne _ _)]; rfl
  · intro p hp
    rcases List.mem_append.mp hp with hp | hp
    · exact ws_free32 _ _ p hp
    · rw [List.mem_singleton.mp hp]; simp
  · intro p hp
    rcases List.mem_append.mp hp with hp | hp
    · exact ws_free10 _ _ p hp
    · rw [List.mem_singleton.mp hp]; simp
  · rw [List.length_append, ws_len, hg.len]; show many + 2 + 1 ≠ _; omega
theorem way1 (hg : GoodR many row) (hl : (lineOf at' row).length ≤ 1100) : BadT (lineOf at' row ++ [32, 48]) at' many := by
  refine badT_len (wsOf at' row ++ [[48]]) ?_ (by simp) ?_ ?_ (by rw [List.length_append]; show _ + 2 ≤ _; omega) (.inl ?_)
  · rw [join_snoc (ws_ne _ _)]; rfl
  · intro p hp
    rcases List.mem_append.mp hp with hp | hp
    · exact ws_free32 _ _ p hp
    · rw [List.mem_singleton.mp hp]; decide
  · intro p hp
    rcases List.mem_append.mp hp with hp | hp
    · exact ws_free10 _ _ p hp
    · rw [List.mem_singleton.mp hp]; decide
  · rw [List.length_append, ws_len, hg.len]; show many + 2 + 1 ≠ _; omega
theorem join_drop_le {S : List Nat} {ps : List (List Nat)} {q : List Nat} : (joinL S ps).length ≤ (joinL S (ps ++ [q])).length := by
  by_cases h : ps = []
  · subst h; simp [joinL]
  · rw [join_snoc h, List.length_append]; omega
/-- the row's last word stands apart -/
theorem ws_last (hg : GoodR many row) (h1 : 1 ≤ many) : ∃ (pre : List (Option Int)) (o : Option Int), row = pre ++ [o] ∧ wsOf at' row = (rnd :: numI (at' : Int) :: pre.map wordOf) ++ [wordOf o] := by
  have hne : row ≠ [] := by intro z; have := hg.len; rw [z] at this; simp at this; omega
  refine ⟨row.dropLast, row.getLast hne, (List.dropLast_concat_getLast hne).symm, ?_⟩
  conv => lhs; rw [← List.dropLast_concat_getLast hne]
  unfold wsOf
  rw [List.map_append]
  rfl
theorem way2 (hg : GoodR many row) (h1 : 1 ≤ many) (hl : (lineOf at' row).length ≤ 1100) : BadT (joinL [32] (wsOf at' row).dropLast) at' many := by
  obtain ⟨pre, o, e1, e2⟩ := ws_last (at' := at') hg h1
  unfold lineOf at hl
  rw [e2] at hl
  rw [e2, List.dropLast_concat]
  refine badT_len _ rfl (by simp) ?_ ?_ (by have := join_drop_le (S := [32]) (ps := rnd :: numI (at' : Int) :: pre.map wordOf) (q := wordOf o); omega) (.inl ?_)
  · intro p hp; exact ws_free32 at' row p (by rw [e2]; exact List.mem_append_left _ hp)
  · intro p hp; exact ws_free10 at' row p (by rw [e2]; exact List.mem_append_left _ hp)
  · have := hg.len
    rw [e1, List.length_append] at this
    rw [List.length_cons, List.length_cons, List.length_map]
    simp at this
    omega
/-- the row's words, another last one -/
theorem last_bad (hg : GoodR many row) {pre : List (Option Int)} {o : Option Int} (e1 : row = pre ++ [o]) {b : List Nat} (hb : Bad b) (hb2 : b ≠ [45]) (hbl : b.length ≤ 640) (h32 : 32 ∉ b) (h10 : 10 ∉ b)
    (hl : (lineOf at' row).length ≤ 1100) : BadT (joinL [32] ((rnd :: numI (at' : Int) :: pre.map wordOf) ++ [b])) at' many := by
  have e2 : wsOf at' row = (rnd :: numI (at' : Int) :: pre.map wordOf) ++ [wordOf o] := by rw [e1]; unfold wsOf; rw [List.map_append]; rfl
  refine badT_len _ rfl (by simp) ?_ ?_ ?_ (.inr ⟨rnd, numI (at' : Int), pre.map wordOf ++ [b], rfl, .inr (.inr ⟨pre, b, [], rfl, fun o ho => hg.gd o (by rw [e1]; exact List.mem_append_left _ ho), hb, hb2, hbl⟩)⟩)
  · intro p hp
    rcases List.mem_append.mp hp with hp | hp
    · exact ws_free32 at' row p (by rw [e2]; exact List.mem_append_left _ hp)
    · rw [List.mem_singleton.mp hp]; exact h32
  · intro p hp
    rcases List.mem_append.mp hp with hp | hp
    · exact ws_free10 at' row p (by rw [e2]; exact List.mem_append_left _ hp)
    · rw [List.mem_singleton.mp hp]; exact h10
  · unfold lineOf at hl
    rw [e2, join_snoc (by simp), List.length_append] at hl
    rw [join_snoc (by simp), List.length_append, List.length_append]
    simp at hl ⊢
    omega
theorem line_last {pre : List (Option Int)} {o : Option Int} (e1 : row = pre ++ [o]) : lineOf at' row = joinL [32] (rnd :: numI (at' : Int) :: pre.map wordOf) ++ (32 :: wordOf o) := by
  unfold lineOf
  have e2 : wsOf at' row = (rnd :: numI (at' : Int) :: pre.map wordOf) ++ [wordOf o] := by rw [e1]; unfold wsOf; rw [List.map_append]; rfl
  rw [e2, join_snoc (by simp)]
  rfl
theorem way4 (hg : GoodR many row) (h1 : 1 ≤ many) (hl : (lineOf at' row).length ≤ 1100) {x : List Nat} (hx : x = [97] ∨ x = [45, 45] ∨ x = [49, 47, 50] ∨ x = [43]) : BadT ((lineOf at' row).dropLast ++ x) at' many := by
  obtain ⟨pre, o, e1, e2⟩ := ws_last (at' := at') hg h1
  have hw := word_ne o
  have e3 : (lineOf at' row).dropLast ++ x = joinL [32] ((rnd :: numI (at' : Int) :: pre.map wordOf) ++ [(wordOf o).dropLast ++ x]) := by
    rw [line_last e1, List.dropLast_append_of_ne_nil (by simp), join_snoc (by simp), List.dropLast_cons_of_ne_nil hw]
    simp
  have hlast : ∀ c, c ∉ wordOf o → c ∉ (wordOf o).dropLast := fun c h z => h (List.dropLast_subset _ z)
  have hwl : (wordOf o).dropLast.length ≤ 101 := by
    rw [List.length_dropLast]
    have := word_len (hg.gd o (by rw [e1]; simp))
    omega
  rw [e3]
  refine last_bad hg e1 ?_ ?_ ?_ ?_ ?_ hl
  · rcases hx with rfl | rfl | rfl | rfl
    · exact bad_of (c := 97) rfl (by simp) (.inl (by decide))
    · refine bad_of (c := 45) rfl (by simp) (.inr ?_)
      cases (wordOf o).dropLast with
      | nil => simp
      | cons a r => simp
    · exact bad_of (c := 47) rfl (by simp) (.inl (by decide))
    · exact bad_of (c := 43) rfl (by simp) (.inl (by decide))
  · intro z
    have z2 := congrArg List.length z
    rw [List.length_append] at z2
    rcases hx with rfl | rfl | rfl | rfl
    · have : (97 : Nat) ∈ [45] := by rw [← z]; simp
      simp at this
    · simp at z2
    · simp at z2
    · have : (43 : Nat) ∈ [45] := by rw [← z]; simp
      simp at this
  · rw [List.length_append]
    have : x.length ≤ 3 := by rcases hx with rfl | rfl | rfl | rfl <;> decide
    omega
  · rw [List.mem_append]
    rintro (z | z)
    · exact hlast 32 (word_free (by decide) o) z
    · rcases hx with rfl | rfl | rfl | rfl <;> simp at z
  · rw [List.mem_append]
    rintro (z | z)
    · exact hlast 10 (word_free (by decide) o) z
    · rcases hx with rfl | rfl | rfl | rfl <;> simp at z
theorem way6 (hg : GoodR many row) (h1 : 1 ≤ many) (hl : (lineOf at' row).length ≤ 1100) {x : List Nat} (hx : x = [45, 48] ∨ x = [48, 48] ∨ x = [48, 49] ∨ x = [45, 48, 49] ∨ x = [] ∨ x = [49, 32, 50]) :
    BadT (joinL [32] ((wsOf at' row).dropLast ++ [x])) at' many := by
  obtain ⟨pre, o, e1, e2⟩ := ws_last (at' := at') hg h1
  rw [e2, List.dropLast_concat]
  have five : (x = [45, 48] ∨ x = [48, 48] ∨ x = [48, 49] ∨ x = [45, 48, 49] ∨ x = []) → BadT (joinL [32] ((rnd :: numI (at' : Int) :: pre.map wordOf) ++ [x])) at' many := fun hx => by
    refine last_bad hg e1 ?_ ?_ ?_ ?_ ?_ hl
    · rcases hx with rfl | rfl | rfl | rfl | rfl
      · exact .inr rfl
      · exact .inl rfl
      · exact .inl rfl
      · exact .inl rfl
      · exact .inl rfl
    all_goals rcases hx with rfl | rfl | rfl | rfl | rfl <;> decide
  rcases hx with hx | hx | hx | hx | hx | rfl
  · exact five (.inl hx)
  · exact five (.inr (.inl hx))
  · exact five (.inr (.inr (.inl hx)))
  · exact five (.inr (.inr (.inr (.inl hx))))
  · exact five (.inr (.inr (.inr (.inr hx))))
  · refine badT_len ((rnd :: numI (at' : Int) :: pre.map wordOf) ++ [[49]] ++ [[50]]) ?_ (by simp) ?_ ?_ ?_ (.inl ?_)
    · rw [join_snoc (by simp), join_snoc (by simp), join_snoc (by simp)]; simp
    · intro p hp
      rcases List.mem_append.mp hp with hp | hp
      · rcases List.mem_append.mp hp with hp | hp
        · exact ws_free32 at' row p (by rw [e2]; exact List.mem_append_left _ hp)
        · rw [List.mem_singleton.mp hp]; decide
      · rw [List.mem_singleton.mp hp]; decide
    · intro p hp
      rcases List.mem_append.mp hp with hp | hp
      · rcases List.mem_append.mp hp with hp | hp
        · exact ws_free10 at' row p (by rw [e2]; exact List.mem_append_left _ hp)
        · rw [List.mem_singleton.mp hp]; decide
      · rw [List.mem_singleton.mp hp]; decide
    · rw [line_last e1, List.length_append] at hl
      rw [join_snoc (by simp), List.length_append]
      simp at hl ⊢
      omega
    · have := hg.len
      rw [e1, List.length_append] at this
      simp at this ⊢
      omega
/-- behind the head of the row -/
theorem line_head (at' : Nat) (row : List (Option Int)) : lineOf at' row = [114, 111, 117, 110, 100, 32] ++ numI (at' : Int) ++ ((row.map wordOf).map (32 :: ·)).flatten := by
  unfold lineOf wsOf
  rw [join_flat, List.map_cons, List.flatten_cons]
  unfold rnd
  simp
theorem other_head {w1 : List Nat} (hg : GoodR many row) (hw : w1 ≠ numI (at' : Int)) (h32 : 32 ∉ w1) (h10 : 10 ∉ w1) (hw2 : w1.length ≤ 200) (hl : (lineOf at' row).length ≤ 1100) :
    BadT ([114, 111, 117, 110, 100, 32] ++ w1 ++ ((row.map wordOf).map (32 :: ·)).flatten) at' many := by
  refine badT_len (rnd :: w1 :: row.map wordOf) ?_ (by simp) ?_ ?_ ?_ (.inr ⟨rnd, w1, _, rfl, .inr (.inl hw)⟩)
  · rw [join_flat, List.map_cons, List.flatten_cons]
    unfold rnd
    simp
  · intro p hp
    rcases List.mem_cons.mp hp with rfl | hp
    · decide
    rcases List.mem_cons.mp hp with rfl | hp
    · exact h32
    · exact ws_free32 at' row p (by unfold wsOf; simp [hp])
  · intro p hp
    rcases List.mem_cons.mp hp with rfl | hp
    · decide
    rcases List.mem_cons.mp hp with rfl | hp
    · exact h10
    · exact ws_free10 at' row p (by unfold wsOf; simp [hp])
  · rw [line_head, List.length_append] at hl
    rw [List.length_append, List.length_append]
    simp at hl ⊢
    omega
theorem way3 (hg : GoodR many row) (ha : at' < 10 ^ 9) (hl : (lineOf at' row).length ≤ 1100) : BadT ([114, 111, 117, 110, 100, 32] ++ numI ((at' + 1 : Nat) : Int) ++ (lineOf at' row).drop (6 + (numI (at' : Int)).length)) at' many := by
  rw [line_head at' row, List.drop_append_of_le_length (by simp; omega), List.drop_of_length_le (by simp; omega), List.nil_append]
  refine other_head hg (fun z => by have := numI_inj z; omega) (numI_free (by decide) _) (numI_free (by decide) _) ?_ hl
  have := numI_len (i := ((at' + 1 : Nat) : Int)) (by omega)
  omega
theorem way5 (hg : GoodR many row) (ha : at' < 10 ^ 9) (hl : (lineOf at' row).length ≤ 1100) : BadT ([114, 111, 117, 110, 100, 32, 48] ++ (lineOf at' row).drop 6) at' many := by
  rw [line_head at' row]
  have e : [114, 111, 117, 110, 100, 32, 48] ++ ([114, 111, 117, 110, 100, 32] ++ numI (at' : Int) ++ ((row.map wordOf).map (32 :: ·)).flatten).drop 6 = [114, 111, 117, 110, 100, 32] ++ (48 :: numI (at' : Int)) ++ ((row.map wordOf).map (32 :: ·)).flatten := by simp
  rw [e]
  refine other_head hg (fun z => by have := congrArg List.length z; simp at this) ?_ ?_ ?_ hl
  · have := numI_free (c := 32) (by decide) (at' : Int); simp [this]
  · have := numI_free (c := 10) (by decide) (at' : Int); simp [this]
  · have := numI_len (i := (at' : Int)) (by omega)
    rw [List.length_cons]; omega
theorem way7 (hg : GoodR many row) (hl : (lineOf at' row).length ≤ 1100) : BadT ([32] ++ lineOf at' row) at' many := by
  refine badT_len ([] :: wsOf at' row) rfl (by simp) ?_ ?_ (by rw [List.length_append]; show 1 + _ ≤ _; omega) (.inl ?_)
  · intro p hp
    rcases List.mem_cons.mp hp with rfl | hp
    · simp
    · exact ws_free32 _ _ p hp
  · intro p hp
    rcases List.mem_cons.mp hp with rfl | hp
    · simp
    · exact ws_free10 _ _ p hp
  · rw [List.length_cons, ws_len, hg.len]; omega
def wide : List (List Nat) → List (List Nat)
  | [] => []
  | [p] => [p]
  | p :: q :: r => p :: [] :: wide (q :: r)
theorem repl_free {p q : List Nat} (h : 32 ∉ p) : PySem.StrLaws.replL [32] [32, 32] (p ++ q) = p ++ PySem.StrLaws.replL [32] [32, 32] q := by
  induction p with
  | nil => rfl
  | cons c r ih =>
    simp at h
    rw [List.cons_append, PySem.StrLaws.replL_miss (by simp; omega), ih h.2]
    rfl
theorem repl_wide : ∀ ps : List (List Nat), (∀ p ∈ ps, 32 ∉ p) → PySem.StrLaws.replL [32] [32, 32] (joinL [32] ps) = joinL [32] (wide ps)
  | [], _ => PySem.StrLaws.replL_nil
  | [p], h => by
    show PySem.StrLaws.replL [32] [32, 32] p = p
    have := repl_free (q := []) (h p (List.mem_cons_self ..))
    rw [List.append_nil, PySem.StrLaws.replL_nil, List.append_nil] at this
    exact this
  | p :: q :: r, h => by
    show PySem.StrLaws.replL [32] [32, 32] (p ++ ([32] ++ joinL [32] (q :: r))) = _
    rw [repl_free (h p (List.mem_cons_self ..))]
    have e : PySem.StrLaws.replL [32] [32, 32] ([32] ++ joinL [32] (q :: r)) = [32, 32] ++ PySem.StrLaws.replL [32] [32, 32] (joinL [32] (q :: r)) := by
      show PySem.StrLaws.replL [32] [32, 32] (32 :: joinL [32] (q :: r)) = _
      rw [PySem.StrLaws.replL_hit (by simp) (by simp)]
      rfl
    rw [e, repl_wide (q :: r) fun z hz => h z (List.mem_cons_of_mem _ hz)]
    show _ = joinL [32] (p :: [] :: wide (q :: r))
    cases r with
    | nil => rfl
    | cons a b => rfl
theorem wide_len : ∀ (p : List Nat) (ps : List (List Nat)), (wide (p :: ps)).length = 2 * ps.length + 1
  | p, [] => rfl
  | p, q :: r => by
    show (p :: [] :: wide (q :: r)).length = _
    rw [List.length_cons, List.length_cons, wide_len q r, List.length_cons]
    omega
theorem wide_mem : ∀ (ps : List (List Nat)) (w : List Nat), w ∈ wide ps → w = [] ∨ w ∈ ps
  | [], _, h => by cases h
  | [p], w, h => .inr h
  | p :: q :: r, w, h => by
    rcases List.mem_cons.mp h with rfl | h
    · exact .inr (List.mem_cons_self ..)
    rcases List.mem_cons.mp h with rfl | h
    · exact .inl rfl
    · rcases wide_mem (q :: r) w h with h | h
      · exact .inl h
      · exact .inr (List.mem_cons_of_mem _ h)
theorem wide_join_len : ∀ ps : List (List Nat), (joinL [32] (wide ps)).length ≤ 2 * (joinL [32] ps).length
  | [] => by simp [wide, joinL]
  | [p] => by show p.length ≤ 2 * p.length; omega
  | p :: q :: r => by
    have ih := wide_join_len (q :: r)
    have e : joinL [32] (wide (p :: q :: r)) = p ++ ([32] ++ ([] ++ ([32] ++ joinL [32] (wide (q :: r))))) := by
      cases r with
      | nil => rfl
      | cons a b => rfl
    rw [e]
    show _ ≤ 2 * (p ++ ([32] ++ joinL [32] (q :: r))).length
    simp
    omega
theorem way8 (hg : GoodR many row) (h1 : 1 ≤ many) (hl : (lineOf at' row).length ≤ 1100) : BadT (PySem.StrLaws.replL [32] [32, 32] (lineOf at' row)) at' many := by
  have e : PySem.StrLaws.replL [32] [32, 32] (lineOf at' row) = joinL [32] (wide (wsOf at' row)) := repl_wide _ (ws_free32 _ _)
  refine badT_len _ e ?_ ?_ ?_ ?_ (.inl ?_)
  · intro z
    have := wide_len rnd (numI (at' : Int) :: row.map wordOf)
    unfold wsOf at z
    rw [z] at this
    simp at this
  · intro p hp
    rcases wide_mem _ _ hp with rfl | hp
    · simp
    · exact ws_free32 _ _ p hp
  · intro p hp
    rcases wide_mem _ _ hp with rfl | hp
    · simp
    · exact ws_free10 _ _ p hp
  · rw [e]
    have := wide_join_len (wsOf at' row)
    unfold lineOf at hl
    omega
  · unfold wsOf
    rw [wide_len, List.length_cons, List.length_map, hg.len]
    omega
theorem way9 (hg : GoodR many row) (h1 : 1 ≤ many) (hl : (lineOf at' row).length ≤ 1100) {x : List Nat} (hx : x = [] ∨ x = [101, 110, 100] ∨ x = [82, 111, 117, 110, 100] ++ (lineOf at' row).drop 5 ∨ x = [114, 111, 117, 110, 100]) : BadT x at' many := by
  rcases hx with rfl | rfl | rfl | rfl
  · exact badT_len [[]] rfl (by simp) (by simp) (by simp) (by simp) (.inl (by first | (simp; done) | (simp; omega)))
  · exact badT_len [[101, 110, 100]] rfl (by simp) (by simp) (by simp) (by simp) (.inl (by first | (simp; done) | (simp; omega)))
  · refine badT_len ([82, 111, 117, 110, 100] :: numI (at' : Int) :: row.map wordOf) ?_ (by simp) ?_ ?_ ?_ (.inr ⟨_, _, _, rfl, .inl (by decide)⟩)
    · rw [line_head, join_flat, List.map_cons, List.flatten_cons]
      simp
    · intro p hp
      rcases List.mem_cons.mp hp with rfl | hp
      · decide
      · exact ws_free32 at' row p (by unfold wsOf; exact List.mem_cons_of_mem _ hp)
    · intro p hp
      rcases List.mem_cons.mp hp with rfl | hp
      · decide
      · exact ws_free10 at' row p (by unfold wsOf; exact List.mem_cons_of_mem _ hp)
    · rw [List.length_append, List.length_drop]; show 5 + _ ≤ _; omega
  · exact badT_len [[114, 111, 117, 110, 100]] rfl (by simp) (by simp) (by simp) (by simp) (.inl (by first | (simp; done) | (simp; omega)))
/-- another width -/
theorem other_width (hg : GoodR many row) {m : Nat} (hm : m ≠ many) : BadL (spl [32] 0 [] (lineOf at' row)) at' m := by
  left
  rw [spl_line, ws_len, hg.len]
  omega
end
end K06

namespace K06
open PySem PySem.Spec PyProof.Rows L2 TL DL
local macro_rules | `(tactic| walk_at "st1") => `(tactic| first
  | with_reducible refine r_sq ?_ | with_reducible refine r_nx ?_ | with_reducible refine r_rt ?_ | with_reducible refine r_rtN ?_ | with_reducible refine r_ex ?_ | with_reducible refine r_as ?_ | with_reducible refine r_bk ?_ | with_reducible refine r_ct ?_
  | ((with_reducible apply r_var); exact rfl) | with_reducible refine r_c ?_ | with_reducible refine r_op ?_ | with_reducible refine r_un ?_ | with_reducible refine r_neg ?_
  | ((with_reducible refine r_dgN rfl ?_); (try simp only [List.set]))
  | with_reducible refine r_dgSub ?_ | with_reducible refine r_dgT rfl ?_ | with_reducible refine r_dga0 ?_ | with_reducible refine r_dga1 ?_ | with_reducible refine r_auS ?_ | ((with_reducible apply r_au); exact rfl)
  | with_reducible refine r_par ?_ | ((with_reducible refine r_kPar rfl ?_); (try simp only [List.set]))
  | with_reducible refine r_addI ?_ | with_reducible refine r_addS ?_ | with_reducible refine r_addT ?_ | with_reducible refine r_addL ?_ | with_reducible refine r_subI ?_ | with_reducible refine r_mulI ?_ | with_reducible refine r_fdiv ?_ | with_reducible refine r_mod ?_ | with_reducible refine r_pow ?_ | with_reducible refine r_shl ?_
  | with_reducible refine r_eqI ?_ | with_reducible refine r_eqS ?_ | with_reducible refine r_eqB ?_ | with_reducible refine r_neI ?_ | with_reducible refine r_neS ?_ | with_reducible refine r_neB ?_ | with_reducible refine r_ltI ?_ | with_reducible refine r_gtI ?_ | with_reducible refine r_leI ?_ | with_reducible refine r_geI ?_ | with_reducible refine r_isN ?_ | with_reducible refine r_notN ?_ | with_reducible refine r_inS ?_
  | with_reducible refine r_test ?_ | with_reducible refine r_kB ?_ | with_reducible refine r_tru ?_ | with_reducible refine r_kTb ?_ | with_reducible refine r_kTi ?_ | with_reducible refine r_kTn ?_ | with_reducible refine r_kTl ?_ | with_reducible refine r_kTt ?_ | with_reducible refine r_kTs ?_ | with_reducible refine r_not ?_ | with_reducible refine r_notV ?_ | with_reducible refine r_yes ?_
  | with_reducible refine r_nil ?_ | with_reducible refine r_cons ?_ | with_reducible refine r_tup ?_ | with_reducible refine r_lst ?_ | with_reducible refine r_newF ?_ | with_reducible refine r_cb ?_
  | with_reducible refine r_lenS ?_ | with_reducible refine r_lenL ?_ | with_reducible refine r_lenT ?_ | with_reducible refine r_lenSrc ?_ | with_reducible refine r_abs ?_ | with_reducible refine r_min2 ?_ | with_reducible refine r_max2 ?_ | with_reducible refine r_intI ?_ | with_reducible refine r_str ?_ | with_reducible refine r_tupT ?_ | with_reducible refine r_tupL ?_ | with_reducible refine r_divmod ?_
  | with_reducible refine r_sl ?_ | with_reducible refine r_noP ?_ | with_reducible refine r_part ?_ | with_reducible refine r_kP ?_ | with_reducible refine r_slS ?_ | with_reducible refine r_slT ?_ | with_reducible refine r_slL ?_ | with_reducible refine r_slSrc ?_
  | with_reducible refine r_bm ?_ | with_reducible refine r_tyS ?_ | with_reducible refine r_starts ?_ | with_reducible refine r_count ?_ | with_reducible refine r_call ?_ | with_reducible refine r_for ?_ | with_reducible refine r_seq ?_ | with_reducible refine r_kIt ?_ | with_reducible refine r_kIl ?_ | with_reducible refine r_kIs ?_ | with_reducible refine r_kIsrc ?_ | with_reducible refine r_r1 ?_ | with_reducible refine r_r2 ?_ | with_reducible refine r_lc ?_
  | with_reducible refine lit0 ?_ | with_reducible refine lit1 ?_ | with_reducible refine lit2 ?_ | with_reducible refine lit3 ?_ | with_reducible refine lit4 ?_ | with_reducible refine lit5 ?_ | with_reducible refine lit6 ?_ | with_reducible refine lit7 ?_
  | fail)
local macro_rules | `(tactic| walk_at "st") => `(tactic| repeat (first | walk_at "st1" | dsimp only))
local macro_rules | `(tactic| walk_at "go") => `(tactic| (simp only [dstart, dEnd, List.map_cons, List.map_nil, List.length_cons, List.length_nil, Nat.reduceAdd, Nat.reduceSub, Nat.zero_add, List.replicate, List.cons_append, List.nil_append]; walk_at "st"))

abbrev g_FIGURES : D := .str [48, 49, 50, 51, 52, 53, 54, 55, 56, 57]
abbrev g_LIMITS_rounds : D := .int 200
theorem cutL_nat_none {α : Type} {xs : List α} {n : Nat} : cutL xs (some (n : Int)) none = xs.drop n := by
  unfold cutL
  rw [HT.sIx_none, HT.sIx_nat]
  by_cases h : n ≤ xs.length
  · rw [Nat.min_eq_left h, List.take_of_length_le (by rw [List.length_drop]; omega)]
  · rw [Nat.min_eq_right (by omega), List.drop_of_length_le (Nat.le_refl _), List.drop_of_length_le (by omega), List.take_nil]
theorem cutL_none_neg1 {α : Type} {xs : List α} : cutL xs none (some (-1)) = xs.dropLast := by
  unfold cutL
  rw [HT.sIx_none, List.drop_zero, Nat.sub_zero, List.dropLast_eq_take]
  congr 1
  show (if (-1 : Int) < 0 then ((-1 : Int) + (xs.length : Int)).toNat else min (-1 : Int).toNat xs.length) = _
  rw [if_pos (by decide)]
  omega
def oD : Option Int → D
  | none => .non
  | some i => .int i
def sp_all_figures : DSp := fun ds M Q _ => ∃ cs, ds = [.str cs] ∧ Q (.bl (allFig cs)) M
def sp_plain_figures : DSp := fun ds M Q _ => ∃ cs, ds = [.str cs] ∧ cs.length ≤ 640 ∧ Q (.bl (plain cs)) M
def sp_long_of : DSp := fun ds M Q _ => ∃ cs, ds = [.str cs] ∧ cs.length ≤ 640 ∧ ((∃ i, cs = numI i ∧ Q (.int i) M) ∨ (Bad cs ∧ Q .non M))
def sp_long_word : DSp := fun ds M Q _ => ∃ i : Int, ds = [.int i] ∧ i.natAbs < 10 ^ 100 ∧ Q (.str (numI i)) M
def sp_session_line : DSp := fun ds M Q _ => ∃ (at' : Nat) (row : List (Option Int)), ds = [.int (at' : Int), .tup (row.map oD)] ∧ at' < 10 ^ 9 ∧ row.length ≤ 9 ∧ (∀ o ∈ row, Gd o) ∧ Q (.str (lineOf at' row ++ [10])) M
def sp_law_k06_line : DSp := fun ds M Q _ => ∃ (at' : Nat) (row : List (Option Int)), ds = [.int (at' : Int), .tup (row.map oD)] ∧ at' < 10 ^ 9 ∧ row.length ≤ 9 ∧ (∀ o ∈ row, Gd o) ∧ Q (.str (lineOf at' row)) M
def sp_row_of : DSp := fun ds M Q _ => ∃ (line : List Nat) (at' many : Nat), ds = [.str line, .int (at' : Int), .int (many : Int)] ∧ line.length ≤ 4000 ∧ at' < 10 ^ 9 ∧ many ≤ 9 ∧
  ((∃ row, line = lineOf at' row ∧ GoodR many row ∧ Q (.tup (row.map oD)) M) ∨ (BadL (spl [32] 0 [] line) at' many ∧ Q .non M))
/-- the lines of rows, from a number on -/
def linesF : Nat → List (List (Option Int)) → List (List Nat)
  | _, [] => []
  | i, r :: rs => lineOf i r :: linesF (i + 1) rs
def rowD (r : List (Option Int)) : D := .tup (r.map oD)
def rowsD (rs : List (List (Option Int))) : List D := rs.map rowD
def sp_session_from : DSp := fun ds M Q _ => ∃ (text : List Nat) (many : Nat) (rs : List (List (Option Int))) (tail : List (List Nat)) (last : List Nat), ds = [.str text, .int (many : Int)] ∧ text.length + 2 ≤ 1000000 ∧ many ≤ 9 ∧
  spl [10] 0 [] text = linesF 0 rs ++ tail ++ [last] ∧ (∀ r ∈ rs, GoodR many r) ∧ rs.length ≤ 200 ∧ (tail = [] ∨ rs.length = 200 ∨ ∃ b tl, tail = b :: tl ∧ b.length ≤ 4000 ∧ BadL (spl [32] 0 [] b) rs.length many) ∧
  ((∀ p, M p = none → Q (.ref p) (mset M p (.lst (rowsD rs)))) ∨ Q (.lst (rowsD rs)) M)
def sp_law_k06_row : DSp := fun ds M Q _ => ∃ a o k many, ds = [.ref a, .int ((many : Nat) : Int)] ∧ M a = some o ∧ Src (k + 3 * many) o ∧ many ≤ 9 ∧ ∀ row o', GoodR many row → Src k o' → Q (rowD row) (mset M a o')
def sp_law_k06_spoilt : DSp := fun ds M Q _ => ∃ a o k at' many row, ds = [.ref a, .str (lineOf at' row), .int ((at' : Nat) : Int)] ∧ M a = some o ∧ Src (k + 2) o ∧ GoodR many row ∧ 1 ≤ many ∧ many ≤ 9 ∧ at' < 1000 ∧ ∀ x o' j, j ≤ 1 → BadT x at' many → Src (k + j) o' → Q (.str x) (mset M a o')
def sp_law : DSp := fun ds M Q _ => ∃ ns, ds = [.src ns] ∧ Q (.bl true) M
def t_all_figures : DTS := (dSq (dIfS (dTest (dOp dEq (dVar 0) (dC (.str [])))) (dRt (dC (.bl false))) dNx) (dSq (dFor (diSeq (dVar 0)) (dgN 1) (dIfS (dTest (dOp (dInB true) (dVar 1) (dC g_FIGURES))) (dRt (dC (.bl false))) dNx)) (dRt (dC (.bl true)))))
def t_plain_figures : DTS := (dRt (dAndV (dCall sp_all_figures [] dX0 (dCons (dVar 0) dNil)) (dOrV (dOp dEq (dVar 0) (dC (.str [48]))) (dOp dNe (dOp dIdx (dVar 0) (dC (.int 0))) (dC (.str [48]))))))
def t_long_of : DTS := (dSq (dAs (dIf (dTest (dOp dEq (dSl false (dVar 0) dNoP (dPart (dC (.int 1)))) (dC (.str [45])))) (dSl false (dVar 0) (dPart (dC (.int 1))) dNoP) (dVar 0)) (dgN 1)) (dSq (dIfS (dOr (dNot (dTru (dCall sp_plain_figures [] dX0 (dCons (dVar 1) dNil)))) (dTest (dOp dEq (dVar 0) (dC (.str [45, 48]))))) (dRt (dC .non)) dNx) (dSq (dAs (dC (.int 0)) (dgN 2)) (dSq (dIfS (dTest (dOp dLe (dCB dLen (dCons (dVar 1) dNil)) (dC (.int 1000)))) (dAs (dCB dInt (dCons (dVar 1) dNil)) (dgN 2)) (dSq dNo (dSq dNo (dSq dNo dNo)))) (dRt (dIf (dTest (dOp dEq (dSl false (dVar 0) dNoP (dPart (dC (.int 1)))) (dC (.str [45])))) (dUn dNeg (dVar 2)) (dVar 2)))))))
def t_long_word : DTS := (dSq (dIfS (dTest (dOp dLt (dBits (dVar 0)) (dC (.int 3000)))) (dRt (dCB dStr (dCons (dVar 0) dNil))) dNx) (dSq dNo (dSq dNo (dSq dNo (dSq dNo (dSq dNo (dSq dNo dNo)))))))
def t_session_line : DTS := (dSq (dAs (dLc false (diSeq (dVar 1)) (dgN 3) dYes (dIf (dTest (dOp dIsN (dVar 3) (dC .non))) (dC (.str [45])) (dCall sp_long_word [] dX0 (dCons (dVar 3) dNil))) [3]) (dgN 2)) (dRt (dOp (dAdd false) (dBM "str" dJoin (dC (.str [32])) (dCons (dOp (dAdd false) (dLst false (dCons (dC (.str [114, 111, 117, 110, 100])) (dCons (dCB dStr (dCons (dVar 0) dNil)) dNil))) (dVar 2)) dNil)) (dC (.str [10])))))
def t_row_of : DTS := (dSq (dAs (dBM "str" (dSplit false) (dVar 0) (dCons (dC (.str [32])) dNil)) (dgN 3)) (dSq (dIfS (dOr (dTest (dOp dNe (dCB dLen (dCons (dVar 3) dNil)) (dOp (dAdd false) (dVar 2) (dC (.int 2))))) (dOr (dTest (dOp dNe (dOp dIdx (dVar 3) (dC (.int 0))) (dC (.str [114, 111, 117, 110, 100])))) (dTest (dOp dNe (dOp dIdx (dVar 3) (dC (.int 1))) (dCB dStr (dCons (dVar 1) dNil)))))) (dRt (dC .non)) dNx) (dSq (dAs (dLst true dNil) (dgN 4)) (dSq (dFor (diSeq (dSl false (dVar 3) (dPart (dC (.int 2))) dNoP)) (dgN 5) (dSq (dAs (dCall sp_long_of [] dX0 (dCons (dVar 5) dNil)) (dgN 6)) (dSq (dIfS (dAnd (dTest (dOp dIsN (dVar 6) (dC .non))) (dTest (dOp dNe (dVar 5) (dC (.str [45]))))) (dRt (dC .non)) dNx) (dEx (dBM "list" dAppend (dVar 4) (dCons (dVar 6) dNil)))))) (dRt (dCB dTupOf (dCons (dVar 4) dNil)))))))
def t_session_from : DTS := (dSq (dAs (dLst true dNil) (dgN 2)) (dSq (dFor (diSeq (dSl false (dBM "str" (dSplit false) (dVar 0) (dCons (dC (.str [10])) dNil)) dNoP (dPart (dUn dNeg (dC (.int 1)))))) (dgN 3) (dSq (dAs (dIf (dTest (dOp dLt (dCB dLen (dCons (dVar 2) dNil)) (dC g_LIMITS_rounds))) (dCall sp_row_of [] dX0 (dCons (dVar 3) (dCons (dCB dLen (dCons (dVar 2) dNil)) (dCons (dVar 1) dNil)))) (dC .non)) (dgN 4)) (dSq (dIfS (dTest (dOp dIsN (dVar 4) (dC .non))) (dRt (dVar 2)) dNx) (dEx (dBM "list" dAppend (dVar 2) (dCons (dVar 4) dNil)))))) (dRt (dVar 2))))
def t_law_k06_line : DTS := (dRt (dOp (dAdd false) (dOp (dAdd false) (dC (.str [114, 111, 117, 110, 100, 32])) (dCB dStr (dCons (dVar 0) dNil))) (dBM "str" dJoin (dC (.str [])) (dCons (dLc false (diSeq (dVar 1)) (dgN 2) dYes (dIf (dTest (dOp dIsN (dVar 2) (dC .non))) (dC (.str [32, 45])) (dOp (dAdd false) (dC (.str [32])) (dCB dStr (dCons (dVar 2) dNil)))) [2]) dNil))))
def t_law_k06_row : DTS := (dSq (dAs (dLst true dNil) (dgN 2)) (dSq (dFor (diR1 (dCons (dVar 1) dNil)) (dgN 3) (dSq (dAs (dIf (dTest (dOp dEq (dCall sp_law_pick [] dX0 (dCons (dVar 0) (dCons (dC (.int 5)) dNil))) (dC (.int 0)))) (dOp dPow (dC (.int 10)) (dC (.int 40))) (dC (.int 30))) (dgN 4)) (dEx (dBM "list" dAppend (dVar 2) (dCons (dIf (dTest (dOp dEq (dCall sp_law_pick [] dX0 (dCons (dVar 0) (dCons (dC (.int 4)) dNil))) (dC (.int 0)))) (dC .non) (dOp dSub (dCall sp_law_pick [] dX0 (dCons (dVar 0) (dCons (dOp (dAdd false) (dOp (dMul false) (dC (.int 2)) (dVar 4)) (dC (.int 1))) dNil))) (dVar 4))) dNil))))) (dRt (dCB dTupOf (dCons (dVar 2) dNil)))))
def t_law_k06_spoilt : DTS := (dSq (dAs (dBM "str" (dSplit false) (dVar 1) (dCons (dC (.str [32])) dNil)) (dgN 3)) (dSq (dAs (dCall sp_law_pick [] dX0 (dCons (dVar 0) (dCons (dC (.int 10)) dNil))) (dgN 4)) (dSq (dIfS (dTest (dOp dEq (dVar 4) (dC (.int 0)))) (dRt (dOp (dAdd false) (dVar 1) (dC (.str [32])))) dNx) (dSq (dIfS (dTest (dOp dEq (dVar 4) (dC (.int 1)))) (dRt (dOp (dAdd false) (dVar 1) (dC (.str [32, 48])))) dNx) (dSq (dIfS (dTest (dOp dEq (dVar 4) (dC (.int 2)))) (dRt (dBM "str" dJoin (dC (.str [32])) (dCons (dSl false (dVar 3) dNoP (dPart (dUn dNeg (dC (.int 1))))) dNil))) dNx) (dSq (dIfS (dTest (dOp dEq (dVar 4) (dC (.int 3)))) (dRt (dOp (dAdd false) (dOp (dAdd false) (dC (.str [114, 111, 117, 110, 100, 32])) (dCB dStr (dCons (dOp (dAdd false) (dVar 2) (dC (.int 1))) dNil))) (dSl false (dVar 1) (dPart (dOp (dAdd false) (dC (.int 6)) (dCB dLen (dCons (dCB dStr (dCons (dVar 2) dNil)) dNil)))) dNoP))) dNx) (dSq (dIfS (dTest (dOp dEq (dVar 4) (dC (.int 4)))) (dRt (dOp (dAdd false) (dSl false (dVar 1) dNoP (dPart (dUn dNeg (dC (.int 1))))) (dCall sp_law_one [] dX0 (dCons (dVar 0) (dCons (dLst false (dCons (dC (.str [97])) (dCons (dC (.str [45, 45])) (dCons (dC (.str [49, 47, 50])) (dCons (dC (.str [43])) dNil))))) dNil))))) dNx) (dSq (dIfS (dTest (dOp dEq (dVar 4) (dC (.int 5)))) (dRt (dOp (dAdd false) (dC (.str [114, 111, 117, 110, 100, 32, 48])) (dSl false (dVar 1) (dPart (dC (.int 6))) dNoP))) dNx) (dSq (dIfS (dTest (dOp dEq (dVar 4) (dC (.int 6)))) (dRt (dBM "str" dJoin (dC (.str [32])) (dCons (dOp (dAdd false) (dSl false (dVar 3) dNoP (dPart (dUn dNeg (dC (.int 1))))) (dLst false (dCons (dCall sp_law_one [] dX0 (dCons (dVar 0) (dCons (dLst false (dCons (dC (.str [45, 48])) (dCons (dC (.str [48, 48])) (dCons (dC (.str [48, 49])) (dCons (dC (.str [45, 48, 49])) (dCons (dC (.str [])) (dCons (dC (.str [49, 32, 50])) dNil))))))) dNil))) dNil))) dNil))) dNx) (dSq (dIfS (dTest (dOp dEq (dVar 4) (dC (.int 7)))) (dRt (dOp (dAdd false) (dC (.str [32])) (dVar 1))) dNx) (dSq (dIfS (dTest (dOp dEq (dVar 4) (dC (.int 8)))) (dRt (dRepl (dVar 1) [32] [32, 32])) dNx) (dRt (dCall sp_law_one [] dX0 (dCons (dVar 0) (dCons (dLst false (dCons (dC (.str [])) (dCons (dC (.str [101, 110, 100])) (dCons (dOp (dAdd false) (dC (.str [82, 111, 117, 110, 100])) (dSl false (dVar 1) (dPart (dC (.int 5))) dNoP)) (dCons (dC (.str [114, 111, 117, 110, 100])) dNil))))) dNil)))))))))))))))
def t_law : DTS := (dSq (dAs (dCall sp_law_source [] dX0 (dCons (dVar 0) (dCons (dC (.int 0)) dNil))) (dgN 1)) (dSq (dAs (dOp (dAdd false) (dC (.int 1)) (dCall sp_law_pick [] dX0 (dCons (dVar 1) (dCons (dC (.int 3)) dNil)))) (dgN 2)) (dSq (dAs (dIf (dTest (dOp dEq (dCall sp_law_pick [] dX0 (dCons (dVar 1) (dCons (dC (.int 10)) dNil))) (dC (.int 0)))) (dOp (dAdd false) (dC (.int 198)) (dCall sp_law_pick [] dX0 (dCons (dVar 1) (dCons (dC (.int 5)) dNil)))) (dOp (dAdd false) (dC (.int 1)) (dCall sp_law_pick [] dX0 (dCons (dVar 1) (dCons (dC (.int 9)) dNil))))) (dgN 3)) (dSq (dAs (dLc false (diR1 (dCons (dVar 3) dNil)) (dgN 6) dYes (dCall sp_law_k06_row [] dX0 (dCons (dVar 1) (dCons (dVar 2) dNil))) [6]) (dgN 4)) (dSq (dAs (dLc false (diR1 (dCons (dVar 3) dNil)) (dgN 6) dYes (dCall sp_law_k06_line [] dX0 (dCons (dVar 6) (dCons (dOp dIdx (dVar 4) (dVar 6)) dNil))) [6]) (dgN 5)) (dSq (dFor (diR1 (dCons (dVar 3) dNil)) (dgN 6) (dIfS (dTest (dOp dNe (dCall sp_session_line [] dX0 (dCons (dVar 6) (dCons (dOp dIdx (dVar 4) (dVar 6)) dNil))) (dOp (dAdd false) (dOp dIdx (dVar 5) (dVar 6)) (dC (.str [10]))))) (dRt (dC (.bl false))) dNx)) (dSq (dAs (dBM "str" dJoin (dC (.str [])) (dCons (dLc false (diSeq (dVar 5)) (dgN 13) dYes (dOp (dAdd false) (dVar 13) (dC (.str [10]))) [13]) dNil)) (dgN 7)) (dSq (dAs (dCall sp_session_from [] dX0 (dCons (dVar 7) (dCons (dVar 2) dNil))) (dgN 8)) (dSq (dIfS (dOr (dNot (dTru (dCB dIsi (dCons (dVar 8) (dCons (dC (.ty "list")) dNil))))) (dNot (dTru (dCall sp_law_same [] dX0 (dCons (dVar 8) (dCons (dSl false (dVar 4) dNoP (dPart (dC (.int 200)))) dNil)))))) (dRt (dC (.bl false))) dNx) (dSq (dEx (dBM "list" dAppend (dVar 8) (dCons (dC .non) dNil))) (dSq (dFor (diR1 (dCons (dOp (dAdd false) (dCB dMin2 (dCons (dCB dLen (dCons (dVar 7) dNil)) (dCons (dC (.int 240)) dNil))) (dC (.int 1))) dNil)) (dgN 9) (dSq (dAs (dSl false (dVar 7) dNoP (dPart (dVar 9))) (dgN 10)) (dIfS (dNot (dTru (dCall sp_law_same [] dX0 (dCons (dCall sp_session_from [] dX0 (dCons (dVar 10) (dCons (dVar 2) dNil))) (dCons (dSl false (dVar 4) dNoP (dPart (dBM "str" dCount (dVar 10) (dCons (dC (.str [10])) dNil)))) dNil))))) (dRt (dC (.bl false))) dNx))) (dSq (dAs (dCall sp_law_pick [] dX0 (dCons (dVar 1) (dCons (dVar 3) dNil))) (dgN 6)) (dSq (dAs (dBM "str" dJoin (dC (.str [])) (dCons (dLc false (diSeq (dOp (dAdd false) (dOp (dAdd false) (dSl false (dVar 5) dNoP (dPart (dVar 6))) (dLst false (dCons (dCall sp_law_k06_spoilt [] dX0 (dCons (dVar 1) (dCons (dOp dIdx (dVar 5) (dVar 6)) (dCons (dVar 6) dNil)))) dNil))) (dSl false (dVar 5) (dPart (dOp (dAdd false) (dVar 6) (dC (.int 1)))) dNoP))) (dgN 13) dYes (dOp (dAdd false) (dVar 13) (dC (.str [10]))) [13]) dNil)) (dgN 11)) (dSq (dIfS (dNot (dTru (dCall sp_law_same [] dX0 (dCons (dCall sp_session_from [] dX0 (dCons (dVar 11) (dCons (dVar 2) dNil))) (dCons (dSl false (dVar 4) dNoP (dPart (dCB dMin2 (dCons (dVar 6) (dCons (dC (.int 200)) dNil))))) dNil))))) (dRt (dC (.bl false))) dNx) (dSq (dAs (dOp (dAdd false) (dC (.int 1)) (dOp dMod (dVar 2) (dC (.int 3)))) (dgN 12)) (dRt (dAndV (dCall sp_law_same [] dX0 (dCons (dCall sp_session_from [] dX0 (dCons (dVar 7) (dCons (dVar 12) dNil))) (dCons (dLst false dNil) dNil))) (dCall sp_law_same [] dX0 (dCons (dCall sp_session_from [] dX0 (dCons (dVar 7) (dCons (dVar 2) dNil))) (dCons (dSl false (dVar 4) dNoP (dPart (dC (.int 200)))) dNil))))))))))))))))))))
theorem sem_all_figures (ds : List D) (M : Mu) (Q : DK) (E : DXK) (h : sp_all_figures ds M Q E) : t_all_figures (dEnd Q) (dstart 2 ds) M := by
  obtain ⟨cs, rfl, h⟩ := h
  unfold t_all_figures
  walk_at "go"
  refine r_if ?_
  walk_at "st"
  refine ⟨fun e => ?_, fun e => ?_⟩
  · have e := of_decide_eq_true e
    subst e
    walk_at "st"
    exact Wq.now h
  · have e := of_decide_eq_false e
    walk_at "st"
    refine for_inv (fun xs δ M' => M' = M ∧ ∃ s l r, cs = l ++ r ∧ xs = r.map (fun c => D.str [c]) ∧ l.all isFig = true ∧ δ = [some (.str cs), s]) (fun _ _ _ _ => trivial) ?_ ?_ _ _ _ ⟨rfl, none, [], cs, rfl, rfl, rfl, rfl⟩
    · rintro x xs δ M' N ⟨rfl, s, l, r, e1, e2, e3, rfl⟩ hN
      cases r with
      | nil => cases e2
      | cons c r =>
        rw [List.map_cons] at e2
        obtain ⟨rfl, rfl⟩ := List.cons.inj e2
        walk_at "st"
        refine r_if ?_
        walk_at "st"
        refine ⟨fun z => ?_, fun z => ?_⟩
        · walk_at "st"
          refine Wq.now ?_
          have hf : allFig cs = false := by
            unfold allFig
            have : cs.all isFig = false := by
              rw [List.all_eq_false]
              exact ⟨c, by rw [e1]; simp, by unfold isFig; simpa using z⟩
            rw [this, Bool.and_false]
          rw [hf] at h
          exact h
        · walk_at "st"
          refine hN _ _ ⟨rfl, _, l ++ [c], r, by rw [e1]; simp, rfl, ?_, rfl⟩
          have hc : isFig c = true := by
            unfold isFig
            rw [if_pos rfl] at z
            revert z
            generalize decide (c ∈ [48, 49, 50, 51, 52, 53, 54, 55, 56, 57]) = q
            cases q <;> simp
          rw [List.all_append, e3, Bool.true_and, List.all_cons, hc]
          rfl
    · rintro δ M' ⟨rfl, s, l, r, e1, e2, e3, rfl⟩
      cases r with
      | cons c r => cases e2
      | nil =>
        walk_at "st"
        refine Wq.now ?_
        have hf : allFig cs = true := by
          unfold allFig
          rw [e1, List.append_nil, e3, Bool.and_true]
          cases l with
          | nil => exact absurd e1 e
          | cons _ _ => rfl
        rw [hf] at h
        exact h
theorem sem_plain_figures (ds : List D) (M : Mu) (Q : DK) (E : DXK) (h : sp_plain_figures ds M Q E) : t_plain_figures (dEnd Q) (dstart 1 ds) M := by
  obtain ⟨cs, rfl, hl, h⟩ := h
  unfold t_plain_figures
  walk_at "go"
  refine r_andV ?_
  walk_at "st"
  refine ⟨cs, rfl, ?_⟩
  walk_at "st"
  refine ⟨fun e => ?_, fun e => ?_⟩
  · refine r_orV ?_
    walk_at "st"
    refine ⟨fun z => ?_, fun z => ?_⟩
    · have z := of_decide_eq_true z
      subst z
      exact Wq.now h
    · have z := of_decide_eq_false z
      walk_at "st"
      cases cs with
      | nil => exact Bool.noConfusion e
      | cons c r =>
        refine r_idxS atI_zero (sz1000 (by omega)) ?_
        walk_at "st"
        refine Wq.now ?_
        have : plain (c :: r) = !decide ([c] = [48]) := by
          unfold plain
          rw [e, Bool.true_and, decide_eq_false z, Bool.false_or]
          rfl
        rw [this] at h
        exact h
  · refine Wq.now ?_
    have : plain cs = false := by
      unfold plain
      rw [e, Bool.false_and]
    rw [this] at h
    exact h
theorem take1 (cs : List Nat) : cutL cs none (some 1) = cs.take 1 := cutL_none_nat (n := 1)
theorem drop1 (cs : List Nat) : cutL cs (some 1) none = cs.drop 1 := cutL_nat_none (n := 1)
theorem sem_long_of (ds : List D) (M : Mu) (Q : DK) (E : DXK) (h : sp_long_of ds M Q E) : t_long_of (dEnd Q) (dstart 6 ds) M := by
  obtain ⟨cs, rfl, hl, h⟩ := h
  have hsz : cs.length ≤ sizeLine := sz1000 (by omega)
  unfold t_long_of
  have hb : (bare cs).length ≤ 640 := by
    unfold bare
    split
    · rw [List.length_drop]; omega
    · exact hl
  have main : ∀ D0 : DEnds, D0 = ({ nx := fun _ M => Wq Q .non M, rt := Wq Q } : DEnds) → (dSq (dIfS (dOr (dNot (dTru (dCall sp_plain_figures [] dX0 (dCons (dVar 1) dNil)))) (dTest (dOp dEq (dVar 0) (dC (.str [45, 48]))))) (dRt (dC .non)) dNx) (dSq (dAs (dC (.int 0)) (dgN 2)) (dSq (dIfS (dTest (dOp dLe (dCB dLen (dCons (dVar 1) dNil)) (dC (.int 1000)))) (dAs (dCB dInt (dCons (dVar 1) dNil)) (dgN 2)) (dSq dNo (dSq dNo (dSq dNo dNo)))) (dRt (dIf (dTest (dOp dEq (dSl false (dVar 0) dNoP (dPart (dC (.int 1)))) (dC (.str [45])))) (dUn dNeg (dVar 2)) (dVar 2)))))) D0 [some (.str cs), some (.str (bare cs)), none, none, none, none] M := by
    rintro _ rfl
    walk_at "st"
    refine r_if (r_or ?_)
    walk_at "st"
    refine ⟨_, rfl, hb, ?_⟩
    walk_at "st"
    rcases h with ⟨i, rfl, h⟩ | ⟨hbad, h⟩
    · have hpl : plain (bare (numI i)) = true := by
        rcases int_cases i with ⟨n, rfl⟩ | ⟨n, h0, rfl⟩
        · rw [numI_nat, bare_num]; exact plain_num n
        · rw [numI_neg h0, bare_neg]; exact plain_num n
      rw [hpl]
      refine ⟨fun z => Bool.noConfusion z, fun _ => ?_⟩
      walk_at "st"
      refine ⟨fun z => ?_, fun _ => ?_⟩
      · exfalso
        have z := of_decide_eq_true z
        rcases int_cases i with ⟨n, rfl⟩ | ⟨n, h0, rfl⟩
        · rw [numI_nat] at z
          exact num_take n (by rw [z]; rfl)
        · rw [numI_neg h0] at z
          have z2 : numL n = [48] := by injection z
          rw [← numL_zero] at z2
          have := numL_inj z2
          omega
      · walk_at "st"
        refine r_if ?_
        walk_at "st"
        refine ⟨sz1000 (by omega), ?_⟩
        walk_at "st"
        refine ⟨fun _ => ?_, fun z => absurd (of_decide_eq_false z) (by simp; omega)⟩
        walk_at "st"
        rcases int_cases i with ⟨n, rfl⟩ | ⟨n, h0, rfl⟩
        · rw [numI_nat] at *
          rw [bare_num] at hb ⊢
          refine ⟨_, by rw [mkS_num]; exact int_num (by omega), hb, ?_⟩
          walk_at "st"
          refine r_dif ?_
          walk_at "st"
          refine ⟨hsz, ?_⟩
          walk_at "st"
          rw [take1]
          refine ⟨fun z => absurd (of_decide_eq_true z) (num_take n), fun _ => ?_⟩
          walk_at "st"
          exact Wq.now h
        · rw [numI_neg h0] at *
          rw [bare_neg] at hb ⊢
          refine ⟨_, by rw [mkS_num]; exact int_num (by omega), hb, ?_⟩
          walk_at "st"
          refine r_dif ?_
          walk_at "st"
          refine ⟨hsz, ?_⟩
          walk_at "st"
          rw [take1]
          refine ⟨fun _ => ?_, fun z => absurd rfl (of_decide_eq_false z)⟩
          walk_at "st"
          exact Wq.now h
    · refine ⟨fun _ => ?_, fun z => ?_⟩
      · refine ⟨fun _ => ?_, fun z => Bool.noConfusion z⟩
        walk_at "st"
        exact Wq.now h
      · walk_at "st"
        have hd : cs = [45, 48] := by
          rcases hbad with hbad | hbad
          · rw [hbad] at z; exact Bool.noConfusion z
          · exact hbad
        refine ⟨fun _ => ?_, fun z => absurd hd (of_decide_eq_false z)⟩
        walk_at "st"
        exact Wq.now h
  walk_at "go"
  refine r_dif ?_
  walk_at "st"
  refine ⟨hsz, ?_⟩
  walk_at "st"
  rw [take1]
  refine ⟨fun z => ?_, fun z => ?_⟩
  · have z := of_decide_eq_true z
    walk_at "st"
    refine ⟨hsz, ?_⟩
    rw [drop1]
    have e : bare cs = cs.drop 1 := if_pos z
    rw [← e]
    walk_at "st1"
    exact main _ rfl
  · have z := of_decide_eq_false z
    have e : bare cs = cs := if_neg z
    walk_at "st1"
    walk_at "st1"
    rw [e] at main
    exact main _ rfl
theorem bits3000 {i : Int} (h : i.natAbs < 10 ^ 100) : Builtin.Int.intBits i < 3000 := by
  have : Builtin.Int.intBits i ≤ 400 := PySem.intBits_le_iff.mpr (Nat.lt_trans h (by decide +kernel))
  omega
theorem log1920 {i : Int} (h : i.natAbs < 10 ^ 100) : i.natAbs.log2 < 1920 := Nat.lt_of_lt_of_le (PySem.Flt.log2_lt_of (k := 400) (by decide) (Nat.lt_trans h (by decide +kernel))) (by decide)
theorem sem_long_word (ds : List D) (M : Mu) (Q : DK) (E : DXK) (h : sp_long_word ds M Q E) : t_long_word (dEnd Q) (dstart 5 ds) M := by
  obtain ⟨i, rfl, hi, h⟩ := h
  unfold t_long_word
  walk_at "go"
  refine r_if ?_
  walk_at "st"
  refine r_bits ?_
  walk_at "st"
  refine ⟨i, rfl, ?_⟩
  walk_at "st"
  have hb := bits3000 hi
  refine ⟨fun _ => ?_, fun z => absurd (of_decide_eq_false z) (by simp; omega)⟩
  walk_at "st"
  refine ⟨log1920 hi, ?_⟩
  exact Wq.now h
theorem strsOf_words (row : List (Option Int)) : strsOf (row.map fun o => D.str (wordOf o)) = some (row.map wordOf) := by
  have := strsOf_map (row.map wordOf)
  rw [List.map_map] at this
  exact this
theorem numI9 {n : Nat} (h : n < 10 ^ 9) : (numI (n : Int)).length ≤ 101 := numI_len (by omega)
theorem log9 {n : Nat} (h : n < 10 ^ 9) : ((n : Int)).natAbs.log2 < 1920 := log1920 (by omega)
theorem sum_len {B : Nat} : ∀ ps : List (List Nat), (∀ p ∈ ps, p.length ≤ B) → (ps.map (·.length)).sum ≤ B * ps.length
  | [], _ => by simp
  | p :: r, h => by
    rw [List.map_cons, List.sum_cons, List.length_cons, Nat.mul_succ]
    have := sum_len r fun q hq => h q (List.mem_cons_of_mem _ hq)
    have := h p (List.mem_cons_self ..)
    omega
theorem sem_session_line (ds : List D) (M : Mu) (Q : DK) (E : DXK) (h : sp_session_line ds M Q E) : t_session_line (dEnd Q) (dstart 4 ds) M := by
  obtain ⟨at', row, rfl, ha, hr, hg, h⟩ := h
  unfold t_session_line
  walk_at "go"
  refine lc_map (fun d => match d with
    | .int i => .str (numI i)
    | _ => .str [45]) trivial _ _ (by rw [List.length_map, List.length_nil, Nat.zero_add]; exact sz1000 (by omega)) (fun x hx R hR => ?_) ?_
  · obtain ⟨o, ho, rfl⟩ := List.mem_map.mp hx
    simp only [dwipe, List.set]
    walk_at "st"
    refine r_dif ?_
    walk_at "st"
    cases o with
    | none =>
      refine ⟨fun _ => ?_, fun z => Bool.noConfusion z⟩
      walk_at "st"
      exact hR
    | some i =>
      refine ⟨fun z => Bool.noConfusion z, fun _ => ?_⟩
      walk_at "st"
      exact ⟨i, rfl, hg _ ho i rfl, hR⟩
  · have e : (row.map oD).map (fun d => match d with
      | .int i => D.str (numI i)
      | _ => .str [45]) = (row.map wordOf).map D.str := by
      rw [List.map_map, List.map_map]
      refine List.map_congr_left fun o _ => ?_
      cases o <;> rfl
    rw [e, List.nil_append]
    walk_at "st"
    refine ⟨log9 ha, ?_⟩
    walk_at "st"
    refine ⟨by simp; exact sz1000 (by omega), ?_⟩
    walk_at "st"
    refine r_join (ys := rnd :: numI (at' : Int) :: row.map wordOf) rfl ?_ ?_ ?_
    · exact strsOf_map (rnd :: numI (at' : Int) :: row.map wordOf)
    · have := sum_len (B := 101) (rnd :: numI (at' : Int) :: row.map wordOf) (fun p hp => by
        rcases List.mem_cons.mp hp with rfl | hp
        · decide
        rcases List.mem_cons.mp hp with rfl | hp
        · exact numI9 ha
        · obtain ⟨o, ho, rfl⟩ := List.mem_map.mp hp
          exact word_len (hg o ho))
      simp only [List.length_cons, List.length_map] at this ⊢
      simp at this ⊢
      omega
    · walk_at "st"
      have := line_len ha hr hg
      refine ⟨sz1000 (by show (lineOf at' row).length + 1 ≤ _; omega), ?_⟩
      exact Wq.now h
theorem sem_law_k06_line (ds : List D) (M : Mu) (Q : DK) (E : DXK) (h : sp_law_k06_line ds M Q E) : t_law_k06_line (dEnd Q) (dstart 3 ds) M := by
  obtain ⟨at', row, rfl, ha, hr, hg, h⟩ := h
  have hn := numI9 ha
  unfold t_law_k06_line
  walk_at "go"
  refine ⟨log9 ha, ?_⟩
  walk_at "st"
  refine ⟨sz1000 (by simp; omega), ?_⟩
  walk_at "st"
  refine lc_map (fun d => match d with
    | .int i => .str (32 :: numI i)
    | _ => .str [32, 45]) trivial _ _ (by rw [List.length_map, List.length_nil, Nat.zero_add]; exact sz1000 (by omega)) (fun x hx R hR => ?_) ?_
  · obtain ⟨o, ho, rfl⟩ := List.mem_map.mp hx
    simp only [dwipe, List.set]
    walk_at "st"
    refine r_dif ?_
    walk_at "st"
    cases o with
    | none =>
      refine ⟨fun _ => ?_, fun z => Bool.noConfusion z⟩
      walk_at "st"
      exact hR
    | some i =>
      refine ⟨fun z => Bool.noConfusion z, fun _ => ?_⟩
      have hi := hg _ ho i rfl
      have := numI_len hi
      simp only [oD]
      walk_at "st"
      refine ⟨log1920 hi, ?_⟩
      walk_at "st"
      exact ⟨sz1000 (by simp; omega), hR⟩
  · have e : (row.map oD).map (fun d => match d with
      | .int i => D.str (32 :: numI i)
      | _ => .str [32, 45]) = ((row.map wordOf).map (32 :: ·)).map D.str := by
      rw [List.map_map, List.map_map, List.map_map]
      refine List.map_congr_left fun o _ => ?_
      cases o <;> rfl
    rw [e, List.nil_append]
    walk_at "st"
    have hl := line_len ha hr hg
    have hln := hl
    rw [line_head, List.length_append] at hln
    have hfl : ∀ L : List (List Nat), (L.map (·.length)).sum = L.flatten.length := fun L => List.length_flatten.symm
    refine r_join (ys := (row.map wordOf).map (32 :: ·)) rfl (strsOf_map _) ?_ ?_
    · rw [hfl]
      simp at hln ⊢
      omega
    · rw [join_nil]
      walk_at "st"
      refine ⟨sz1000 ?_, ?_⟩
      · exact Nat.le_trans (Nat.le_of_eq (by rw [List.length_append])) (Nat.le_trans hln (by decide))
      · rw [← line_head]
        exact Wq.now h
/-! a row of a line -/
theorem sem_row_of (ds : List D) (M : Mu) (Q : DK) (E : DXK) (h : sp_row_of ds M Q E) : t_row_of (dEnd Q) (dstart 7 ds) M := by
  obtain ⟨line, at', many, rfl, hl, ha, hm, h⟩ := h
  unfold t_row_of
  walk_at "go"
  refine r_split (by decide) (by decide) (sz1000 (by omega)) ?_
  walk_at "st"
  refine r_if (r_or ?_)
  walk_at "st"
  rw [List.length_map]
  have hr : ∃ ws, ws = spl [32] 0 [] line := ⟨_, rfl⟩
  obtain ⟨ws, hws⟩ := hr
  rw [← hws] at h ⊢
  refine ⟨fun z => ?_, fun z => ?_⟩
  · -- another number of words
    refine ⟨fun _ => ?_, fun z => Bool.noConfusion z⟩
    walk_at "st"
    rcases h with ⟨row, rfl, hg, h⟩ | ⟨_, h⟩
    · exfalso
      rw [spl_line] at hws
      subst hws
      rw [ws_len, hg.len] at z
      simp at z
    · exact Wq.now h
  · have hlen : ws.length = many + 2 := by
      simp at z
      omega
    obtain ⟨w0, w1, rest, rfl⟩ : ∃ w0 w1 rest, ws = w0 :: w1 :: rest := by
      match ws, hlen with
      | w0 :: w1 :: rest, _ => exact ⟨w0, w1, rest, rfl⟩
    clear z
    refine r_or ?_
    walk_at "st"
    refine r_idxL atI_zero ?_
    walk_at "st"
    refine ⟨fun z => ?_, fun z => ?_⟩
    · refine ⟨fun _ => ?_, fun z => Bool.noConfusion z⟩
      walk_at "st"
      rcases h with ⟨row, rfl, hg, h⟩ | ⟨_, h⟩
      · exfalso
        rw [spl_line] at hws
        unfold wsOf at hws
        obtain ⟨rfl, _⟩ := List.cons.inj hws
        simp [rnd] at z
      · exact Wq.now h
    · have e0 : w0 = rnd := by simpa [rnd] using z
      clear z
      walk_at "st"
      refine r_idxL atI_one ?_
      walk_at "st"
      refine ⟨log9 ha, ?_⟩
      walk_at "st"
      refine ⟨fun z => ?_, fun z => ?_⟩
      · walk_at "st"
        rcases h with ⟨row, rfl, hg, h⟩ | ⟨_, h⟩
        · exfalso
          rw [spl_line] at hws
          unfold wsOf at hws
          obtain ⟨_, hws⟩ := List.cons.inj hws
          obtain ⟨rfl, _⟩ := List.cons.inj hws
          simp at z
        · exact Wq.now h
      · have e1 : w1 = numI (at' : Int) := by simpa using z
        clear z
        walk_at "st"
        refine r_newT fun p hp => ?_
        walk_at "st"
        rw [show (2 : Int) = ((2 : Nat) : Int) from rfl, cutL_nat_none, List.map_cons, List.map_cons, List.drop_succ_cons, List.drop_succ_cons, List.drop_zero]
        -- the words of the row; a bad one ends it
        have hcase : ∃ (pre : List (Option Int)) (post : List (List Nat)), rest = pre.map wordOf ++ post ∧ (∀ o ∈ pre, Gd o) ∧ ((post = [] ∧ Q (.tup (pre.map oD)) M) ∨ (∃ b tl, post = b :: tl ∧ Bad b ∧ b ≠ [45] ∧ b.length ≤ 640 ∧ Q .non M)) := by
          rcases h with ⟨row, rfl, hg, h⟩ | ⟨hb, h⟩
          · rw [spl_line] at hws
            unfold wsOf at hws
            obtain ⟨_, hws⟩ := List.cons.inj hws
            obtain ⟨_, rfl⟩ := List.cons.inj hws
            exact ⟨row, [], by rw [List.append_nil], hg.gd, .inl ⟨rfl, h⟩⟩
          · rcases hb with hb | ⟨v0, v1, r2, e, hb⟩
            · exact absurd hlen hb
            · obtain ⟨e3, e⟩ := List.cons.inj e
              obtain ⟨e4, e5⟩ := List.cons.inj e
              subst e3 e4 e5
              rcases hb with hb | hb | ⟨pre, b, post, e, hg, hb, hb2, hb3⟩
              · exact absurd e0 hb
              · exact absurd e1 hb
              · exact ⟨pre, b :: post, e, hg, .inr ⟨b, post, rfl, hb, hb2, hb3, h⟩⟩
        obtain ⟨pre, post, rfl, hg, hq⟩ := hcase
        have hl9 : pre.length ≤ 9 := by
          simp at hlen
          omega
        have L0 : ∃ L : List (List Nat), L = rnd :: numI (at' : Int) :: (pre.map wordOf ++ post) := ⟨_, rfl⟩
        subst e0 e1
        generalize (D.lst (D.str rnd :: D.str (numI (at' : Int)) :: List.map D.str (List.map wordOf pre ++ post))) = W
        refine for_inv (fun xs δ M' => ∃ (s5 s6 : Option D) (a b : List (Option Int)), pre = a ++ b ∧ xs = (b.map wordOf ++ post).map D.str ∧ M' = mset M p (.lst (a.map oD)) ∧ δ = [some (.str line), some (.int (at' : Int)), some (.int (many : Int)), some W, some (.ref p), s5, s6]) (fun _ _ _ _ => trivial) ?_ ?_ _ _ _ ⟨none, none, [], pre, rfl, rfl, rfl, rfl⟩
        · rintro x xs δ M' N ⟨s5, s6, a, b, e1, e2, rfl, rfl⟩ hN
          cases b with
          | nil =>
            rw [List.map_nil, List.nil_append] at e2
            rcases hq with ⟨rfl, hq⟩ | ⟨bw, tl', rfl, hb, hb2, hb3, hq⟩
            · cases e2
            · rw [List.map_cons] at e2
              obtain ⟨rfl, rfl⟩ := List.cons.inj e2
              walk_at "st"
              refine ⟨bw, rfl, hb3, .inr ⟨hb, ?_⟩⟩
              walk_at "st"
              refine r_if (r_and ?_)
              walk_at "st"
              refine ⟨fun _ => ?_, fun z => Bool.noConfusion z⟩
              walk_at "st"
              rw [decide_eq_false hb2]
              refine ⟨fun _ => ?_, fun z => Bool.noConfusion z⟩
              walk_at "st"
              exact Wq.drop (sub_new hp) hq
          | cons o b =>
            rw [List.map_cons, List.cons_append, List.map_cons] at e2
            obtain ⟨rfl, rfl⟩ := List.cons.inj e2
            have hgo : Gd o := hg o (by rw [e1]; simp)
            walk_at "st"
            have next : ∀ d : D, d = oD o → (dEx (dBM "list" dAppend (dVar 4) (dCons (dVar 6) dNil))) { nx := N, rt := Wq Q, ct := N, bk := dRt (dCB dTupOf (dCons (dVar 4) dNil)) { nx := fun _ M => Wq Q D.non M, rt := Wq Q } } [some (.str line), some (.int (at' : Int)), some (.int (many : Int)), some W, some (.ref p), some (.str (wordOf o)), some d] (mset M p (.lst (a.map oD))) := by
              rintro _ rfl
              walk_at "st"
              refine r_tyR mset_same ?_
              walk_at "st"
              refine r_append mset_same (szlt ?_) ?_
              · rw [e1] at hl9
                simp at hl9 ⊢
                omega
              · rw [mset_mset]
                refine hN _ _ ⟨_, _, a ++ [o], b, by rw [e1]; simp, rfl, by simp, rfl⟩
            cases o with
            | none =>
              refine ⟨[45], rfl, by decide, .inr ⟨bad_dash, ?_⟩⟩
              walk_at "st"
              refine r_if (r_and ?_)
              walk_at "st"
              refine ⟨fun _ => ?_, fun z => Bool.noConfusion z⟩
              walk_at "st"
              refine ⟨fun z => by simp [wordOf] at z, fun _ => ?_⟩
              walk_at "st1"
              exact next _ rfl
            | some i =>
              have := numI_len (hgo i rfl)
              refine ⟨numI i, rfl, by omega, .inl ⟨i, rfl, ?_⟩⟩
              walk_at "st"
              refine r_if (r_and ?_)
              walk_at "st"
              refine ⟨fun z => Bool.noConfusion z, fun _ => ?_⟩
              refine ⟨fun z => Bool.noConfusion z, fun _ => ?_⟩
              walk_at "st1"
              exact next _ rfl
        · rintro δ M' ⟨s5, s6, a, b, e1, e2, rfl, rfl⟩
          rcases hq with ⟨rfl, hq⟩ | ⟨bw, tl', rfl, hb, hb2, hb3, hq⟩
          · cases b with
            | cons o b => cases e2
            | nil =>
              rw [List.append_nil] at e1
              subst e1
              walk_at "st"
              refine r_tupR mset_same ?_
              exact Wq.drop (sub_new hp) hq
          · cases b with
            | cons o b => cases e2
            | nil => cases e2
end K06

namespace K06
open PySem PySem.Spec PyProof.Rows L2 TL DL
local macro_rules | `(tactic| walk_at "st1") => `(tactic| first
  | with_reducible refine r_sq ?_ | with_reducible refine r_nx ?_ | with_reducible refine r_rt ?_ | with_reducible refine r_rtN ?_ | with_reducible refine r_ex ?_ | with_reducible refine r_as ?_ | with_reducible refine r_bk ?_ | with_reducible refine r_ct ?_
  | ((with_reducible apply r_var); exact rfl) | with_reducible refine r_c ?_ | with_reducible refine r_op ?_ | with_reducible refine r_un ?_ | with_reducible refine r_neg ?_
  | ((with_reducible refine r_dgN rfl ?_); (try simp only [List.set]))
  | with_reducible refine r_dgSub ?_ | with_reducible refine r_dgT rfl ?_ | with_reducible refine r_dga0 ?_ | with_reducible refine r_dga1 ?_ | with_reducible refine r_auS ?_ | ((with_reducible apply r_au); exact rfl)
  | with_reducible refine r_par ?_ | ((with_reducible refine r_kPar rfl ?_); (try simp only [List.set]))
  | with_reducible refine r_addI ?_ | with_reducible refine r_addS ?_ | with_reducible refine r_addT ?_ | with_reducible refine r_addL ?_ | with_reducible refine r_subI ?_ | with_reducible refine r_mulI ?_ | with_reducible refine r_fdiv ?_ | with_reducible refine r_mod ?_ | with_reducible refine r_pow ?_ | with_reducible refine r_shl ?_
  | with_reducible refine r_eqI ?_ | with_reducible refine r_eqS ?_ | with_reducible refine r_eqB ?_ | with_reducible refine r_neI ?_ | with_reducible refine r_neS ?_ | with_reducible refine r_neB ?_ | with_reducible refine r_ltI ?_ | with_reducible refine r_gtI ?_ | with_reducible refine r_leI ?_ | with_reducible refine r_geI ?_ | with_reducible refine r_isN ?_ | with_reducible refine r_notN ?_ | with_reducible refine r_inS ?_
  | with_reducible refine r_test ?_ | with_reducible refine r_kB ?_ | with_reducible refine r_tru ?_ | with_reducible refine r_kTb ?_ | with_reducible refine r_kTi ?_ | with_reducible refine r_kTn ?_ | with_reducible refine r_kTl ?_ | with_reducible refine r_kTt ?_ | with_reducible refine r_kTs ?_ | with_reducible refine r_not ?_ | with_reducible refine r_notV ?_ | with_reducible refine r_yes ?_
  | with_reducible refine r_nil ?_ | with_reducible refine r_cons ?_ | with_reducible refine r_tup ?_ | with_reducible refine r_lst ?_ | with_reducible refine r_newF ?_ | with_reducible refine r_cb ?_
  | with_reducible refine r_lenS ?_ | with_reducible refine r_lenL ?_ | with_reducible refine r_lenT ?_ | with_reducible refine r_lenSrc ?_ | with_reducible refine r_abs ?_ | with_reducible refine r_min2 ?_ | with_reducible refine r_max2 ?_ | with_reducible refine r_intI ?_ | with_reducible refine r_str ?_ | with_reducible refine r_tupT ?_ | with_reducible refine r_tupL ?_ | with_reducible refine r_divmod ?_
  | with_reducible refine r_sl ?_ | with_reducible refine r_noP ?_ | with_reducible refine r_part ?_ | with_reducible refine r_kP ?_ | with_reducible refine r_slS ?_ | with_reducible refine r_slT ?_ | with_reducible refine r_slL ?_ | with_reducible refine r_slSrc ?_
  | with_reducible refine r_bm ?_ | with_reducible refine r_tyS ?_ | with_reducible refine r_starts ?_ | with_reducible refine r_count ?_ | with_reducible refine r_call ?_ | with_reducible refine r_for ?_ | with_reducible refine r_seq ?_ | with_reducible refine r_kIt ?_ | with_reducible refine r_kIl ?_ | with_reducible refine r_kIs ?_ | with_reducible refine r_kIsrc ?_ | with_reducible refine r_r1 ?_ | with_reducible refine r_r2 ?_ | with_reducible refine r_lc ?_
  | with_reducible refine lit0 ?_ | with_reducible refine lit1 ?_ | with_reducible refine lit2 ?_ | with_reducible refine lit3 ?_ | with_reducible refine lit4 ?_ | with_reducible refine lit5 ?_ | with_reducible refine lit6 ?_ | with_reducible refine lit7 ?_
  | fail)
local macro_rules | `(tactic| walk_at "st") => `(tactic| repeat (first | walk_at "st1" | dsimp only))
local macro_rules | `(tactic| walk_at "go") => `(tactic| (simp only [dstart, dEnd, List.map_cons, List.map_nil, List.length_cons, List.length_nil, Nat.reduceAdd, Nat.reduceSub, Nat.zero_add, List.replicate, List.cons_append, List.nil_append]; walk_at "st"))

theorem linesF_len : ∀ (i : Nat) (rs : List (List (Option Int))), (linesF i rs).length = rs.length
  | _, [] => rfl
  | i, r :: rs => by unfold linesF; rw [List.length_cons, List.length_cons, linesF_len (i + 1) rs]
theorem linesF_get : ∀ (i : Nat) (rs : List (List (Option Int))) (j : Nat), (linesF i rs)[j]? = (rs[j]?).map fun r => lineOf (i + j) r
  | _, [], j => by simp [linesF]
  | i, r :: rs, 0 => by simp [linesF]
  | i, r :: rs, j + 1 => by
    unfold linesF
    rw [List.getElem?_cons_succ, List.getElem?_cons_succ, linesF_get (i + 1) rs j]
    rw [show i + 1 + j = i + (j + 1) by omega]
theorem linesF_app : ∀ (i : Nat) (rs ss : List (List (Option Int))), linesF i (rs ++ ss) = linesF i rs ++ linesF (i + rs.length) ss
  | _, [], ss => by simp [linesF]
  | i, r :: rs, ss => by
    show lineOf i r :: linesF (i + 1) (rs ++ ss) = lineOf i r :: (linesF (i + 1) rs ++ linesF (i + (rs.length + 1)) ss)
    rw [linesF_app (i + 1) rs ss, show i + 1 + rs.length = i + (rs.length + 1) by omega]
theorem linesF_take (i : Nat) (rs : List (List (Option Int))) (k : Nat) : (linesF i rs).take k = linesF i (rs.take k) := by
  refine List.ext_getElem? fun j => ?_
  rw [List.getElem?_take, linesF_get, linesF_get, List.getElem?_take]
  by_cases h : j < k
  · rw [if_pos h, if_pos h]
  · rw [if_neg h, if_neg h]; rfl
theorem linesF_free {i : Nat} {rs : List (List (Option Int))} : ∀ l ∈ linesF i rs, 10 ∉ l := by
  induction rs generalizing i with
  | nil => intro l h; cases h
  | cons r rs ih =>
    intro l h
    rcases List.mem_cons.mp h with rfl | h
    · exact line_free _ _
    · exact ih l h
theorem sem_session_from (ds : List D) (M : Mu) (Q : DK) (E : DXK) (h : sp_session_from ds M Q E) : t_session_from (dEnd Q) (dstart 5 ds) M := by
  obtain ⟨text, many, rs, tail, last, rfl, hl, hm, hs, hg, h200, ht, hq⟩ := h
  unfold t_session_from
  walk_at "go"
  refine r_newT fun p hp => ?_
  walk_at "st"
  have fin : Wq Q (.ref p) (mset M p (.lst (rowsD rs))) := by
    rcases hq with hq | hq
    · exact Wq.now (hq p hp)
    · exact Wq.frz mset_same (sub_new hp) hp hq
  refine r_split (by decide) (by decide) (sz1000 hl) ?_
  walk_at "st"
  rw [hs, cutL_none_neg1, ← List.map_dropLast, List.dropLast_concat]
  refine for_inv (fun xs δ M' => ∃ (s3 s4 : Option D) (a b : List (List (Option Int))), rs = a ++ b ∧ xs = (linesF a.length b ++ tail).map D.str ∧ M' = mset M p (.lst (rowsD a)) ∧ δ = [some (.str text), some (.int (many : Int)), some (.ref p), s3, s4]) (fun _ _ _ _ => trivial) ?_ ?_ _ _ _ ⟨none, none, [], rs, rfl, rfl, rfl, rfl⟩
  · rintro x xs δ M' N ⟨s3, s4, a, b, e1, e2, rfl, rfl⟩ hN
    have hal : a.length + b.length = rs.length := by rw [e1, List.length_append]
    cases b with
    | nil =>
      rw [linesF, List.nil_append] at e2
      rw [List.append_nil] at e1
      subst e1
      cases tail with
      | nil => cases e2
      | cons l tl' =>
      rw [List.map_cons] at e2
      obtain ⟨rfl, rfl⟩ := List.cons.inj e2
      have stop : (dSq (dIfS (dTest (dOp dIsN (dVar 4) (dC .non))) (dRt (dVar 2)) dNx) (dEx (dBM "list" dAppend (dVar 2) (dCons (dVar 4) dNil)))) { nx := N, rt := Wq Q, ct := N, bk := dRt (dVar 2) { nx := fun x M => Wq Q D.non M, rt := Wq Q } } [some (.str text), some (.int (many : Int)), some (.ref p), some (.str l), some .non] (mset M p (.lst (rowsD rs))) := by
        walk_at "st"
        refine r_if ?_
        walk_at "st"
        refine ⟨fun _ => ?_, fun z => Bool.noConfusion z⟩
        walk_at "st"
        exact fin
      walk_at "st"
      refine r_dif ?_
      walk_at "st"
      refine r_lenR mset_same ?_
      walk_at "st"
      refine ⟨fun z => ?_, fun z => ?_⟩
      · walk_at "st"
        refine r_lenR mset_same ?_
        walk_at "st"
        have z := of_decide_eq_true z
        have hrl : (rowsD rs).length = rs.length := by unfold rowsD; rw [List.length_map]
        rw [hrl] at z ⊢
        rcases ht with ht | ht | ⟨b0, tl0, ht, hb, hbad⟩
        · cases ht
        · omega
        · obtain ⟨rfl, rfl⟩ := List.cons.inj ht
          refine ⟨_, _, many, rfl, hb, by omega, hm, .inr ⟨hbad, ?_⟩⟩
          walk_at "st1"
          exact stop
      · walk_at "st1"
        walk_at "st1"
        exact stop
    | cons r b =>
      rw [linesF, List.cons_append, List.map_cons] at e2
      obtain ⟨rfl, rfl⟩ := List.cons.inj e2
      have hgr : GoodR many r := hg r (by rw [e1]; simp)
      have hrl : (rowsD a).length = a.length := by unfold rowsD; rw [List.length_map]
      rw [List.length_cons] at hal
      walk_at "st"
      refine r_dif ?_
      walk_at "st"
      refine r_lenR mset_same ?_
      walk_at "st"
      rw [hrl]
      refine ⟨fun z => ?_, fun z => absurd (of_decide_eq_false z) (by simp; omega)⟩
      walk_at "st"
      refine r_lenR mset_same ?_
      walk_at "st"
      rw [hrl]
      have hll := line_len (at' := a.length) (row := r) (by omega) (by rw [hgr.len]; exact hm) hgr.gd
      refine ⟨_, _, many, rfl, by omega, by omega, hm, .inl ⟨r, rfl, hgr, ?_⟩⟩
      walk_at "st"
      refine r_if ?_
      walk_at "st"
      refine ⟨fun z => Bool.noConfusion z, fun _ => ?_⟩
      walk_at "st"
      refine r_tyR mset_same ?_
      walk_at "st"
      refine r_append mset_same (szlt (by omega)) ?_
      rw [mset_mset]
      refine hN _ _ ⟨_, _, a ++ [r], b, by rw [e1]; simp, ?_, ?_, rfl⟩
      · rw [List.length_append]; rfl
      · unfold rowsD; rw [List.map_append]; rfl
  · rintro δ M' ⟨s3, s4, a, b, e1, e2, rfl, rfl⟩
    cases b with
    | cons r b => cases e2
    | nil =>
      rw [List.append_nil] at e1
      subst e1
      walk_at "st"
      exact fin
theorem upd_in {M : Mu} {a p : Addr} {o o' l : DO} (h : p ≠ a) : mset (mset (mset M a o) p l) a o' = mset (mset M a o') p l := by
  rw [mset_swap h, mset_mset]
theorem get_in {M : Mu} {a p : Addr} {o l : DO} (h : p ≠ a) : mset (mset M a o) p l a = some o := by
  rw [mset_ne (fun z => h z.symm), mset_same]
theorem src_of {k : Nat} {o : DO} (h : Src (k + 1) o) (P : Prop) (q : Src (k + 1) o → P) : P := q h
theorem sem_law_k06_row (ds : List D) (M : Mu) (Q : DK) (E : DXK) (h : sp_law_k06_row ds M Q E) : t_law_k06_row (dEnd Q) (dstart 5 ds) M := by
  obtain ⟨a, o, k, many, rfl, hM, hS, hm, hq⟩ := h
  unfold t_law_k06_row
  walk_at "go"
  refine r_newT fun p hp => ?_
  have hpa : p ≠ a := fun z => by rw [z, hM] at hp; cases hp
  walk_at "st"
  refine r_kR1 (by omega) (by omega) ?_
  rw [Int.toNat_natCast]
  have M0 : mset M p (.lst []) = mset (mset M a o) p (.lst []) := by
    congr 1
    funext b
    unfold mset
    split
    · next e => rw [e, hM]
    · rfl
  rw [M0]
  refine for_inv (fun xs δ M' => ∃ (s3 s4 : Option D) (row : List (Option Int)) (o' : DO), row.length + xs.length = many ∧ (∀ x ∈ row, Gd x) ∧ Src (k + 3 * xs.length) o' ∧ M' = mset (mset M a o') p (.lst (row.map oD)) ∧ δ = [some (.ref a), some (.int (many : Int)), some (.ref p), s3, s4]) (fun _ _ _ _ => trivial) ?_ ?_ _ _ _ ⟨none, none, [], o, ?_, by simp, by rw [rngD_len]; exact hS, rfl, rfl⟩
  · rintro x xs δ M' N ⟨s3, s4, row, o', hlen, hgd, hS', rfl, rfl⟩ hN
    rw [List.length_cons] at hlen hS'
    walk_at "st"
    refine r_dif ?_
    walk_at "st"
    refine ⟨a, 5, o', k + 3 * xs.length + 2, rfl, get_in hpa, hS', by decide, by decide, fun r o1 _ _ hS1 => ?_⟩
    rw [upd_in hpa]
    have rest : ∀ size : Int, 0 < size → size < 10 ^ 99 → (dEx (dBM "list" dAppend (dVar 2) (dCons (dIf (dTest (dOp dEq (dCall sp_law_pick [] dX0 (dCons (dVar 0) (dCons (dC (.int 4)) dNil))) (dC (.int 0)))) (dC .non) (dOp dSub (dCall sp_law_pick [] dX0 (dCons (dVar 0) (dCons (dOp (dAdd false) (dOp (dMul false) (dC (.int 2)) (dVar 4)) (dC (.int 1))) dNil))) (dVar 4))) dNil))) { nx := N, rt := Wq Q, ct := N, bk := dRt (dCB dTupOf (dCons (dVar 2) dNil)) { nx := fun x M => Wq Q D.non M, rt := Wq Q } } [some (.ref a), some (.int (many : Int)), some (.ref p), some x, some (.int size)] (mset (mset M a o1) p (.lst (row.map oD))) := by
      intro size s0 s1
      have app : ∀ (y : Option Int) (o2 : DO), Gd y → Src (k + 3 * xs.length) o2 → dAppend (.ref p) [oD y] (mset (mset M a o2) p (.lst (row.map oD))) (fun _ M1 => N [some (.ref a), some (.int (many : Int)), some (.ref p), some x, some (.int size)] M1) := by
        intro y o2 hy hS2
        refine r_append mset_same (szlt (by rw [List.length_map]; omega)) ?_
        rw [mset_mset]
        refine hN _ _ ⟨_, _, row ++ [y], o2, by rw [List.length_append, List.length_singleton]; omega, ?_, hS2, by rw [List.map_append]; rfl, rfl⟩
        intro z hz
        rcases List.mem_append.mp hz with hz | hz
        · exact hgd z hz
        · rw [List.mem_singleton.mp hz]; exact hy
      walk_at "st"
      refine r_tyR mset_same ?_
      walk_at "st"
      refine r_dif ?_
      walk_at "st"
      refine ⟨a, 4, o1, k + 3 * xs.length + 1, rfl, get_in hpa, hS1, by decide, by decide, fun r o2 _ _ hS2 => ?_⟩
      rw [upd_in hpa]
      walk_at "st"
      refine ⟨fun _ => ?_, fun _ => ?_⟩
      · walk_at "st"
        exact app none o2 (fun i hi => by cases hi) (hS2.less (by omega))
      · walk_at "st"
        refine ⟨mul_fit 2 400 (by decide) ?_, ?_⟩
        · have : (10 : Nat) ^ 99 < 2 ^ 400 := by decide +kernel
          omega
        walk_at "st"
        refine ⟨a, _, o2, k + 3 * xs.length, rfl, get_in hpa, hS2, by omega, ?_, fun r o3 r0 r1 hS3 => ?_⟩
        · have : (2 : Int) * 10 ^ 99 + 1 < 2 ^ 1000 := by decide +kernel
          omega
        rw [upd_in hpa]
        walk_at "st"
        refine app (some (r - size)) o3 (fun i hi => ?_) hS3
        cases hi
        have : (10 : Nat) ^ 99 + 1 < 10 ^ 100 := by decide +kernel
        omega
    walk_at "st"
    refine ⟨fun _ => ?_, fun _ => ?_⟩
    · walk_at "st"
      refine ⟨⟨by decide, by decide, by decide⟩, ?_⟩
      walk_at "st1"
      exact rest _ (by decide +kernel) (by decide +kernel)
    · walk_at "st1"
      walk_at "st1"
      exact rest _ (by decide) (by decide +kernel)
  · rintro δ M' ⟨s3, s4, row, o', hlen, hgd, hS', rfl, rfl⟩
    walk_at "st"
    refine r_tupR mset_same ?_
    refine Wq.drop (M' := mset M a o') (sub_new ?_) (hq row o' ⟨hlen, hgd⟩ hS')
    rw [mset_ne hpa, hp]
  · rw [rngD_len, List.length_nil, Nat.zero_add]
theorem sem_law_k06_spoilt (ds : List D) (M : Mu) (Q : DK) (E : DXK) (h : sp_law_k06_spoilt ds M Q E) : t_law_k06_spoilt (dEnd Q) (dstart 5 ds) M := by
  obtain ⟨a, o, k, at', many, row, rfl, hM, hS, hg, h1, h9, ha, hq⟩ := h
  have hl : (lineOf at' row).length ≤ 1100 := line_len (by omega) (by rw [hg.len]; exact h9) hg.gd
  have hsz : (lineOf at' row).length ≤ sizeLine := sz1000 (by omega)
  have hnum : (numI (at' : Int)).length ≤ 101 := numI9 (by omega)
  have hnum2 : (numI ((at' + 1 : Nat) : Int)).length ≤ 101 := numI9 (by omega)
  unfold t_law_k06_spoilt
  walk_at "go"
  refine r_split (by decide) (by decide) (sz1000 (by omega)) ?_
  walk_at "st"
  rw [spl_line]
  refine ⟨a, 10, o, k + 1, rfl, hM, hS, by decide, by decide, fun way o1 _ _ hS1 => ?_⟩
  have out : ∀ x, BadT x at' many → Wq Q (.str x) (mset M a o1) := fun x hb => Wq.now (hq x o1 1 (Nat.le_refl _) hb hS1)
  have out2 : ∀ x o2, BadT x at' many → Src k o2 → Wq Q (.str x) (mset (mset M a o1) a o2) := fun x o2 hb h2 => by
    rw [mset_mset]
    exact Wq.now (hq x o2 0 (by omega) hb h2)
  have hwj : ∀ ps : List (List Nat), joinL [32] ps = joinL [32] ps := fun _ => rfl
  walk_at "st"
  refine r_if ?_
  walk_at "st"
  refine ⟨fun _ => ?_, fun _ => ?_⟩
  · walk_at "st"
    refine ⟨sz1000 (by show _ + 1 ≤ _; omega), ?_⟩
    exact out _ (way0 hg hl)
  walk_at "st"
  refine r_if ?_
  walk_at "st"
  refine ⟨fun _ => ?_, fun _ => ?_⟩
  · walk_at "st"
    refine ⟨sz1000 (by show _ + 2 ≤ _; omega), ?_⟩
    exact out _ (way1 hg hl)
  walk_at "st"
  refine r_if ?_
  walk_at "st"
  refine ⟨fun _ => ?_, fun _ => ?_⟩
  · walk_at "st"
    rw [cutL_none_neg1, ← List.map_dropLast]
    have hb := way2 (at' := at') hg h1 hl
    refine r_join rfl (strsOf_map _) ?_ ?_
    · have hsum := sum_len (B := 101) (wsOf at' row).dropLast (fun p hp => by
        have hp := List.dropLast_subset _ hp
        rcases List.mem_cons.mp hp with rfl | hp
        · decide
        rcases List.mem_cons.mp hp with rfl | hp
        · exact hnum
        · obtain ⟨o, ho, rfl⟩ := List.mem_map.mp hp
          exact word_len (hg.gd o ho))
      have e := ws_len at' row
      have e2 := hg.len
      rw [List.length_dropLast, e] at hsum
      rw [List.length_dropLast, e]
      show _ + _ * 1 ≤ _
      omega
    · exact out _ hb
  walk_at "st"
  refine r_if ?_
  walk_at "st"
  refine ⟨fun _ => ?_, fun _ => ?_⟩
  · walk_at "st"
    rw [show ((at' : Int) + 1) = ((at' + 1 : Nat) : Int) by omega]
    refine ⟨log9 (by omega), ?_⟩
    walk_at "st"
    refine ⟨sz1000 (by show 6 + _ ≤ _; omega), ?_⟩
    walk_at "st"
    refine ⟨log9 (by omega), ?_⟩
    walk_at "st"
    refine ⟨sz1000 (by omega), ?_⟩
    walk_at "st"
    refine ⟨hsz, ?_⟩
    walk_at "st"
    rw [show (6 : Int) + ((numI (at' : Int)).length : Int) = ((6 + (numI (at' : Int)).length : Nat) : Int) by omega, cutL_nat_none]
    have hb := way3 hg (by omega) hl
    refine ⟨sz1000 ?_, out _ hb⟩
    have := hb.2.1
    rw [List.length_append] at this
    omega
  walk_at "st"
  refine r_if ?_
  walk_at "st"
  refine ⟨fun _ => ?_, fun _ => ?_⟩
  · walk_at "st"
    refine ⟨hsz, ?_⟩
    rw [cutL_none_neg1]
    walk_at "st"
    refine ⟨a, _, o1, k, rfl, mset_same, hS1, by decide, by decide, fun x o2 hx h2 => ?_⟩
    have hx : ∃ z : List Nat, x = .str z ∧ (z = [97] ∨ z = [45, 45] ∨ z = [49, 47, 50] ∨ z = [43]) := by
      simp at hx
      rcases hx with rfl | rfl | rfl | rfl
      · exact ⟨_, rfl, .inl rfl⟩
      · exact ⟨_, rfl, .inr (.inl rfl)⟩
      · exact ⟨_, rfl, .inr (.inr (.inl rfl))⟩
      · exact ⟨_, rfl, .inr (.inr (.inr rfl))⟩
    obtain ⟨z, rfl, hz⟩ := hx
    walk_at "st"
    have hb := way4 hg h1 hl hz
    refine ⟨sz1000 ?_, out2 _ _ hb h2⟩
    have := hb.2.1
    rw [List.length_append] at this
    omega
  walk_at "st"
  refine r_if ?_
  walk_at "st"
  refine ⟨fun _ => ?_, fun _ => ?_⟩
  · walk_at "st"
    refine ⟨hsz, ?_⟩
    rw [show (6 : Int) = ((6 : Nat) : Int) from rfl, cutL_nat_none]
    walk_at "st"
    have hb := way5 hg (by omega) hl
    refine ⟨sz1000 ?_, out _ hb⟩
    have := hb.2.1
    rw [List.length_append] at this
    omega
  walk_at "st"
  refine r_if ?_
  walk_at "st"
  refine ⟨fun _ => ?_, fun _ => ?_⟩
  · walk_at "st"
    rw [cutL_none_neg1, ← List.map_dropLast]
    refine ⟨a, _, o1, k, rfl, mset_same, hS1, by decide, by decide, fun x o2 hx h2 => ?_⟩
    have hx : ∃ z : List Nat, x = .str z ∧ (z = [45, 48] ∨ z = [48, 48] ∨ z = [48, 49] ∨ z = [45, 48, 49] ∨ z = [] ∨ z = [49, 32, 50]) := by
      simp at hx
      rcases hx with rfl | rfl | rfl | rfl | rfl | rfl
      · exact ⟨_, rfl, .inl rfl⟩
      · exact ⟨_, rfl, .inr (.inl rfl)⟩
      · exact ⟨_, rfl, .inr (.inr (.inl rfl))⟩
      · exact ⟨_, rfl, .inr (.inr (.inr (.inl rfl)))⟩
      · exact ⟨_, rfl, .inr (.inr (.inr (.inr (.inl rfl))))⟩
      · exact ⟨_, rfl, .inr (.inr (.inr (.inr (.inr rfl))))⟩
    obtain ⟨z, rfl, hz⟩ := hx
    walk_at "st"
    have hb := way6 (at' := at') hg h1 hl hz
    have hws := ws_len at' row
    have hrl := hg.len
    have hz3 : z.length ≤ 3 := by rcases hz with rfl | rfl | rfl | rfl | rfl | rfl <;> decide
    refine ⟨sz1000 (by simp; omega), ?_⟩
    walk_at "st"
    refine r_join (ys := (wsOf at' row).dropLast ++ [z]) rfl ?_ ?_ (out2 _ _ hb h2)
    · rw [← strsOf_map, List.map_append]; rfl
    · have := sum_len (B := 101) ((wsOf at' row).dropLast ++ [z]) (fun p hp => by
        rcases List.mem_append.mp hp with hp | hp
        · have hp := List.dropLast_subset _ hp
          rcases List.mem_cons.mp hp with rfl | hp
          · decide
          rcases List.mem_cons.mp hp with rfl | hp
          · exact hnum
          · obtain ⟨o, ho, rfl⟩ := List.mem_map.mp hp
            exact word_len (hg.gd o ho)
        · rw [List.mem_singleton.mp hp]; omega)
      rw [List.length_append, List.length_dropLast, hws] at *
      simp at *
      omega
  walk_at "st"
  refine r_if ?_
  walk_at "st"
  refine ⟨fun _ => ?_, fun _ => ?_⟩
  · walk_at "st"
    refine ⟨sz1000 (by show 1 + _ ≤ _; omega), ?_⟩
    exact out _ (way7 hg hl)
  walk_at "st"
  refine r_if ?_
  walk_at "st"
  refine ⟨fun _ => ?_, fun _ => ?_⟩
  · walk_at "st"
    unfold dRepl
    walk_at "st"
    refine ⟨by simp; omega, ?_⟩
    exact out _ (way8 hg h1 hl)
  walk_at "st"
  refine ⟨hsz, ?_⟩
  rw [show (5 : Int) = ((5 : Nat) : Int) from rfl, cutL_nat_none]
  walk_at "st"
  refine ⟨sz1000 (by simp; omega), ?_⟩
  walk_at "st"
  refine ⟨a, _, o1, k, rfl, mset_same, hS1, by simp, by simp, fun x o2 hx h2 => ?_⟩
  have hx : ∃ z : List Nat, x = .str z ∧ (z = [] ∨ z = [101, 110, 100] ∨ z = [82, 111, 117, 110, 100] ++ (lineOf at' row).drop 5 ∨ z = [114, 111, 117, 110, 100]) := by
    rcases List.mem_cons.mp hx with rfl | hx
    · exact ⟨_, rfl, .inl rfl⟩
    rcases List.mem_cons.mp hx with rfl | hx
    · exact ⟨_, rfl, .inr (.inl rfl)⟩
    rcases List.mem_cons.mp hx with rfl | hx
    · exact ⟨_, rfl, .inr (.inr (.inl rfl))⟩
    rcases List.mem_cons.mp hx with rfl | hx
    · exact ⟨_, rfl, .inr (.inr (.inr rfl))⟩
    cases hx
  obtain ⟨z, rfl, hz⟩ := hx
  exact out2 _ _ (way9 hg h1 hl hz) h2
end K06

namespace K06
open PySem PySem.Spec PyProof.Rows L2 TL DL
local macro_rules | `(tactic| walk_at "st1") => `(tactic| first
  | with_reducible refine r_sq ?_ | with_reducible refine r_nx ?_ | with_reducible refine r_rt ?_ | with_reducible refine r_rtN ?_ | with_reducible refine r_ex ?_ | with_reducible refine r_as ?_ | with_reducible refine r_bk ?_ | with_reducible refine r_ct ?_
  | ((with_reducible apply r_var); exact rfl) | with_reducible refine r_c ?_ | with_reducible refine r_op ?_ | with_reducible refine r_un ?_ | with_reducible refine r_neg ?_
  | ((with_reducible refine r_dgN rfl ?_); (try simp only [List.set]))
  | with_reducible refine r_dgSub ?_ | with_reducible refine r_dgT rfl ?_ | with_reducible refine r_dga0 ?_ | with_reducible refine r_dga1 ?_ | with_reducible refine r_auS ?_ | ((with_reducible apply r_au); exact rfl)
  | with_reducible refine r_par ?_ | ((with_reducible refine r_kPar rfl ?_); (try simp only [List.set]))
  | with_reducible refine r_addI ?_ | with_reducible refine r_addS ?_ | with_reducible refine r_addT ?_ | with_reducible refine r_addL ?_ | with_reducible refine r_subI ?_ | with_reducible refine r_mulI ?_ | with_reducible refine r_fdiv ?_ | with_reducible refine r_mod ?_ | with_reducible refine r_pow ?_ | with_reducible refine r_shl ?_
  | with_reducible refine r_eqI ?_ | with_reducible refine r_eqS ?_ | with_reducible refine r_eqB ?_ | with_reducible refine r_neI ?_ | with_reducible refine r_neS ?_ | with_reducible refine r_neB ?_ | with_reducible refine r_ltI ?_ | with_reducible refine r_gtI ?_ | with_reducible refine r_leI ?_ | with_reducible refine r_geI ?_ | with_reducible refine r_isN ?_ | with_reducible refine r_notN ?_ | with_reducible refine r_inS ?_
  | with_reducible refine r_test ?_ | with_reducible refine r_kB ?_ | with_reducible refine r_tru ?_ | with_reducible refine r_kTb ?_ | with_reducible refine r_kTi ?_ | with_reducible refine r_kTn ?_ | with_reducible refine r_kTl ?_ | with_reducible refine r_kTt ?_ | with_reducible refine r_kTs ?_ | with_reducible refine r_not ?_ | with_reducible refine r_notV ?_ | with_reducible refine r_yes ?_
  | with_reducible refine r_nil ?_ | with_reducible refine r_cons ?_ | with_reducible refine r_tup ?_ | with_reducible refine r_lst ?_ | with_reducible refine r_newF ?_ | with_reducible refine r_cb ?_
  | with_reducible refine r_lenS ?_ | with_reducible refine r_lenL ?_ | with_reducible refine r_lenT ?_ | with_reducible refine r_lenSrc ?_ | with_reducible refine r_abs ?_ | with_reducible refine r_min2 ?_ | with_reducible refine r_max2 ?_ | with_reducible refine r_intI ?_ | with_reducible refine r_str ?_ | with_reducible refine r_tupT ?_ | with_reducible refine r_tupL ?_ | with_reducible refine r_divmod ?_
  | with_reducible refine r_sl ?_ | with_reducible refine r_noP ?_ | with_reducible refine r_part ?_ | with_reducible refine r_kP ?_ | with_reducible refine r_slS ?_ | with_reducible refine r_slT ?_ | with_reducible refine r_slL ?_ | with_reducible refine r_slSrc ?_
  | with_reducible refine r_bm ?_ | with_reducible refine r_tyS ?_ | with_reducible refine r_starts ?_ | with_reducible refine r_count ?_ | with_reducible refine r_call ?_ | with_reducible refine r_for ?_ | with_reducible refine r_seq ?_ | with_reducible refine r_kIt ?_ | with_reducible refine r_kIl ?_ | with_reducible refine r_kIs ?_ | with_reducible refine r_kIsrc ?_ | with_reducible refine r_r1 ?_ | with_reducible refine r_r2 ?_ | with_reducible refine r_lc ?_
  | with_reducible refine lit0 ?_ | with_reducible refine lit1 ?_ | with_reducible refine lit2 ?_ | with_reducible refine lit3 ?_ | with_reducible refine lit4 ?_ | with_reducible refine lit5 ?_ | with_reducible refine lit6 ?_ | with_reducible refine lit7 ?_
  | fail)
local macro_rules | `(tactic| walk_at "st") => `(tactic| repeat (first | walk_at "st1" | dsimp only))
local macro_rules | `(tactic| walk_at "go") => `(tactic| (simp only [dstart, dEnd, List.map_cons, List.map_nil, List.length_cons, List.length_nil, Nat.reduceAdd, Nat.reduceSub, Nat.zero_add, List.replicate, List.cons_append, List.nil_append]; walk_at "st"))

/-! texts of lines -/
def textOf (ls : List (List Nat)) : List Nat := (ls.map (· ++ [10])).flatten
theorem textOf_cons (l : List Nat) (ls : List (List Nat)) : textOf (l :: ls) = l ++ (10 :: textOf ls) := by
  unfold textOf
  rw [List.map_cons, List.flatten_cons]
  simp
theorem spl_text : ∀ (ls : List (List Nat)) (r : List Nat), (∀ l ∈ ls, 10 ∉ l) → spl [10] 0 [] (textOf ls ++ r) = ls ++ spl [10] 0 [] r
  | [], r, _ => rfl
  | l :: ls, r, h => by
    rw [textOf_cons, List.append_assoc]
    have := spl_part1 (s := 10) (S := []) (acc := []) (rest := textOf ls ++ r) (h l (List.mem_cons_self ..))
    rw [show l ++ (10 :: textOf ls ++ r) = l ++ ([10] ++ (textOf ls ++ r)) by simp]
    rw [this, List.nil_append, spl_text ls r fun z hz => h z (List.mem_cons_of_mem _ hz)]
    rfl
theorem text_cut : ∀ (ls : List (List Nat)) (c : Nat), (∀ l ∈ ls, 10 ∉ l) → ∃ k last, k ≤ ls.length ∧ (textOf ls).take c = textOf (ls.take k) ++ last ∧ 10 ∉ last
  | [], c, _ => ⟨0, [], Nat.le_refl _, by simp [textOf], by simp⟩
  | l :: ls, c, h => by
    have hl := h l (List.mem_cons_self ..)
    by_cases hc : c ≤ l.length
    · refine ⟨0, l.take c, by omega, ?_, fun z => hl (List.mem_of_mem_take z)⟩
      rw [textOf_cons, List.take_append_of_le_length hc]
      rfl
    · obtain ⟨k, last, h1, h2, h3⟩ := text_cut ls (c - l.length - 1) fun z hz => h z (List.mem_cons_of_mem _ hz)
      refine ⟨k + 1, last, by rw [List.length_cons]; omega, ?_, h3⟩
      rw [textOf_cons, List.take_succ_cons, textOf_cons, List.take_append, List.take_of_length_le (by omega), List.append_assoc]
      congr 1
      rw [show c - l.length = (c - l.length - 1) + 1 by omega, List.take_succ_cons, h2]
      rfl
theorem cnt_text : ∀ (ls : List (List Nat)), (∀ l ∈ ls, 10 ∉ l) → cnt 10 (textOf ls) = ls.length
  | [], _ => rfl
  | l :: ls, h => by
    rw [textOf_cons, cnt_append, cnt_none 10 l (h l (List.mem_cons_self ..)), cnt_cons, if_pos rfl, cnt_text ls fun z hz => h z (List.mem_cons_of_mem _ hz), List.length_cons]
    omega
theorem text_len {B : Nat} : ∀ ls : List (List Nat), (∀ l ∈ ls, l.length ≤ B) → (textOf ls).length ≤ (B + 1) * ls.length
  | [], _ => by simp [textOf]
  | l :: ls, h => by
    rw [textOf_cons, List.length_append, List.length_cons, List.length_cons, Nat.mul_succ]
    have := text_len ls fun z hz => h z (List.mem_cons_of_mem _ hz)
    have := h l (List.mem_cons_self ..)
    omega
theorem text_ge : ∀ ls : List (List Nat), (∀ l ∈ ls, l ≠ []) → 2 * ls.length ≤ (textOf ls).length
  | [], _ => by simp [textOf]
  | l :: ls, h => by
    rw [textOf_cons, List.length_append, List.length_cons, List.length_cons]
    have := text_ge ls fun z hz => h z (List.mem_cons_of_mem _ hz)
    have := List.length_pos_iff.mpr (h l (List.mem_cons_self ..))
    omega
theorem line_ne (i : Nat) (r : List (Option Int)) : lineOf i r ≠ [] := by
  rw [line_head]; simp
theorem linesF_ne {i : Nat} {rs : List (List (Option Int))} : ∀ l ∈ linesF i rs, l ≠ [] := by
  induction rs generalizing i with
  | nil => intro l h; cases h
  | cons r rs ih =>
    intro l h
    rcases List.mem_cons.mp h with rfl | h
    · exact line_ne _ _
    · exact ih l h
theorem linesF_lens {many i : Nat} {rs : List (List (Option Int))} (hm : many ≤ 9) (hi : i + rs.length < 10 ^ 9) (hg : ∀ r ∈ rs, GoodR many r) : ∀ l ∈ linesF i rs, l.length ≤ 1100 := by
  induction rs generalizing i with
  | nil => intro l h; cases h
  | cons r rs ih =>
    intro l h
    rw [List.length_cons] at hi
    rcases List.mem_cons.mp h with rfl | h
    · have g := hg r (List.mem_cons_self ..)
      exact line_len (by omega) (by rw [g.len]; exact hm) g.gd
    · exact ih (by omega) (fun r hr => hg r (List.mem_cons_of_mem _ hr)) l h
theorem rng_mem {n : Nat} {x : D} (h : x ∈ rngD 0 n) : ∃ j : Nat, j < n ∧ x = .int (j : Int) := by
  obtain ⟨j, hj, rfl⟩ := List.mem_map.mp h
  rw [List.mem_range] at hj
  exact ⟨j, hj, by rw [Int.zero_add]⟩
theorem rng_map (n : Nat) (f : D → D) : (rngD 0 n).map f = (List.range n).map fun j => f (.int ((j : Nat) : Int)) := by
  unfold rngD
  rw [List.map_map]
  refine List.map_congr_left fun j _ => ?_
  show f (.int (0 + (j : Int))) = _
  rw [Int.zero_add]
theorem rows_cut {rs : List (List (Option Int))} (k : Nat) : cutL (rowsD rs) none (some (k : Int)) = rowsD (rs.take k) := by
  rw [cutL_none_nat]
  unfold rowsD
  rw [List.map_take]
theorem pl_row {many : Nat} {r : List (Option Int)} (h : GoodR many r) (hm : many ≤ 9) : Pl 1 (rowD r) := by
  refine ⟨by rw [List.length_map, h.len]; omega, fun d hd => ?_⟩
  obtain ⟨o, _, rfl⟩ := List.mem_map.mp hd
  cases o <;> exact True.intro
theorem pl_up : ∀ (n : Nat) (d : D), Pl n d → Pl (n + 1) d
  | _, .non, _ => True.intro
  | _, .bl _, _ => True.intro
  | _, .int _, _ => True.intro
  | _, .str _, _ => True.intro
  | 0, .tup _, h => h.elim
  | 0, .lst _, h => h.elim
  | n + 1, .tup ds, h => ⟨h.1, fun d hd => pl_up n d (h.2 d hd)⟩
  | n + 1, .lst ds, h => ⟨h.1, fun d hd => pl_up n d (h.2 d hd)⟩
  | n, .src _, h => by cases n <;> exact h.elim
  | n, .ref _, h => by cases n <;> exact h.elim
  | n, .ty _, h => by cases n <;> exact h.elim
theorem pl_le {m n : Nat} {d : D} (h : Pl m d) (l : m ≤ n) : Pl n d := by
  induction l with
  | refl => exact h
  | step _ ih => exact pl_up _ _ ih
theorem pl_rows {many : Nat} {rs : List (List (Option Int))} (h : ∀ r ∈ rs, GoodR many r) (hm : many ≤ 9) (hl : rs.length ≤ 1000000) : Pl 8 (.lst (rowsD rs)) := by
  refine pl_le (m := 2) ⟨by unfold rowsD; rw [List.length_map]; exact hl, fun d hd => ?_⟩ (by decide)
  obtain ⟨r, hr, rfl⟩ := List.mem_map.mp hd
  exact pl_row (h r hr) hm
theorem same_of {M : Mu} {x y : D} {Q : DK} {E : DXK} (d : D) (hx : Vw M x d) (hy : Vw M y d) (hp : Pl 8 d) (h : Q (.bl true) M) : sp_law_same [x, y] M Q E := ⟨x, y, d, rfl, hx, hy, hp, h⟩
theorem sem_law (ds : List D) (M : Mu) (Q : DK) (E : DXK) (h : sp_law ds M Q E) : t_law (dEnd Q) (dstart 14 ds) M := by
  obtain ⟨ns, rfl, hq⟩ := h
  have hq' : ∀ M', Sub M M' → Wq Q (.bl true) M' := fun M' s => Wq.drop s hq
  unfold t_law
  walk_at "go"
  refine ⟨ns, 0, rfl, by decide, by decide, fun p o hp hS => ?_⟩
  walk_at "st"
  refine ⟨p, 3, o, 2 ^ 59 - 1, rfl, mset_same, hS, by decide, by decide, fun m0 o1 hm0 hm1 hS1 => ?_⟩
  rw [mset_mset]
  obtain ⟨m1, rfl⟩ := Int.eq_ofNat_of_zero_le hm0
  walk_at "st"
  rw [show (1 : Int) + (m1 : Int) = ((1 + m1 : Nat) : Int) by omega]
  have hm9 : 1 + m1 ≤ 9 := by omega
  have hm13 : 1 + m1 ≤ 3 := by omega
  have hm10 : 1 ≤ 1 + m1 := by omega
  generalize 1 + m1 = many at hm9 hm10 hm13 ⊢
  refine via (P := fun d M' => ∃ (n : Nat) (o' : DO), d = .int (n : Int) ∧ 1 ≤ n ∧ n ≤ 202 ∧ M' = mset M p o' ∧ Src (2 ^ 58) o') (fun Q' hQ' => ?_) ?_
  · refine r_dif ?_
    walk_at "st"
    refine ⟨p, 10, o1, 2 ^ 59 - 2, rfl, mset_same, hS1, by decide, by decide, fun r1 o2 _ _ hS2 => ?_⟩
    rw [mset_mset]
    walk_at "st"
    refine ⟨fun _ => ?_, fun _ => ?_⟩
    · walk_at "st"
      refine ⟨p, 5, o2, 2 ^ 59 - 3, rfl, mset_same, hS2, by decide, by decide, fun r2 o3 h0 h1 hS3 => ?_⟩
      rw [mset_mset]
      walk_at "st"
      exact hQ' _ _ ⟨(198 + r2).toNat, o3, by rw [Int.toNat_of_nonneg (by omega)], by omega, by omega, rfl, hS3.less (by decide)⟩
    · walk_at "st"
      refine ⟨p, 9, o2, 2 ^ 59 - 3, rfl, mset_same, hS2, by decide, by decide, fun r2 o3 h0 h1 hS3 => ?_⟩
      rw [mset_mset]
      walk_at "st"
      exact hQ' _ _ ⟨(1 + r2).toNat, o3, by rw [Int.toNat_of_nonneg (by omega)], by omega, by omega, rfl, hS3.less (by decide)⟩
  clear hS hS1
  rintro _ _ ⟨n, o, rfl, n1, n202, rfl, hS⟩
  walk_at "st"
  refine r_kR1 (by omega) (by omega) ?_
  rw [Int.toNat_natCast]
  -- the rows
  refine lc_inv (fun xs acc M' => ∃ (rs : List (List (Option Int))) (o' : DO), acc = rowsD rs ∧ rs.length + xs.length = n ∧ (∀ r ∈ rs, GoodR many r) ∧ M' = mset M p o' ∧ Src (2 ^ 57 + 3 * many * xs.length) o') (fun _ _ _ _ => trivial) ?_ ?_ _ _ _ ⟨[], o, rfl, by rw [rngD_len]; simp, by simp, rfl, hS.less (by rw [rngD_len]; have := Nat.mul_le_mul (Nat.mul_le_mul_left 3 hm9) n202; omega)⟩
  · rintro x xs acc M' N ⟨rs, o', rfl, hl, hg, rfl, hS'⟩ hN
    rw [List.length_cons] at hl hS'
    simp only [dwipe, List.set]
    walk_at "st"
    refine ⟨p, o', 2 ^ 57 + 3 * many * xs.length, many, rfl, mset_same, hS'.less (by rw [Nat.mul_succ]; omega), hm9, fun row o2 hr hS2 => ?_⟩
    rw [mset_mset]
    refine ⟨szlt (by unfold rowsD; rw [List.length_map]; omega), hN _ _ ⟨rs ++ [row], o2, ?_, by rw [List.length_append, List.length_singleton]; omega, ?_, rfl, hS2⟩⟩
    · unfold rowsD; rw [List.map_append]; rfl
    · intro r h
      rcases List.mem_append.mp h with h | h
      · exact hg r h
      · rw [List.mem_singleton.mp h]; exact hr
  clear hS
  rintro acc M' ⟨rs, o, rfl, hl, hg, rfl, hS⟩
  rw [List.length_nil, Nat.add_zero] at hl
  subst hl
  have hrl : (rowsD rs).length = rs.length := by unfold rowsD; rw [List.length_map]
  have hget : ∀ j : Nat, j < rs.length → ∃ r, rs[j]? = some r ∧ GoodR many r ∧ atI (rowsD rs) (j : Int) = some (rowD r) := fun j hj => by
    refine ⟨rs[j], List.getElem?_eq_getElem hj, hg _ (List.getElem_mem hj), atI_nat ?_⟩
    unfold rowsD
    rw [List.getElem?_map, List.getElem?_eq_getElem hj]
    rfl
  walk_at "st"
  refine r_kR1 (by omega) (by omega) ?_
  rw [Int.toNat_natCast]
  -- the lines
  refine lc_map (fun d => match d with
    | .int i => .str (lineOf i.toNat (rs.getD i.toNat []))
    | d => d) trivial _ _ (by rw [rngD_len, List.length_nil, Nat.zero_add]; exact sz1000 (by omega)) (fun x hx R hR => ?_) ?_
  · obtain ⟨j, hj, rfl⟩ := rng_mem hx
    obtain ⟨r, e, hr, ha⟩ := hget j hj
    simp only [dwipe, List.set]
    walk_at "st"
    refine r_idxL ha ?_
    walk_at "st"
    refine ⟨j, r, rfl, by omega, by rw [hr.len]; exact hm9, hr.gd, ?_⟩
    simp only [Int.toNat_natCast, List.getD_eq_getElem?_getD, e] at hR
    exact hR
  have hlines : (rngD 0 rs.length).map (fun d => match d with
    | .int i => D.str (lineOf i.toNat (rs.getD i.toNat []))
    | d => d) = (linesF 0 rs).map D.str := by
    rw [rng_map]
    refine List.ext_getElem? fun j => ?_
    rw [List.getElem?_map, List.getElem?_map, linesF_get]
    by_cases hj : j < rs.length
    · rw [List.getElem?_range hj, List.getElem?_eq_getElem hj]
      simp [List.getD_eq_getElem?_getD, List.getElem?_eq_getElem hj]
    · rw [List.getElem?_eq_none (by rw [List.length_range]; omega), List.getElem?_eq_none (by omega)]
      rfl
  rw [hlines, List.nil_append]
  have hls : ∃ ls, ls = linesF 0 rs := ⟨_, rfl⟩
  obtain ⟨ls, hls⟩ := hls
  have hlsl : ls.length = rs.length := by rw [hls, linesF_len]
  have hlsf : ∀ l ∈ ls, 10 ∉ l := by rw [hls]; exact linesF_free
  have hlsb : ∀ l ∈ ls, l.length ≤ 1100 := by rw [hls]; exact linesF_lens hm9 (by omega) hg
  have hlsn : ∀ l ∈ ls, l ≠ [] := by rw [hls]; exact linesF_ne
  have hlget : ∀ (j : Nat) (r : List (Option Int)), rs[j]? = some r → ls[j]? = some (lineOf j r) ∧ atI (ls.map D.str) (j : Int) = some (.str (lineOf j r)) := fun j r e => by
    have e2 : ls[j]? = some (lineOf j r) := by rw [hls, linesF_get, e, Nat.zero_add]; rfl
    exact ⟨e2, atI_nat (by rw [List.getElem?_map, e2]; rfl)⟩
  rw [← hls]
  walk_at "st"
  refine r_kR1 (by omega) (by omega) ?_
  rw [Int.toNat_natCast]
  -- every line as told
  refine for_inv (fun xs δ M' => ∃ (s6 : Option D), (∀ x ∈ xs, ∃ j : Nat, j < rs.length ∧ x = .int (j : Int)) ∧ M' = mset M p o ∧ δ = [some (.src ns), some (.ref p), some (.int (many : Int)), some (.int (rs.length : Int)), some (.lst (rowsD rs)), some (.lst (ls.map D.str)), s6, none, none, none, none, none, none, none]) (fun _ _ _ _ => trivial) ?_ ?_ _ _ _ ⟨none, fun x hx => rng_mem hx, rfl, rfl⟩
  · rintro x xs δ M' N ⟨s6, hx, rfl, rfl⟩ hN
    obtain ⟨j, hj, rfl⟩ := hx x (List.mem_cons_self ..)
    obtain ⟨r, e, hr, ha⟩ := hget j hj
    have hla := (hlget j r e).2
    have hll := line_len (at' := j) (row := r) (by omega) (by rw [hr.len]; exact hm9) hr.gd
    walk_at "st"
    refine r_if ?_
    walk_at "st"
    refine r_idxL ha ?_
    walk_at "st"
    refine ⟨j, r, rfl, by omega, by rw [hr.len]; exact hm9, hr.gd, ?_⟩
    walk_at "st"
    refine r_idxL hla ?_
    walk_at "st"
    refine ⟨sz1000 (by show _ + 1 ≤ _; omega), ?_⟩
    walk_at "st"
    refine ⟨fun z => by simp at z, fun _ => ?_⟩
    walk_at "st"
    exact hN _ _ ⟨_, fun x hx' => hx x (List.mem_cons_of_mem _ hx'), rfl, rfl⟩
  rintro δ M' ⟨s6, _, rfl, rfl⟩
  -- the text
  have newl : ∀ (L : List (List Nat)) (δw : DEnv) (M' : Mu) (Q' : List D → Mu → Prop), (∀ l ∈ L, l.length ≤ 4000) → L.length ≤ 1000 → δw.length = 14 → Q' ((L.map (· ++ [10])).map D.str) M' →
      dLcGo (fun _ => True) (dgN 13) dYes (dOp (dAdd false) (dVar 13) (dC (.str [10]))) δw (L.map D.str) [] M' Q' := by
    intro L δw M' Q' hL hl hδ hQ
    refine lc_map (fun d => match d with
      | .str cs => .str (cs ++ [10])
      | d => d) trivial _ _ (by rw [List.length_map, List.length_nil, Nat.zero_add]; exact sz1000 (by omega)) (fun x hx R hR => ?_) ?_
    · obtain ⟨l, hl', rfl⟩ := List.mem_map.mp hx
      refine r_dgN rfl ?_
      refine r_op ?_
      refine r_var (d := .str l) (by rw [List.getElem?_set_self (by omega)]) ?_
      walk_at "st"
      exact ⟨sz1000 (by have := hL l hl'; show _ + 1 ≤ _; omega), hR⟩
    · rw [List.nil_append, List.map_map]
      rw [List.map_map] at hQ
      exact hQ
  walk_at "st"
  refine newl ls _ _ _ (fun l hl => by have := hlsb l hl; omega) (by omega) rfl ?_
  have tl0 : ∀ L : List (List Nat), (∀ l ∈ L, l.length ≤ 4000) → L.length ≤ 202 → (textOf L).length ≤ 900000 := fun L h1 h2 => by
    have := text_len L h1
    have := Nat.mul_le_mul_left 4001 h2
    omega
  have hT := tl0 ls (fun l hl => by have := hlsb l hl; omega) (by omega)
  have hfl : ∀ L : List (List Nat), (L.map (·.length)).sum = L.flatten.length := fun L => List.length_flatten.symm
  walk_at "st"
  refine r_join rfl (strsOf_map _) ?_ ?_
  · rw [hfl]
    show (textOf ls).length + _ * 0 ≤ _
    omega
  rw [join_nil]
  show (dgN 7 (D.str (textOf ls)) _ _ _)
  have hspl : spl [10] 0 [] (textOf ls) = ls ++ [[]] := by
    have := spl_text ls [] hlsf
    rw [List.append_nil, spl_nil] at this
    exact this
  have htake : ∀ k, ls.take k = linesF 0 (rs.take k) := fun k => by rw [hls, linesF_take]
  have hgt : ∀ k, ∀ r ∈ rs.take k, GoodR many r := fun k r hr => hg r (List.mem_of_mem_take hr)
  have full : ∀ (M' : Mu) (Q' : DK) (E' : DXK), ((∀ p, M' p = none → Q' (.ref p) (mset M' p (.lst (rowsD (rs.take 200))))) ∨ Q' (.lst (rowsD (rs.take 200))) M') → sp_session_from [.str (textOf ls), .int (many : Int)] M' Q' E' := fun M' Q' E' hQ => by
    refine ⟨textOf ls, many, rs.take 200, ls.drop 200, [], rfl, by omega, hm9, ?_, hgt 200, by rw [List.length_take]; omega, ?_, hQ⟩
    · rw [hspl, ← htake, List.take_append_drop]
    · by_cases h : rs.length ≤ 200
      · left
        exact List.drop_of_length_le (by omega)
      · right; left
        rw [List.length_take]; omega
  have hPl : ∀ k, Pl 8 (.lst (rowsD (rs.take k))) := fun k => pl_rows (hgt k) hm9 (by rw [List.length_take]; omega)
  walk_at "st"
  refine full _ _ _ (.inl fun q hqn => ?_)
  have hqp : q ≠ p := fun z => by rw [z, mset_same] at hqn; cases hqn
  have hMq : M q = none := by rw [mset_ne hqp] at hqn; exact hqn
  walk_at "st"
  refine r_if (r_or ?_)
  walk_at "st"
  refine r_isi (tyNm_ref mset_same) (b := true) (by decide +kernel) ?_
  walk_at "st"
  refine ⟨fun z => Bool.noConfusion z, fun _ => ?_⟩
  walk_at "st"
  rw [show (200 : Int) = ((200 : Nat) : Int) from rfl, rows_cut]
  refine same_of _ (.inr ⟨q, _, rfl, rfl, mset_same⟩) (.inl rfl) (hPl 200) ?_
  walk_at "st"
  refine ⟨fun z => Bool.noConfusion z, fun _ => ?_⟩
  walk_at "st"
  refine r_tyR mset_same ?_
  walk_at "st"
  refine r_append mset_same (szlt (by unfold rowsD; rw [List.length_map, List.length_take]; omega)) ?_
  rw [mset_mset]
  generalize (DO.lst (rowsD (rs.take 200) ++ [D.non])) = junk
  -- the text cut
  walk_at "st"
  refine ⟨sz1000 (by omega), ?_⟩
  walk_at "st"
  refine r_kR1 (by split <;> omega) (by split <;> omega) ?_
  refine for_inv (fun xs δ M' => ∃ (s9 s10 : Option D), (∀ x ∈ xs, ∃ j : Nat, j ≤ 240 ∧ x = .int (j : Int)) ∧ M' = mset (mset M p o) q junk ∧ δ = [some (.src ns), some (.ref p), some (.int (many : Int)), some (.int (rs.length : Int)), some (.lst (rowsD rs)), some (.lst (ls.map D.str)), s6, some (.str (textOf ls)), some (.ref q), s9, s10, none, none, none]) (fun _ _ _ _ => trivial) ?_ ?_ _ _ _ ⟨none, none, fun x hx => ?_, rfl, rfl⟩
  rotate_left 2
  · obtain ⟨j, hj, rfl⟩ := rng_mem hx
    exact ⟨j, by split at hj <;> omega, rfl⟩
  · rintro x xs δ M' N ⟨s9, s10, hx, rfl, rfl⟩ hN
    obtain ⟨j, hj, rfl⟩ := hx x (List.mem_cons_self ..)
    walk_at "st"
    refine ⟨sz1000 (by omega), ?_⟩
    rw [cutL_none_nat]
    obtain ⟨k, last, hk, hk2, hk3⟩ := text_cut ls j hlsf
    have hlk : ∀ l ∈ ls.take k, 10 ∉ l := fun l hl => hlsf l (List.mem_of_mem_take hl)
    have hcnt : Txt.count (mkS ((textOf ls).take j)) (mkS [10]) = (k : Int) := by
      have e := count_cnt (mkS ((textOf ls).take j)) 10
      have e2 : cnt 10 ((textOf ls).take j) = (k : Int) := by
        rw [hk2, cnt_append, cnt_none 10 last hk3, cnt_text _ hlk, List.length_take, Nat.min_eq_left hk]
        omega
      exact e.trans e2
    have hk200 : k ≤ 200 := by
      have h1 := text_ge (ls.take k) fun l hl => hlsn l (List.mem_of_mem_take hl)
      have h2 := congrArg List.length hk2
      rw [List.length_append, List.length_take] at h2
      rw [List.length_take, Nat.min_eq_left hk] at h1
      omega
    have hsp : spl [10] 0 [] ((textOf ls).take j) = linesF 0 (rs.take k) ++ [] ++ [last] := by
      rw [hk2, spl_text _ _ hlk, spl_last1 hk3, htake, List.nil_append, List.append_nil]
    walk_at "st"
    refine r_if ?_
    walk_at "st"
    refine ⟨(textOf ls).take j, many, rs.take k, [], last, rfl, by rw [List.length_take]; omega, hm9, hsp, hgt k, by rw [List.length_take]; omega, .inl rfl, .inr ?_⟩
    walk_at "st"
    rw [hcnt, rows_cut]
    refine same_of _ (.inl rfl) (.inl rfl) (hPl k) ?_
    walk_at "st"
    refine ⟨fun z => Bool.noConfusion z, fun _ => ?_⟩
    walk_at "st"
    exact hN _ _ ⟨_, _, fun x hx' => hx x (List.mem_cons_of_mem _ hx'), rfl, rfl⟩
  rintro δ M' ⟨s9, s10, _, rfl, rfl⟩
  -- one line spoilt
  walk_at "st"
  refine ⟨p, _, o, 2 ^ 57 - 1, rfl, get_in hqp, hS.less (by omega), by omega, ?_, fun r0 o1 hr0 hr1 hS1 => ?_⟩
  · have : (2 : Int) ^ 10 < 2 ^ 1000 := by decide +kernel
    omega
  rw [upd_in hqp]
  obtain ⟨j, rfl⟩ := Int.eq_ofNat_of_zero_le hr0
  have hj : j < rs.length := by omega
  obtain ⟨r, er, hr, ha⟩ := hget j hj
  have hla := (hlget j r er)
  walk_at "st"
  refine r_idxL hla.2 ?_
  walk_at "st"
  refine ⟨p, o1, 2 ^ 57 - 3, j, many, r, rfl, get_in hqp, hS1.less (by decide), hr, hm10, hm9, by omega, fun bad o2 jj hjj hbad hS2 => ?_⟩
  rw [upd_in hqp]
  walk_at "st"
  rw [cutL_none_nat, ← List.map_take]
  refine ⟨sz1000 (by simp; omega), ?_⟩
  walk_at "st"
  rw [show (j : Int) + 1 = ((j + 1 : Nat) : Int) by omega, cutL_nat_none, ← List.map_drop]
  refine ⟨sz1000 (by simp; omega), ?_⟩
  have hL : ∃ L, L = ls.take j ++ [bad] ++ ls.drop (j + 1) := ⟨_, rfl⟩
  obtain ⟨L, hL⟩ := hL
  have hLm : (ls.take j).map D.str ++ [D.str bad] ++ (ls.drop (j + 1)).map D.str = L.map D.str := by rw [hL, List.map_append, List.map_append]; rfl
  rw [hLm]
  have hLl : L.length = rs.length := by rw [hL]; simp; omega
  have hLb : ∀ l ∈ L, l.length ≤ 4000 := by
    intro l hl
    rw [hL] at hl
    rcases List.mem_append.mp hl with hl | hl
    · rcases List.mem_append.mp hl with hl | hl
      · have := hlsb l (List.mem_of_mem_take hl); omega
      · rw [List.mem_singleton.mp hl]; exact hbad.2.1
    · have := hlsb l (List.mem_of_mem_drop hl); omega
  have hLf : ∀ l ∈ L, 10 ∉ l := by
    intro l hl
    rw [hL] at hl
    rcases List.mem_append.mp hl with hl | hl
    · rcases List.mem_append.mp hl with hl | hl
      · exact hlsf l (List.mem_of_mem_take hl)
      · rw [List.mem_singleton.mp hl]; exact hbad.1
    · exact hlsf l (List.mem_of_mem_drop hl)
  walk_at "st"
  refine newl L _ _ _ hLb (by omega) rfl ?_
  walk_at "st"
  have hTL := tl0 L hLb (by omega)
  refine r_join rfl (strsOf_map _) ?_ ?_
  · rw [hfl]
    show (textOf L).length + _ * 0 ≤ _
    omega
  rw [join_nil]
  show (dgN 11 (D.str (textOf L)) _ _ _)
  have hsplL : spl [10] 0 [] (textOf L) = L ++ [[]] := by
    have := spl_text L [] hLf
    rw [List.append_nil, spl_nil] at this
    exact this
  walk_at "st"
  refine r_if ?_
  walk_at "st"
  refine ⟨textOf L, many, rs.take (min j 200), L.drop (min j 200), [], rfl, by omega, hm9, ?_, hgt _, by rw [List.length_take]; omega, ?_, .inr ?_⟩
  · rw [hsplL, ← htake]
    have : L.take (min j 200) = ls.take (min j 200) := by
      rw [hL, List.append_assoc, List.take_append_of_le_length (by rw [List.length_take]; omega), List.take_take]
      congr 1
      omega
    rw [← this, List.take_append_drop]
  · by_cases h : j < 200
    · right; right
      refine ⟨bad, ls.drop (j + 1), ?_, hbad.2.1, ?_⟩
      · rw [Nat.min_eq_left (by omega), hL, List.append_assoc, List.drop_append_of_le_length (by rw [List.length_take]; omega), List.drop_of_length_le (by rw [List.length_take]; omega), List.nil_append]
        rfl
      · rw [List.length_take, Nat.min_eq_left (by omega), Nat.min_eq_left (by omega)]
        exact hbad.2.2
    · right; left
      rw [List.length_take]; omega
  walk_at "st"
  have hmin : (if ((200 : Nat) : Int) < (j : Int) then ((200 : Nat) : Int) else (j : Int)) = ((min j 200 : Nat) : Int) := by
    split <;> omega
  rw [hmin, rows_cut]
  refine same_of _ (.inl rfl) (.inl rfl) (hPl _) ?_
  walk_at "st"
  refine ⟨fun z => Bool.noConfusion z, fun _ => ?_⟩
  walk_at "st"
  refine ⟨by decide, ?_⟩
  have hother : (1 : Int) + (many : Int).fmod 3 = ((1 + many % 3 : Nat) : Int) := by
    rw [fmod_pos (by decide)]; omega
  walk_at "st"
  rw [hother]
  have hno : 1 + many % 3 ≠ many := by omega
  have hne : ∃ l0 lt, ls = l0 :: lt := by
    cases h : ls with
    | nil => rw [h] at hlsl; simp at hlsl; omega
    | cons a b => exact ⟨a, b, rfl⟩
  have fin : Wq Q (.bl true) (mset (mset M p o2) q junk) := hq' _ (Sub.trans (sub_new hp) (sub_new (by rw [mset_ne hqp]; exact hMq)))
  refine r_andV ?_
  walk_at "st"
  refine ⟨textOf ls, 1 + many % 3, [], ls, [], rfl, by omega, by omega, ?_, by simp, by simp, ?_, .inr ?_⟩
  · rw [hspl]; rfl
  · right; right
    obtain ⟨l0, lt, e⟩ := hne
    have hr0 := hget 0 (by omega)
    obtain ⟨r0, e0, hg0, _⟩ := hr0
    have hl0 := (hlget 0 r0 e0).1
    rw [e] at hl0
    have e1 : l0 = lineOf 0 r0 := by simpa using hl0
    refine ⟨l0, lt, e, ?_, ?_⟩
    · have := hlsb l0 (by rw [e]; simp); omega
    · rw [e1]; exact other_width hg0 hno
  walk_at "st"
  refine same_of (.lst []) (.inl rfl) (.inl rfl) ⟨by decide, fun d hd => by cases hd⟩ ?_
  walk_at "st"
  refine ⟨fun _ => ?_, fun z => Bool.noConfusion z⟩
  walk_at "st"
  refine full _ _ _ (.inr ?_)
  walk_at "st"
  rw [rows_cut]
  refine same_of _ (.inl rfl) (.inl rfl) (hPl _) ?_
  exact fin
end K06

set_option maxHeartbeats 0
namespace K06
open PySem PySem.Spec PyProof.Rows L2 TL DL
def top (i : Nat) : Stmt := PySem.Challenge.pw_readapart_k06_sessions_cut_anywhere.main.body.getD i (.Pass ⟨0, 0, 0, 0⟩)
abbrev s_all_figures : Stmt := top 3
abbrev N_all_figures : List Str := ["word", "sign"]
theorem sc_all_figures : FnScope N_all_figures ["word"] (defScope s_all_figures) := ⟨rfl, rfl, rfl, by decide +kernel, rfl, by decide +kernel, by decide +kernel⟩
abbrev s_plain_figures : Stmt := top 4
abbrev N_plain_figures : List Str := ["word"]
theorem sc_plain_figures : FnScope N_plain_figures ["word"] (defScope s_plain_figures) := ⟨rfl, rfl, rfl, by decide +kernel, rfl, by decide +kernel, by decide +kernel⟩
abbrev s_long_of : Stmt := top 6
abbrev N_long_of : List Str := ["word", "bare", "found", "size", "head", "at"]
theorem sc_long_of : FnScope N_long_of ["word"] (defScope s_long_of) := ⟨rfl, rfl, rfl, by decide +kernel, rfl, by decide +kernel, by decide +kernel⟩
abbrev s_long_word : Stmt := top 7
abbrev N_long_word : List Str := ["number", "size", "left", "pieces", "piece"]
theorem sc_long_word : FnScope N_long_word ["number"] (defScope s_long_word) := ⟨rfl, rfl, rfl, by decide +kernel, rfl, by decide +kernel, by decide +kernel⟩
abbrev s_session_line : Stmt := top 9
abbrev N_session_line : List Str := ["round_number", "row", "words", "one"]
theorem sc_session_line : FnScope N_session_line ["round_number", "row"] (defScope s_session_line) := ⟨rfl, rfl, rfl, by decide +kernel, rfl, by decide +kernel, by decide +kernel⟩
abbrev s_row_of : Stmt := top 10
abbrev N_row_of : List Str := ["line", "round_number", "many", "words", "found", "word", "one"]
theorem sc_row_of : FnScope N_row_of ["line", "round_number", "many"] (defScope s_row_of) := ⟨rfl, rfl, rfl, by decide +kernel, rfl, by decide +kernel, by decide +kernel⟩
abbrev s_session_from : Stmt := top 11
abbrev N_session_from : List Str := ["text", "many", "found", "line", "row"]
theorem sc_session_from : FnScope N_session_from ["text", "many"] (defScope s_session_from) := ⟨rfl, rfl, rfl, by decide +kernel, rfl, by decide +kernel, by decide +kernel⟩
abbrev s_law_source : Stmt := top 13
abbrev N_law_source : List Str := ["script", "at", "cell", "size", "small", "one"]
theorem sc_law_source : FnScope N_law_source ["script", "at"] (defScope s_law_source) := ⟨rfl, rfl, rfl, by decide +kernel, rfl, by decide +kernel, by decide +kernel⟩
abbrev s_law_pick : Stmt := top 14
abbrev N_law_pick : List Str := ["source", "many", "found"]
theorem sc_law_pick : FnScope N_law_pick ["source", "many"] (defScope s_law_pick) := ⟨rfl, rfl, rfl, by decide +kernel, rfl, by decide +kernel, by decide +kernel⟩
abbrev s_law_one : Stmt := top 15
abbrev N_law_one : List Str := ["source", "things"]
theorem sc_law_one : FnScope N_law_one ["source", "things"] (defScope s_law_one) := ⟨rfl, rfl, rfl, by decide +kernel, rfl, by decide +kernel, by decide +kernel⟩
abbrev s_law_same : Stmt := top 16
abbrev N_law_same : List Str := ["answer", "due", "at"]
theorem sc_law_same : FnScope N_law_same ["answer", "due"] (defScope s_law_same) := ⟨rfl, rfl, rfl, by decide +kernel, rfl, by decide +kernel, by decide +kernel⟩
abbrev s_law_k06_line : Stmt := top 17
abbrev N_law_k06_line : List Str := ["at", "row", "one"]
theorem sc_law_k06_line : FnScope N_law_k06_line ["at", "row"] (defScope s_law_k06_line) := ⟨rfl, rfl, rfl, by decide +kernel, rfl, by decide +kernel, by decide +kernel⟩
abbrev s_law_k06_row : Stmt := top 18
abbrev N_law_k06_row : List Str := ["source", "many", "found", "at", "size"]
theorem sc_law_k06_row : FnScope N_law_k06_row ["source", "many"] (defScope s_law_k06_row) := ⟨rfl, rfl, rfl, by decide +kernel, rfl, by decide +kernel, by decide +kernel⟩
abbrev s_law_k06_spoilt : Stmt := top 19
abbrev N_law_k06_spoilt : List Str := ["source", "line", "at", "words", "way"]
theorem sc_law_k06_spoilt : FnScope N_law_k06_spoilt ["source", "line", "at"] (defScope s_law_k06_spoilt) := ⟨rfl, rfl, rfl, by decide +kernel, rfl, by decide +kernel, by decide +kernel⟩
abbrev s_law : Stmt := top 20
abbrev N_law : List Str := ["script", "source", "many", "rounds", "rows", "lines", "at", "text", "told", "cut", "part", "bad", "other", "line"]
theorem sc_law : FnScope N_law ["script"] (defScope s_law) := ⟨rfl, rfl, rfl, by decide +kernel, rfl, by decide +kernel, by decide +kernel⟩
section
variable {P : Program} {w : World} {K : PySem.W.Frag} {mg : Str → Option Value} {base : Heap} {k : Nat} {f : Addr} {cdv : Value} {A : Around} {outer : List Env} {s : Shared} {H : Hp} {E : XK}
theorem body_all_figures (c_FIGURES : GC K mg "FIGURES" g_FIGURES) (hr : Room k (A.deeper (envOfC "all_figures" (defScope s_all_figures) s.heap.objs.size f cdv))) :
    DSs (cxOf CX0 P w K mg base N_all_figures "all_figures" (defScope s_all_figures) f cdv A outer s H E).nox (defBody s_all_figures) t_all_figures :=
  (dss_cons (ds_if (dt_eq hr.units (de_var 0) (de_str [])) (dss_one (ds_ret de_bl)) dss_nil) (dss_cons (ds_for (vs := [1]) PassesOwn.never rfl (di_seq (de_var 0)) (pg_name (i := 1) sc_all_figures.nd rfl (by first | exact Or.inl rfl | exact Or.inr rfl)) (relg_name 1) (dss_one (ds_if (dt_nin (de_var 1) (de_gc c_FIGURES)) (dss_one (ds_ret de_bl)) dss_nil))) (dss_one (ds_ret de_bl))))
theorem body_plain_figures (C_all_figures : Cal P w K mg base k "all_figures" ["word"] sp_all_figures) (hr : Room k (A.deeper (envOfC "plain_figures" (defScope s_plain_figures) s.heap.objs.size f cdv))) :
    DSs (cxOf CX0 P w K mg base N_plain_figures "plain_figures" (defScope s_plain_figures) f cdv A outer s H E).nox (defBody s_plain_figures) t_plain_figures :=
  (dss_one (ds_ret (de_and (de_cal C_all_figures hr (da_cons (de_var 0) da_nil)) (de_one (de_or (de_eq hr.units (de_var 0) (de_str [48])) (de_one (de_ne hr.units (de_idx (de_var 0) de_int) (de_str [48]))))))))
theorem body_long_of (C_plain_figures : Cal P w K mg base k "plain_figures" ["word"] sp_plain_figures) (b_len : mg "len" = none) (b_int : mg "int" = none) (hr : Room k (A.deeper (envOfC "long_of" (defScope s_long_of) s.heap.objs.size f cdv))) :
    DSs (cxOf CX0 P w K mg base N_long_of "long_of" (defScope s_long_of) f cdv A outer s H E).nox (defBody s_long_of) t_long_of :=
  (dss_cons (ds_set (i := 1) sc_long_of.nd (de_ifx (dt_eq hr.units (de_slice false (de_var 0) do_none (do_some de_int)) (de_str [45])) (de_slice false (de_var 0) (do_some de_int) do_none) (de_var 0))) (dss_cons (ds_if (PW.pt (dw_or (dt_not (dt_tru (de_cal C_plain_figures hr (da_cons (de_var 1) da_nil)))) (dw_or1 (dt_eq hr.units (de_var 0) (de_str [45, 48]))))) (dss_one (ds_ret de_non)) dss_nil) (dss_cons (ds_set (i := 2) sc_long_of.nd de_int) (dss_cons (ds_if (dt_le (de_callB call_len rel_len (by rfl) b_len (by decide +kernel) (da_cons (de_var 1) da_nil)) de_int) (dss_one (ds_set (i := 2) sc_long_of.nd (de_callTy call_intAll rel_int (by rfl) b_int (by decide +kernel) (da_cons (de_var 1) da_nil)))) (dss_cons ds_never (dss_cons ds_never (dss_cons ds_never (dss_one ds_never))))) (dss_one (ds_ret (de_ifx (dt_eq hr.units (de_slice false (de_var 0) do_none (do_some de_int)) (de_str [45])) (de_neg (de_var 2)) (de_var 2))))))))
theorem body_long_word (b_str : mg "str" = none) (hr : Room k (A.deeper (envOfC "long_word" (defScope s_long_word) s.heap.objs.size f cdv))) :
    DSs (cxOf CX0 P w K mg base N_long_word "long_word" (defScope s_long_word) f cdv A outer s H E).nox (defBody s_long_word) t_long_word :=
  (dss_cons (ds_if (dt_lt (de_bits (de_var 0)) de_int) (dss_one (ds_ret (de_callTy call_str_int rel_str (by rfl) b_str (by decide +kernel) (da_cons (de_var 0) da_nil)))) dss_nil) (dss_cons ds_never (dss_cons ds_never (dss_cons ds_never (dss_cons ds_never (dss_cons ds_never (dss_cons ds_never (dss_one ds_never))))))))
theorem body_session_line (C_long_word : Cal P w K mg base k "long_word" ["number"] sp_long_word) (b_str : mg "str" = none) (hr : Room k (A.deeper (envOfC "session_line" (defScope s_session_line) s.heap.objs.size f cdv))) :
    DSs (cxOf CX0 P w K mg base N_session_line "session_line" (defScope s_session_line) f cdv A outer s H E).nox (defBody s_session_line) t_session_line :=
  (dss_cons (ds_setLc (i := 2) (own := [("one", 3)]) false rfl sc_session_line.nd (di_seq (de_var 1)) (blkOk_by (own := [("one", 3)]) (N := N_session_line) (sc := defScope s_session_line) (by decide +kernel)) (relg_name 3) (fun _ _ _ _ _ => (pg_name (i := 3) sc_session_line.nd rfl (by first | exact Or.inl rfl | exact Or.inr rfl))) (fun _ _ _ _ _ => dps_nil) (fun _ _ _ _ _ => (de_ifx (dt_isN (de_var 3) de_non) (de_str [45]) (de_cal C_long_word hr (da_cons (de_var 3) da_nil)))) (sw_true rfl rfl rfl (by decide +kernel))) (dss_one (ds_ret (de_add false (de_bm tyV_str rel_join PySem.F.plainAttrs_str PySem.F.slot_str_join PySem.F.type_str_join mt_join (de_str [32]) (da_cons (de_add false (de_lst false (da_cons (de_str [114, 111, 117, 110, 100]) (da_cons (de_callTy call_str_int rel_str (by rfl) b_str (by decide +kernel) (da_cons (de_var 0) da_nil)) da_nil))) (de_var 2)) da_nil)) (de_str [10])))))
theorem body_row_of (C_long_of : Cal P w K mg base k "long_of" ["word"] sp_long_of) (b_len : mg "len" = none) (b_str : mg "str" = none) (b_tuple : mg "tuple" = none) (hr : Room k (A.deeper (envOfC "row_of" (defScope s_row_of) s.heap.objs.size f cdv))) :
    DSs (cxOf CX0 P w K mg base N_row_of "row_of" (defScope s_row_of) f cdv A outer s H E).nox (defBody s_row_of) t_row_of :=
  (dss_cons (ds_set (i := 3) sc_row_of.nd (de_bm tyV_str rel_split PySem.F.plainAttrs_str PySem.F.slot_str_split PySem.F.type_str_split mt_split (de_var 0) (da_cons (de_str [32]) da_nil))) (dss_cons (ds_if (PW.pt (dw_or (dt_ne hr.units (de_callB call_len rel_len (by rfl) b_len (by decide +kernel) (da_cons (de_var 3) da_nil)) (de_add false (de_var 2) de_int)) (dw_or (dt_ne hr.units (de_idx (de_var 3) de_int) (de_str [114, 111, 117, 110, 100])) (dw_or1 (dt_ne hr.units (de_idx (de_var 3) de_int) (de_callTy call_str_int rel_str (by rfl) b_str (by decide +kernel) (da_cons (de_var 1) da_nil))))))) (dss_one (ds_ret de_non)) dss_nil) (dss_cons (ds_set (i := 4) sc_row_of.nd (de_lst true da_nil)) (dss_cons (ds_for (vs := [5]) PassesOwn.never rfl (di_seq (de_slice false (de_var 3) (do_some de_int) do_none)) (pg_name (i := 5) sc_row_of.nd rfl (by first | exact Or.inl rfl | exact Or.inr rfl)) (relg_name 5) (dss_cons (ds_set (i := 6) sc_row_of.nd (de_cal C_long_of hr (da_cons (de_var 5) da_nil))) (dss_cons (ds_if (PW.pt (dw_and (dt_isN (de_var 6) de_non) (dw_and1 (dt_ne hr.units (de_var 5) (de_str [45]))))) (dss_one (ds_ret de_non)) dss_nil) (dss_one (ds_expr (de_bm tyV_list rel_append PySem.F.plainAttrs_list PySem.F.slot_list_append PySem.F.type_list_append mt_append (de_var 4) (da_cons (de_var 6) da_nil))))))) (dss_one (ds_ret (de_callTy call_tuple_of rel_tupOf (by rfl) b_tuple (by decide +kernel) (da_cons (de_var 4) da_nil))))))))
theorem body_session_from (C_row_of : Cal P w K mg base k "row_of" ["line", "round_number", "many"] sp_row_of) (b_len : mg "len" = none) (c_LIMITS_rounds : GD K mg w "LIMITS" "rounds" g_LIMITS_rounds) (hr : Room k (A.deeper (envOfC "session_from" (defScope s_session_from) s.heap.objs.size f cdv))) :
    DSs (cxOf CX0 P w K mg base N_session_from "session_from" (defScope s_session_from) f cdv A outer s H E).nox (defBody s_session_from) t_session_from :=
  (dss_cons (ds_set (i := 2) sc_session_from.nd (de_lst true da_nil)) (dss_cons (ds_for (vs := [3]) PassesOwn.never rfl (di_seq (de_slice false (de_bm tyV_str rel_split PySem.F.plainAttrs_str PySem.F.slot_str_split PySem.F.type_str_split mt_split (de_var 0) (da_cons (de_str [10]) da_nil)) do_none (do_some (de_neg de_int)))) (pg_name (i := 3) sc_session_from.nd rfl (by first | exact Or.inl rfl | exact Or.inr rfl)) (relg_name 3) (dss_cons (ds_set (i := 4) sc_session_from.nd (de_ifx (dt_lt (de_callB call_len rel_len (by rfl) b_len (by decide +kernel) (da_cons (de_var 2) da_nil)) (de_gd c_LIMITS_rounds)) (de_cal C_row_of hr (da_cons (de_var 3) (da_cons (de_callB call_len rel_len (by rfl) b_len (by decide +kernel) (da_cons (de_var 2) da_nil)) (da_cons (de_var 1) da_nil)))) de_non)) (dss_cons (ds_if (dt_isN (de_var 4) de_non) (dss_one (ds_ret (de_var 2))) dss_nil) (dss_one (ds_expr (de_bm tyV_list rel_append PySem.F.plainAttrs_list PySem.F.slot_list_append PySem.F.type_list_append mt_append (de_var 2) (da_cons (de_var 4) da_nil))))))) (dss_one (ds_ret (de_var 2)))))
theorem body_law_source (b_len : mg "len" = none) (b_int : mg "int" = none) (b_sum : mg "sum" = none) (b_abs : mg "abs" = none) (hr : Room k (A.deeper (envOfC "_law_source" (defScope s_law_source) s.heap.objs.size f cdv))) :
    DSs (cxOf CX0 P w K mg base N_law_source "_law_source" (defScope s_law_source) f cdv A outer s H E).nox (defBody s_law_source) t_law_source :=
  (dss_cons (ds_set (i := 2) sc_law_source.nd (de_ifx (dt_lt (de_var 1) (de_callB call_len rel_len (by rfl) b_len (by decide +kernel) (da_cons (de_var 0) da_nil))) (de_callTy call_intAll rel_int (by rfl) b_int (by decide +kernel) (da_cons (de_idx (de_var 0) (de_var 1)) da_nil)) (de_add false (de_mul false de_int (de_callB (cr_sum rfl) rel_sum (by rfl) b_sum (by decide +kernel) (da_cons (de_lc (own := [("one", 5)]) false rfl sc_law_source.nd (di_seq (de_slice false (de_var 0) do_none (do_some de_int))) (blkOk_by (own := [("one", 5)]) (N := N_law_source) (sc := defScope s_law_source) (by decide +kernel)) (relg_name 5) (fun _ _ _ _ _ => (pg_name (i := 5) sc_law_source.nd rfl (by first | exact Or.inl rfl | exact Or.inr rfl))) (fun _ _ _ _ _ => dps_nil) (fun _ _ _ _ _ => (de_mod (de_callTy call_intAll rel_int (by rfl) b_int (by decide +kernel) (da_cons (de_var 5) da_nil)) de_int))) da_nil))) de_int))) (dss_cons (ds_set (i := 3) sc_law_source.nd (de_mod (de_callB call_abs rel_abs (by rfl) b_abs (by decide +kernel) (da_cons (de_var 2) da_nil)) (de_mul false (de_pow de_int de_int) (de_pow de_int de_int)))) (dss_cons (ds_set (i := 4) sc_law_source.nd (de_mod (de_callTy call_intAll rel_int (by rfl) b_int (by decide +kernel) (da_cons (de_add false (de_add false (de_add false (de_mul false de_int (de_var 3)) (de_ifx (dt_lt (de_var 2) de_int) de_int de_int)) (de_mul false (de_var 1) de_int)) de_int) da_nil)) de_int)) (dss_one (ds_ret (de_lst true (da_cons (de_ifx (dt_ge (de_var 3) (de_pow de_int de_int)) (de_var 3) de_int) (da_cons (de_mod (de_callTy call_intAll rel_int (by rfl) b_int (by decide +kernel) (da_cons (de_mul false (de_add false (de_var 4) de_int) (de_add false (de_var 4) de_int)) da_nil)) de_int) (da_cons (de_var 1) da_nil)))))))))
theorem body_law_pick (b_int : mg "int" = none) (hr : Room k (A.deeper (envOfC "_law_pick" (defScope s_law_pick) s.heap.objs.size f cdv))) :
    DSs (cxOf CX0 P w K mg base N_law_pick "_law_pick" (defScope s_law_pick) f cdv A outer s H E).nox (defBody s_law_pick) t_law_pick :=
  (dss_cons (ds_if (dt_gt (de_idx (de_var 0) de_int) de_int) (dss_cons (ds_set (i := 2) sc_law_pick.nd (de_mod (de_callTy call_intAll rel_int (by rfl) b_int (by decide +kernel) (da_cons (de_idx (de_var 0) de_int) da_nil)) (de_var 1))) (dss_cons (ds_setIx (de_var 0) de_int (de_fdiv (de_idx (de_var 0) de_int) (de_var 1))) (dss_one (ds_ret (de_var 2))))) dss_nil) (dss_cons (ds_augIx pip_add rel_iadd (de_var 0) de_int de_int) (dss_cons (ds_setIx (de_var 0) de_int (de_mod (de_callTy call_intAll rel_int (by rfl) b_int (by decide +kernel) (da_cons (de_add false (de_mul false (de_idx (de_var 0) de_int) de_int) (de_mul false (de_idx (de_var 0) de_int) de_int)) da_nil)) de_int)) (dss_one (ds_ret (de_mod (de_fdiv (de_mod (de_callTy call_intAll rel_int (by rfl) b_int (by decide +kernel) (da_cons (de_add false (de_mul false (de_idx (de_var 0) de_int) de_int) (de_mul false (de_idx (de_var 0) de_int) de_int)) da_nil)) de_int) de_int) (de_var 1)))))))
theorem body_law_one (C_law_pick : Cal P w K mg base k "_law_pick" ["source", "many"] sp_law_pick) (b_len : mg "len" = none) (hr : Room k (A.deeper (envOfC "_law_one" (defScope s_law_one) s.heap.objs.size f cdv))) :
    DSs (cxOf CX0 P w K mg base N_law_one "_law_one" (defScope s_law_one) f cdv A outer s H E).nox (defBody s_law_one) t_law_one :=
  (dss_one (ds_ret (de_idx (de_var 1) (de_cal C_law_pick hr (da_cons (de_var 0) (da_cons (de_callB call_len rel_len (by rfl) b_len (by decide +kernel) (da_cons (de_var 1) da_nil)) da_nil))))))
theorem body_law_same (n : Nat) (C_law_same : Cal P w K mg base k "_law_same" ["answer", "due"] (spS n)) (b_bool : mg "bool" = none) (b_isinstance : mg "isinstance" = none) (b_int : mg "int" = none) (b_str : mg "str" = none) (b_tuple : mg "tuple" = none) (b_list : mg "list" = none) (b_len : mg "len" = none) (b_range : mg "range" = none) (b_all : mg "all" = none) (hr : Room k (A.deeper (envOfC "_law_same" (defScope s_law_same) s.heap.objs.size f cdv))) :
    DSs (cxOf CX0 P w K mg base N_law_same "_law_same" (defScope s_law_same) f cdv A outer s H E).nox (defBody s_law_same) (t_law_same n) :=
  (dss_cons (ds_if (PW.pt (dw_or (dt_isN (de_var 1) de_non) (dw_or1 (dt_isN (de_var 0) de_non)))) (dss_one (ds_ret (de_and (de_isN (de_var 1) de_non) (de_one (de_isN (de_var 0) de_non))))) dss_nil) (dss_cons (ds_if (PW.pt (dw_or (dt_tru (de_callB call_isi rel_isi (by rfl) b_isinstance (by decide +kernel) (da_cons (de_var 1) (da_cons (de_ty "bool" (by rfl) b_bool (by decide +kernel)) da_nil)))) (dw_or1 (dt_tru (de_callB call_isi rel_isi (by rfl) b_isinstance (by decide +kernel) (da_cons (de_var 0) (da_cons (de_ty "bool" (by rfl) b_bool (by decide +kernel)) da_nil))))))) (dss_one (ds_ret (de_and (de_callB call_isi rel_isi (by rfl) b_isinstance (by decide +kernel) (da_cons (de_var 1) (da_cons (de_ty "bool" (by rfl) b_bool (by decide +kernel)) da_nil))) (de_and (de_callB call_isi rel_isi (by rfl) b_isinstance (by decide +kernel) (da_cons (de_var 0) (da_cons (de_ty "bool" (by rfl) b_bool (by decide +kernel)) da_nil))) (de_one (de_eq hr.units (de_var 0) (de_var 1))))))) dss_nil) (dss_cons (ds_if (dt_tru (de_callB call_isi rel_isi (by rfl) b_isinstance (by decide +kernel) (da_cons (de_var 1) (da_cons (de_ty "int" (by rfl) b_int (by decide +kernel)) da_nil)))) (dss_one (ds_ret (de_and (de_callB call_isi rel_isi (by rfl) b_isinstance (by decide +kernel) (da_cons (de_var 0) (da_cons (de_ty "int" (by rfl) b_int (by decide +kernel)) da_nil))) (de_one (de_eq hr.units (de_var 0) (de_var 1)))))) dss_nil) (dss_cons (ds_if (dt_tru (de_callB call_isi rel_isi (by rfl) b_isinstance (by decide +kernel) (da_cons (de_var 1) (da_cons (de_ty "str" (by rfl) b_str (by decide +kernel)) da_nil)))) (dss_one (ds_ret (de_and (de_callB call_isi rel_isi (by rfl) b_isinstance (by decide +kernel) (da_cons (de_var 0) (da_cons (de_ty "str" (by rfl) b_str (by decide +kernel)) da_nil))) (de_one (de_eq hr.units (de_var 0) (de_var 1)))))) dss_nil) (dss_cons (ds_if (PW.pt (dw_and (dt_tru (de_callB call_isi rel_isi (by rfl) b_isinstance (by decide +kernel) (da_cons (de_var 1) (da_cons (de_ty "tuple" (by rfl) b_tuple (by decide +kernel)) da_nil)))) (dw_and1 (dt_not (dt_tru (de_callB call_isi rel_isi (by rfl) b_isinstance (by decide +kernel) (da_cons (de_var 0) (da_cons (de_ty "tuple" (by rfl) b_tuple (by decide +kernel)) da_nil)))))))) (dss_one (ds_ret de_bl)) dss_nil) (dss_cons (ds_if (PW.pt (dw_and (dt_tru (de_callB call_isi rel_isi (by rfl) b_isinstance (by decide +kernel) (da_cons (de_var 1) (da_cons (de_ty "list" (by rfl) b_list (by decide +kernel)) da_nil)))) (dw_and1 (dt_not (dt_tru (de_callB call_isi rel_isi (by rfl) b_isinstance (by decide +kernel) (da_cons (de_var 0) (da_cons (de_ty "list" (by rfl) b_list (by decide +kernel)) da_nil)))))))) (dss_one (ds_ret de_bl)) dss_nil) (dss_cons (ds_if (dt_ne hr.units (de_callB call_len rel_len (by rfl) b_len (by decide +kernel) (da_cons (de_var 0) da_nil)) (de_callB call_len rel_len (by rfl) b_len (by decide +kernel) (da_cons (de_var 1) da_nil))) (dss_one (ds_ret de_bl)) dss_nil) (dss_one (ds_ret (de_callB (cr_all rfl) rel_all (by rfl) b_all (by decide +kernel) (da_cons (de_lc (own := [("at", 2)]) false rfl sc_law_same.nd (di_r1 (by rfl) b_range (da_cons (de_callB call_len rel_len (by rfl) b_len (by decide +kernel) (da_cons (de_var 1) da_nil)) da_nil)) (blkOk_by (own := [("at", 2)]) (N := N_law_same) (sc := defScope s_law_same) (by decide +kernel)) (relg_name 2) (fun _ _ _ _ _ => (pg_name (i := 2) sc_law_same.nd rfl (by first | exact Or.inl rfl | exact Or.inr rfl))) (fun _ _ _ _ _ => dps_nil) (fun _ _ _ _ _ => (de_cal C_law_same hr (da_cons (de_idx (de_var 0) (de_var 2)) (da_cons (de_idx (de_var 1) (de_var 2)) da_nil))))) da_nil)))))))))))
theorem body_law_k06_line (b_str : mg "str" = none) (hr : Room k (A.deeper (envOfC "_law_k06_line" (defScope s_law_k06_line) s.heap.objs.size f cdv))) :
    DSs (cxOf CX0 P w K mg base N_law_k06_line "_law_k06_line" (defScope s_law_k06_line) f cdv A outer s H E).nox (defBody s_law_k06_line) t_law_k06_line :=
  (dss_one (ds_ret (de_add false (de_add false (de_str [114, 111, 117, 110, 100, 32]) (de_callTy call_str_int rel_str (by rfl) b_str (by decide +kernel) (da_cons (de_var 0) da_nil))) (de_bm tyV_str rel_join PySem.F.plainAttrs_str PySem.F.slot_str_join PySem.F.type_str_join mt_join (de_str []) (da_cons (de_lc (own := [("one", 2)]) false rfl sc_law_k06_line.nd (di_seq (de_var 1)) (blkOk_by (own := [("one", 2)]) (N := N_law_k06_line) (sc := defScope s_law_k06_line) (by decide +kernel)) (relg_name 2) (fun _ _ _ _ _ => (pg_name (i := 2) sc_law_k06_line.nd rfl (by first | exact Or.inl rfl | exact Or.inr rfl))) (fun _ _ _ _ _ => dps_nil) (fun _ _ _ _ _ => (de_ifx (dt_isN (de_var 2) de_non) (de_str [32, 45]) (de_add false (de_str [32]) (de_callTy call_str_int rel_str (by rfl) b_str (by decide +kernel) (da_cons (de_var 2) da_nil)))))) da_nil)))))
theorem body_law_k06_row (C_law_pick : Cal P w K mg base k "_law_pick" ["source", "many"] sp_law_pick) (b_range : mg "range" = none) (b_tuple : mg "tuple" = none) (hr : Room k (A.deeper (envOfC "_law_k06_row" (defScope s_law_k06_row) s.heap.objs.size f cdv))) :
    DSs (cxOf CX0 P w K mg base N_law_k06_row "_law_k06_row" (defScope s_law_k06_row) f cdv A outer s H E).nox (defBody s_law_k06_row) t_law_k06_row :=
  (dss_cons (ds_set (i := 2) sc_law_k06_row.nd (de_lst true da_nil)) (dss_cons (ds_for (vs := [3]) PassesOwn.never rfl (di_r1 (by rfl) b_range (da_cons (de_var 1) da_nil)) (pg_name (i := 3) sc_law_k06_row.nd rfl (by first | exact Or.inl rfl | exact Or.inr rfl)) (relg_name 3) (dss_cons (ds_set (i := 4) sc_law_k06_row.nd (de_ifx (dt_eq hr.units (de_cal C_law_pick hr (da_cons (de_var 0) (da_cons de_int da_nil))) de_int) (de_pow de_int de_int) de_int)) (dss_one (ds_expr (de_bm tyV_list rel_append PySem.F.plainAttrs_list PySem.F.slot_list_append PySem.F.type_list_append mt_append (de_var 2) (da_cons (de_ifx (dt_eq hr.units (de_cal C_law_pick hr (da_cons (de_var 0) (da_cons de_int da_nil))) de_int) de_non (de_sub (de_cal C_law_pick hr (da_cons (de_var 0) (da_cons (de_add false (de_mul false de_int (de_var 4)) de_int) da_nil))) (de_var 4))) da_nil)))))) (dss_one (ds_ret (de_callTy call_tuple_of rel_tupOf (by rfl) b_tuple (by decide +kernel) (da_cons (de_var 2) da_nil))))))
theorem body_law_k06_spoilt (C_law_pick : Cal P w K mg base k "_law_pick" ["source", "many"] sp_law_pick) (C_law_one : Cal P w K mg base k "_law_one" ["source", "things"] sp_law_one) (b_str : mg "str" = none) (b_len : mg "len" = none) (hr : Room k (A.deeper (envOfC "_law_k06_spoilt" (defScope s_law_k06_spoilt) s.heap.objs.size f cdv))) :
    DSs (cxOf CX0 P w K mg base N_law_k06_spoilt "_law_k06_spoilt" (defScope s_law_k06_spoilt) f cdv A outer s H E).nox (defBody s_law_k06_spoilt) t_law_k06_spoilt :=
  (dss_cons (ds_set (i := 3) sc_law_k06_spoilt.nd (de_bm tyV_str rel_split PySem.F.plainAttrs_str PySem.F.slot_str_split PySem.F.type_str_split mt_split (de_var 1) (da_cons (de_str [32]) da_nil))) (dss_cons (ds_set (i := 4) sc_law_k06_spoilt.nd (de_cal C_law_pick hr (da_cons (de_var 0) (da_cons de_int da_nil)))) (dss_cons (ds_if (dt_eq hr.units (de_var 4) de_int) (dss_one (ds_ret (de_add false (de_var 1) (de_str [32])))) dss_nil) (dss_cons (ds_if (dt_eq hr.units (de_var 4) de_int) (dss_one (ds_ret (de_add false (de_var 1) (de_str [32, 48])))) dss_nil) (dss_cons (ds_if (dt_eq hr.units (de_var 4) de_int) (dss_one (ds_ret (de_bm tyV_str rel_join PySem.F.plainAttrs_str PySem.F.slot_str_join PySem.F.type_str_join mt_join (de_str [32]) (da_cons (de_slice false (de_var 3) do_none (do_some (de_neg de_int))) da_nil)))) dss_nil) (dss_cons (ds_if (dt_eq hr.units (de_var 4) de_int) (dss_one (ds_ret (de_add false (de_add false (de_str [114, 111, 117, 110, 100, 32]) (de_callTy call_str_int rel_str (by rfl) b_str (by decide +kernel) (da_cons (de_add false (de_var 2) de_int) da_nil))) (de_slice false (de_var 1) (do_some (de_add false de_int (de_callB call_len rel_len (by rfl) b_len (by decide +kernel) (da_cons (de_callTy call_str_int rel_str (by rfl) b_str (by decide +kernel) (da_cons (de_var 2) da_nil)) da_nil)))) do_none)))) dss_nil) (dss_cons (ds_if (dt_eq hr.units (de_var 4) de_int) (dss_one (ds_ret (de_add false (de_slice false (de_var 1) do_none (do_some (de_neg de_int))) (de_cal C_law_one hr (da_cons (de_var 0) (da_cons (de_lst false (da_cons (de_str [97]) (da_cons (de_str [45, 45]) (da_cons (de_str [49, 47, 50]) (da_cons (de_str [43]) da_nil))))) da_nil)))))) dss_nil) (dss_cons (ds_if (dt_eq hr.units (de_var 4) de_int) (dss_one (ds_ret (de_add false (de_str [114, 111, 117, 110, 100, 32, 48]) (de_slice false (de_var 1) (do_some de_int) do_none)))) dss_nil) (dss_cons (ds_if (dt_eq hr.units (de_var 4) de_int) (dss_one (ds_ret (de_bm tyV_str rel_join PySem.F.plainAttrs_str PySem.F.slot_str_join PySem.F.type_str_join mt_join (de_str [32]) (da_cons (de_add false (de_slice false (de_var 3) do_none (do_some (de_neg de_int))) (de_lst false (da_cons (de_cal C_law_one hr (da_cons (de_var 0) (da_cons (de_lst false (da_cons (de_str [45, 48]) (da_cons (de_str [48, 48]) (da_cons (de_str [48, 49]) (da_cons (de_str [45, 48, 49]) (da_cons (de_str []) (da_cons (de_str [49, 32, 50]) da_nil))))))) da_nil))) da_nil))) da_nil)))) dss_nil) (dss_cons (ds_if (dt_eq hr.units (de_var 4) de_int) (dss_one (ds_ret (de_add false (de_str [32]) (de_var 1)))) dss_nil) (dss_cons (ds_ifT hr.units (de_var 4) (dsst_one (dst_ret (det_repl [32] [32, 32] (de_var 1))))) (dss_one (ds_ret (de_cal C_law_one hr (da_cons (de_var 0) (da_cons (de_lst false (da_cons (de_str []) (da_cons (de_str [101, 110, 100]) (da_cons (de_add false (de_str [82, 111, 117, 110, 100]) (de_slice false (de_var 1) (do_some de_int) do_none)) (da_cons (de_str [114, 111, 117, 110, 100]) da_nil))))) da_nil))))))))))))))))
theorem body_law (C_law_source : Cal P w K mg base k "_law_source" ["script", "at"] sp_law_source) (C_law_pick : Cal P w K mg base k "_law_pick" ["source", "many"] sp_law_pick) (C_law_k06_row : Cal P w K mg base k "_law_k06_row" ["source", "many"] sp_law_k06_row) (C_law_k06_line : Cal P w K mg base k "_law_k06_line" ["at", "row"] sp_law_k06_line) (C_session_line : Cal P w K mg base k "session_line" ["round_number", "row"] sp_session_line) (C_session_from : Cal P w K mg base k "session_from" ["text", "many"] sp_session_from) (C_law_same : Cal P w K mg base k "_law_same" ["answer", "due"] sp_law_same) (C_law_k06_spoilt : Cal P w K mg base k "_law_k06_spoilt" ["source", "line", "at"] sp_law_k06_spoilt) (b_range : mg "range" = none) (b_list : mg "list" = none) (b_isinstance : mg "isinstance" = none) (b_len : mg "len" = none) (b_min : mg "min" = none) (hr : Room k (A.deeper (envOfC "law" (defScope s_law) s.heap.objs.size f cdv))) :
    DSs (cxOf CX0 P w K mg base N_law "law" (defScope s_law) f cdv A outer s H E).nox (defBody s_law) t_law :=
  (dss_cons (ds_set (i := 1) sc_law.nd (de_cal C_law_source hr (da_cons (de_var 0) (da_cons de_int da_nil)))) (dss_cons (ds_set (i := 2) sc_law.nd (de_add false de_int (de_cal C_law_pick hr (da_cons (de_var 1) (da_cons de_int da_nil))))) (dss_cons (ds_set (i := 3) sc_law.nd (de_ifx (dt_eq hr.units (de_cal C_law_pick hr (da_cons (de_var 1) (da_cons de_int da_nil))) de_int) (de_add false de_int (de_cal C_law_pick hr (da_cons (de_var 1) (da_cons de_int da_nil)))) (de_add false de_int (de_cal C_law_pick hr (da_cons (de_var 1) (da_cons de_int da_nil)))))) (dss_cons (ds_set (i := 4) sc_law.nd (de_lc (own := [("at", 6)]) false rfl sc_law.nd (di_r1 (by rfl) b_range (da_cons (de_var 3) da_nil)) (blkOk_by (own := [("at", 6)]) (N := N_law) (sc := defScope s_law) (by decide +kernel)) (relg_name 6) (fun _ _ _ _ _ => (pg_name (i := 6) sc_law.nd rfl (by first | exact Or.inl rfl | exact Or.inr rfl))) (fun _ _ _ _ _ => dps_nil) (fun _ _ _ _ _ => (de_cal C_law_k06_row hr (da_cons (de_var 1) (da_cons (de_var 2) da_nil)))))) (dss_cons (ds_setLc (i := 5) (own := [("at", 6)]) false rfl sc_law.nd (di_r1 (by rfl) b_range (da_cons (de_var 3) da_nil)) (blkOk_by (own := [("at", 6)]) (N := N_law) (sc := defScope s_law) (by decide +kernel)) (relg_name 6) (fun _ _ _ _ _ => (pg_name (i := 6) sc_law.nd rfl (by first | exact Or.inl rfl | exact Or.inr rfl))) (fun _ _ _ _ _ => dps_nil) (fun _ _ _ _ _ => (de_cal C_law_k06_line hr (da_cons (de_var 6) (da_cons (de_idx (de_var 4) (de_var 6)) da_nil)))) (sw_true rfl rfl rfl (by decide +kernel))) (dss_cons (ds_for (vs := [6]) PassesOwn.never rfl (di_r1 (by rfl) b_range (da_cons (de_var 3) da_nil)) (pg_name (i := 6) sc_law.nd rfl (by first | exact Or.inl rfl | exact Or.inr rfl)) (relg_name 6) (dss_one (ds_if (dt_ne hr.units (de_cal C_session_line hr (da_cons (de_var 6) (da_cons (de_idx (de_var 4) (de_var 6)) da_nil))) (de_add false (de_idx (de_var 5) (de_var 6)) (de_str [10]))) (dss_one (ds_ret de_bl)) dss_nil))) (dss_cons (ds_set (i := 7) sc_law.nd (de_bm tyV_str rel_join PySem.F.plainAttrs_str PySem.F.slot_str_join PySem.F.type_str_join mt_join (de_str []) (da_cons (de_lc (own := [("line", 13)]) false rfl sc_law.nd (di_seq (de_var 5)) (blkOk_by (own := [("line", 13)]) (N := N_law) (sc := defScope s_law) (by decide +kernel)) (relg_name 13) (fun _ _ _ _ _ => (pg_name (i := 13) sc_law.nd rfl (by first | exact Or.inl rfl | exact Or.inr rfl))) (fun _ _ _ _ _ => dps_nil) (fun _ _ _ _ _ => (de_add false (de_var 13) (de_str [10])))) da_nil))) (dss_cons (ds_set (i := 8) sc_law.nd (de_cal C_session_from hr (da_cons (de_var 7) (da_cons (de_var 2) da_nil)))) (dss_cons (ds_if (PW.pt (dw_or (dt_not (dt_tru (de_callB call_isi rel_isi (by rfl) b_isinstance (by decide +kernel) (da_cons (de_var 8) (da_cons (de_ty "list" (by rfl) b_list (by decide +kernel)) da_nil))))) (dw_or1 (dt_not (dt_tru (de_cal C_law_same hr (da_cons (de_var 8) (da_cons (de_slice false (de_var 4) do_none (do_some de_int)) da_nil)))))))) (dss_one (ds_ret de_bl)) dss_nil) (dss_cons (ds_expr (de_bm tyV_list rel_append PySem.F.plainAttrs_list PySem.F.slot_list_append PySem.F.type_list_append mt_append (de_var 8) (da_cons de_non da_nil))) (dss_cons (ds_for (vs := [9]) PassesOwn.never rfl (di_r1 (by rfl) b_range (da_cons (de_add false (de_callB (call_min2 rfl) rel_min2 (by rfl) b_min (by decide +kernel) (da_cons (de_callB call_len rel_len (by rfl) b_len (by decide +kernel) (da_cons (de_var 7) da_nil)) (da_cons de_int da_nil))) de_int) da_nil)) (pg_name (i := 9) sc_law.nd rfl (by first | exact Or.inl rfl | exact Or.inr rfl)) (relg_name 9) (dss_cons (ds_set (i := 10) sc_law.nd (de_slice false (de_var 7) do_none (do_some (de_var 9)))) (dss_one (ds_if (dt_not (dt_tru (de_cal C_law_same hr (da_cons (de_cal C_session_from hr (da_cons (de_var 10) (da_cons (de_var 2) da_nil))) (da_cons (de_slice false (de_var 4) do_none (do_some (de_bm tyV_str rel_count PySem.F.plainAttrs_str PySem.F.slot_str_count PySem.F.type_str_count mt_count (de_var 10) (da_cons (de_str [10]) da_nil)))) da_nil))))) (dss_one (ds_ret de_bl)) dss_nil)))) (dss_cons (ds_set (i := 6) sc_law.nd (de_cal C_law_pick hr (da_cons (de_var 1) (da_cons (de_var 3) da_nil)))) (dss_cons (ds_set (i := 11) sc_law.nd (de_bm tyV_str rel_join PySem.F.plainAttrs_str PySem.F.slot_str_join PySem.F.type_str_join mt_join (de_str []) (da_cons (de_lc (own := [("line", 13)]) false rfl sc_law.nd (di_seq (de_add false (de_add false (de_slice false (de_var 5) do_none (do_some (de_var 6))) (de_lst false (da_cons (de_cal C_law_k06_spoilt hr (da_cons (de_var 1) (da_cons (de_idx (de_var 5) (de_var 6)) (da_cons (de_var 6) da_nil)))) da_nil))) (de_slice false (de_var 5) (do_some (de_add false (de_var 6) de_int)) do_none))) (blkOk_by (own := [("line", 13)]) (N := N_law) (sc := defScope s_law) (by decide +kernel)) (relg_name 13) (fun _ _ _ _ _ => (pg_name (i := 13) sc_law.nd rfl (by first | exact Or.inl rfl | exact Or.inr rfl))) (fun _ _ _ _ _ => dps_nil) (fun _ _ _ _ _ => (de_add false (de_var 13) (de_str [10])))) da_nil))) (dss_cons (ds_if (dt_not (dt_tru (de_cal C_law_same hr (da_cons (de_cal C_session_from hr (da_cons (de_var 11) (da_cons (de_var 2) da_nil))) (da_cons (de_slice false (de_var 4) do_none (do_some (de_callB (call_min2 rfl) rel_min2 (by rfl) b_min (by decide +kernel) (da_cons (de_var 6) (da_cons de_int da_nil))))) da_nil))))) (dss_one (ds_ret de_bl)) dss_nil) (dss_cons (ds_set (i := 12) sc_law.nd (de_add false de_int (de_mod (de_var 2) de_int))) (dss_one (ds_ret (de_and (de_cal C_law_same hr (da_cons (de_cal C_session_from hr (da_cons (de_var 7) (da_cons (de_var 12) da_nil))) (da_cons (de_lst false da_nil) da_nil))) (de_one (de_cal C_law_same hr (da_cons (de_cal C_session_from hr (da_cons (de_var 7) (da_cons (de_var 2) da_nil))) (da_cons (de_slice false (de_var 4) do_none (do_some de_int)) da_nil))))))))))))))))))))))
end
theorem len_all_figures : ∀ ds M Q E, sp_all_figures ds M Q E → ds.length = 1 := by
  intro ds M Q E h
  obtain ⟨_, rfl, _⟩ := h
  rfl
theorem len_plain_figures : ∀ ds M Q E, sp_plain_figures ds M Q E → ds.length = 1 := by
  intro ds M Q E h
  obtain ⟨_, rfl, _⟩ := h
  rfl
theorem len_long_of : ∀ ds M Q E, sp_long_of ds M Q E → ds.length = 1 := by
  intro ds M Q E h
  obtain ⟨_, rfl, _⟩ := h
  rfl
theorem len_long_word : ∀ ds M Q E, sp_long_word ds M Q E → ds.length = 1 := by
  intro ds M Q E h
  obtain ⟨_, rfl, _⟩ := h
  rfl
theorem len_session_line : ∀ ds M Q E, sp_session_line ds M Q E → ds.length = 2 := by
  intro ds M Q E h
  obtain ⟨_, _, rfl, _⟩ := h
  rfl
theorem len_row_of : ∀ ds M Q E, sp_row_of ds M Q E → ds.length = 3 := by
  intro ds M Q E h
  obtain ⟨_, _, _, rfl, _⟩ := h
  rfl
theorem len_session_from : ∀ ds M Q E, sp_session_from ds M Q E → ds.length = 2 := by
  intro ds M Q E h
  obtain ⟨_, _, _, _, _, rfl, _⟩ := h
  rfl
theorem len_law_k06_line : ∀ ds M Q E, sp_law_k06_line ds M Q E → ds.length = 2 := by
  intro ds M Q E h
  obtain ⟨_, _, rfl, _⟩ := h
  rfl
theorem len_law_k06_row : ∀ ds M Q E, sp_law_k06_row ds M Q E → ds.length = 2 := by
  intro ds M Q E h
  obtain ⟨_, _, _, _, rfl, _⟩ := h
  rfl
theorem len_law_k06_spoilt : ∀ ds M Q E, sp_law_k06_spoilt ds M Q E → ds.length = 3 := by
  intro ds M Q E h
  obtain ⟨_, _, _, _, _, _, rfl, _⟩ := h
  rfl
theorem len_law : ∀ ds M Q E, sp_law ds M Q E → ds.length = 1 := by
  intro ds M Q E h
  obtain ⟨_, rfl, _⟩ := h
  rfl
abbrev R : PySem.W.OpenRow := PySem.W.OpenLaw.row PySem.Challenge.rw_readapart_k06_sessions_cut_anywhere
def fn : List He.DefD := [mkD "all_figures" (top 3), mkD "plain_figures" (top 4), mkD "long_of" (top 6), mkD "long_word" (top 7), mkD "session_line" (top 9), mkD "row_of" (top 10), mkD "session_from" (top 11), mkD "_law_source" (top 13), mkD "_law_pick" (top 14), mkD "_law_one" (top 15), mkD "_law_same" (top 16), mkD "_law_k06_line" (top 17), mkD "_law_k06_row" (top 18), mkD "_law_k06_spoilt" (top 19), mkD "law" (top 20)]
def fa : List He.Fa := [.glo "all_figures", .glo "plain_figures", .glo "long_of", .glo "long_word", .glo "session_line", .glo "row_of", .glo "session_from", .glo "_law_source", .glo "_law_pick", .glo "_law_one", .glo "_law_same", .glo "_law_k06_line", .glo "_law_k06_row", .glo "_law_k06_spoilt", .glo "law", .free "len", .free "int", .free "str", .free "tuple", .free "sum", .free "abs", .free "bool", .free "isinstance", .free "list", .free "range", .free "all", .free "min", .str "FIGURES" "0123456789", .glo "LIMITS"]
def ts : List He.Tab := [(fun K => He.ga K "LIMITS", ["signs", "lines", "words", "depth", "nodes", "figures", "numbers", "unknowns", "givens", "formulas", "blocks", "options", "round", "place", "late", "parts", "worlds", "boxes of worlds", "degree", "cells", "windows", "boxes", "rows", "rounds", "facts"])]
def ex (K : PySem.W.Frag) : Bool := He.valsB K (He.ga K "LIMITS") [("rounds", .int 200)]
abbrev hk : PySem.W.Hook := He.hookX 4 fa fn ts [] ex
def ob (s : PySem.W.SharedT) : He.AlX := He.obsX 4 fa fn ts [] ex (HandSHeadRun.getT s)
theorem ob_eq (s : PySem.W.SharedT) : ob s = hk.obs s.abs := He.obsX_eq (HandSHeadRun.getT_eq s)
def loose : List Str := ["LIMITS", "FIGURES", "all_figures", "plain_figures", "piece_size", "long_of", "long_word", "session_line", "row_of", "session_from", "_law_source", "_law_pick", "_law_one", "_law_same", "_law_k06_line", "_law_k06_row", "_law_k06_spoilt"]
theorem run (w : World) : HandSHeadRun.RunEq R (PySem.W.view R.prog [20]) hk ob 4000 loose w :=
  PySem.W.byRow2 "special-get-raises" (P := fun w => HandSHeadRun.RunEq R (PySem.W.view R.prog [20]) hk ob 4000 loose w) (fun w => by
    intro os
    kernel_rfl) (fun w => by
    intro os
    kernel_rfl) w
theorem facts {P : Program} {w : World} {K : PySem.W.Frag} {h : Heap} {mg : Str → Option Value} {f : Addr} (X : K.In h) (G : h.Ns mainGlobals mg) (hfa : mg ("law" : Str) = some (.ref f)) (c : He.SaysX fa fn ts [] ex w h K) :
    ∃ fd : FuncData, (∀ (s : Shared) (v : Value), BindsTo s fd ⟨[v], []⟩ [("script", v)]) ∧ ∀ base : Heap, K.In base → base.Ns mainGlobals mg → FnOk P w K mg base CX0 10 f fd ["script"] (liftSp K sp_law) := by
  have b_len : mg "len" = none := free_of X G c.t.d 15 rfl
  have b_int : mg "int" = none := free_of X G c.t.d 16 rfl
  have b_str : mg "str" = none := free_of X G c.t.d 17 rfl
  have b_tuple : mg "tuple" = none := free_of X G c.t.d 18 rfl
  have b_sum : mg "sum" = none := free_of X G c.t.d 19 rfl
  have b_abs : mg "abs" = none := free_of X G c.t.d 20 rfl
  have b_bool : mg "bool" = none := free_of X G c.t.d 21 rfl
  have b_isinstance : mg "isinstance" = none := free_of X G c.t.d 22 rfl
  have b_list : mg "list" = none := free_of X G c.t.d 23 rfl
  have b_range : mg "range" = none := free_of X G c.t.d 24 rfl
  have b_all : mg "all" = none := free_of X G c.t.d 25 rfl
  have b_min : mg "min" = none := free_of X G c.t.d 26 rfl
  have c_FIGURES : GC K mg "FIGURES" g_FIGURES := gcS_of X G c.t.d 27 rfl (by decide +kernel)
  have c_LIMITS_rounds : GD K mg w "LIMITS" "rounds" g_LIMITS_rounds := gdI_of X G c.t 28 0 rfl rfl rfl c.more (by simp)
  have D_all_figures : DefAt K mg "all_figures" s_all_figures := defAt_of X G c.t.d 0 0 rfl rfl
  have D_plain_figures : DefAt K mg "plain_figures" s_plain_figures := defAt_of X G c.t.d 1 1 rfl rfl
  have D_long_of : DefAt K mg "long_of" s_long_of := defAt_of X G c.t.d 2 2 rfl rfl
  have D_long_word : DefAt K mg "long_word" s_long_word := defAt_of X G c.t.d 3 3 rfl rfl
  have D_session_line : DefAt K mg "session_line" s_session_line := defAt_of X G c.t.d 4 4 rfl rfl
  have D_row_of : DefAt K mg "row_of" s_row_of := defAt_of X G c.t.d 5 5 rfl rfl
  have D_session_from : DefAt K mg "session_from" s_session_from := defAt_of X G c.t.d 6 6 rfl rfl
  have D_law_source : DefAt K mg "_law_source" s_law_source := defAt_of X G c.t.d 7 7 rfl rfl
  have D_law_pick : DefAt K mg "_law_pick" s_law_pick := defAt_of X G c.t.d 8 8 rfl rfl
  have D_law_one : DefAt K mg "_law_one" s_law_one := defAt_of X G c.t.d 9 9 rfl rfl
  have D_law_same : DefAt K mg "_law_same" s_law_same := defAt_of X G c.t.d 10 10 rfl rfl
  have D_law_k06_line : DefAt K mg "_law_k06_line" s_law_k06_line := defAt_of X G c.t.d 11 11 rfl rfl
  have D_law_k06_row : DefAt K mg "_law_k06_row" s_law_k06_row := defAt_of X G c.t.d 12 12 rfl rfl
  have D_law_k06_spoilt : DefAt K mg "_law_k06_spoilt" s_law_k06_spoilt := defAt_of X G c.t.d 13 13 rfl rfl
  obtain ⟨fd, F⟩ := c.t.d.def_ 14 (d := mkD "law" (top 20)) rfl
  have e := hfa.symm.trans (He.glo_ok X G (c.t.d.fact 14 (f := .glo "law") rfl))
  cases e
  have b := FunD.bindsA (ps := ["script"]) F fun _ _ _ _ _ _ us hl => match us, hl with | [_], _ => rfl
  refine ⟨fd, fun s v => b s [v] rfl, fun base _ _ => ?_⟩
  have C_all_figures : Cal P w K mg base 1 "all_figures" ["word"] sp_all_figures := cal_of D_all_figures sc_all_figures len_all_figures (fun _ _ _ _ _ _ us hl => match us, hl with | [_], _ => rfl) (fun f cdv A outer s H E hr => body_all_figures c_FIGURES hr) sem_all_figures
  have C_plain_figures : Cal P w K mg base 2 "plain_figures" ["word"] sp_plain_figures := cal_of D_plain_figures sc_plain_figures len_plain_figures (fun _ _ _ _ _ _ us hl => match us, hl with | [_], _ => rfl) (fun f cdv A outer s H E hr => body_plain_figures C_all_figures hr) sem_plain_figures
  have C_long_of : Cal P w K mg base 3 "long_of" ["word"] sp_long_of := cal_of D_long_of sc_long_of len_long_of (fun _ _ _ _ _ _ us hl => match us, hl with | [_], _ => rfl) (fun f cdv A outer s H E hr => body_long_of C_plain_figures b_len b_int hr) sem_long_of
  have C_long_word : Cal P w K mg base 1 "long_word" ["number"] sp_long_word := cal_of D_long_word sc_long_word len_long_word (fun _ _ _ _ _ _ us hl => match us, hl with | [_], _ => rfl) (fun f cdv A outer s H E hr => body_long_word b_str hr) sem_long_word
  have C_session_line : Cal P w K mg base 2 "session_line" ["round_number", "row"] sp_session_line := cal_of D_session_line sc_session_line len_session_line (fun _ _ _ _ _ _ us hl => match us, hl with | [_, _], _ => rfl) (fun f cdv A outer s H E hr => body_session_line C_long_word b_str hr) sem_session_line
  have C_row_of : Cal P w K mg base 4 "row_of" ["line", "round_number", "many"] sp_row_of := cal_of D_row_of sc_row_of len_row_of (fun _ _ _ _ _ _ us hl => match us, hl with | [_, _, _], _ => rfl) (fun f cdv A outer s H E hr => body_row_of C_long_of b_len b_str b_tuple hr) sem_row_of
  have C_session_from : Cal P w K mg base 5 "session_from" ["text", "many"] sp_session_from := cal_of D_session_from sc_session_from len_session_from (fun _ _ _ _ _ _ us hl => match us, hl with | [_, _], _ => rfl) (fun f cdv A outer s H E hr => body_session_from C_row_of b_len c_LIMITS_rounds hr) sem_session_from
  have C_law_source : Cal P w K mg base 1 "_law_source" ["script", "at"] sp_law_source := cal_of D_law_source sc_law_source len_law_source (fun _ _ _ _ _ _ us hl => match us, hl with | [_, _], _ => rfl) (fun f cdv A outer s H E hr => body_law_source b_len b_int b_sum b_abs hr) sem_law_source
  have C_law_pick : Cal P w K mg base 1 "_law_pick" ["source", "many"] sp_law_pick := cal_of D_law_pick sc_law_pick len_law_pick (fun _ _ _ _ _ _ us hl => match us, hl with | [_, _], _ => rfl) (fun f cdv A outer s H E hr => body_law_pick b_int hr) sem_law_pick
  have C_law_one : Cal P w K mg base 2 "_law_one" ["source", "things"] sp_law_one := cal_of D_law_one sc_law_one len_law_one (fun _ _ _ _ _ _ us hl => match us, hl with | [_, _], _ => rfl) (fun f cdv A outer s H E hr => body_law_one C_law_pick b_len hr) sem_law_one
  have C_law_same : Cal P w K mg base 9 "_law_same" ["answer", "due"] sp_law_same := cal_same D_law_same sc_law_same rfl (fun n k C f cdv A outer s H E hr => body_law_same n C b_bool b_isinstance b_int b_str b_tuple b_list b_len b_range b_all hr) (fun _ _ _ _ _ _ us hl => match us, hl with | [_, _], _ => rfl) 9
  have C_law_k06_line : Cal P w K mg base 1 "_law_k06_line" ["at", "row"] sp_law_k06_line := cal_of D_law_k06_line sc_law_k06_line len_law_k06_line (fun _ _ _ _ _ _ us hl => match us, hl with | [_, _], _ => rfl) (fun f cdv A outer s H E hr => body_law_k06_line b_str hr) sem_law_k06_line
  have C_law_k06_row : Cal P w K mg base 2 "_law_k06_row" ["source", "many"] sp_law_k06_row := cal_of D_law_k06_row sc_law_k06_row len_law_k06_row (fun _ _ _ _ _ _ us hl => match us, hl with | [_, _], _ => rfl) (fun f cdv A outer s H E hr => body_law_k06_row C_law_pick b_range b_tuple hr) sem_law_k06_row
  have C_law_k06_spoilt : Cal P w K mg base 3 "_law_k06_spoilt" ["source", "line", "at"] sp_law_k06_spoilt := cal_of D_law_k06_spoilt sc_law_k06_spoilt len_law_k06_spoilt (fun _ _ _ _ _ _ us hl => match us, hl with | [_, _, _], _ => rfl) (fun f cdv A outer s H E hr => body_law_k06_spoilt (C_law_pick.mono (by decide)) C_law_one b_str b_len hr) sem_law_k06_spoilt
  exact dfn F sc_law len_law (fun cdv A outer s H E hr => body_law (C_law_source.mono (by decide)) (C_law_pick.mono (by decide)) (C_law_k06_row.mono (by decide)) (C_law_k06_line.mono (by decide)) (C_session_line.mono (by decide)) (C_session_from.mono (by decide)) C_law_same (C_law_k06_spoilt.mono (by decide)) b_range b_list b_isinstance b_len b_min hr) sem_law
end K06
open PySem PySem.W PySem.Calls PyProof.Rows
theorem PySem.Challenge.cw_readapart_k06_sessions_cut_anywhere_holds : PySem.Challenge.rw_readapart_k06_sessions_cut_anywhere.Holds := by
  w_on; o_law
  refine HandSHeadRun.head_any (r := OpenLaw.row PySem.Challenge.rw_readapart_k06_sessions_cut_anywhere) (q := view (OpenLaw.row PySem.Challenge.rw_readapart_k06_sessions_cut_anywhere).prog [20]) (H := K06.hk) (ob := K06.ob) (M := 4000) (loose := K06.loose) (d := HandSHeadRun.topDef (OpenLaw.row PySem.Challenge.rw_readapart_k06_sessions_cut_anywhere).prog 20) (kwd := []) K06.ob_eq
    (by kernel_rfl) (fun s => by kernel_rfl) K06.run (by kernel_rfl) (by kernel_rfl) (by kernel_rfl) (by rfl) (by first | assumption | decide +kernel) (by decide +kernel) ⟨rfl, rfl, rfl, rfl, rfl, by decide +kernel⟩ ?hw ?hc
  case hw => w_witness2
  case hc =>
    refine L2.walk_ofE (l := PySem.Challenge.rw_readapart_k06_sessions_cut_anywhere) (n := 63) (k := 10) (x := "script") (CX := L2.CX0) rfl (by decide) (by kernel_rfl) ⟨rfl, by decide, by decide⟩ ?F (fun _ _ _ _ z => z)
    intro w mg fa h Y G hmg0
    obtain ⟨K, KX, c⟩ := Y
    have hmg : mg ("law" : PySem.Str) = some (.ref fa) := by
      have e : (HandSHeadRun.topDef (OpenLaw.row PySem.Challenge.rw_readapart_k06_sessions_cut_anywhere).prog 20).name = ("law" : PySem.Str) := by kernel_rfl
      rw [← e]
      exact hmg0
    obtain ⟨fd, hb, hF⟩ := K06.facts (P := (PySem.Challenge.rw_readapart_k06_sessions_cut_anywhere).prog) (w := w) KX G hmg c
    exact ⟨K, fd, DL.liftSp K K06.sp_law, KX, hb, fun H a ns _ _ hS => DL.law_sp (fun ns M Q E q => ⟨ns, rfl, q⟩) H a ns hS, hF⟩
