import PyProof.Rows.All
import Wide.All
import OpenK.AllK
import Wide.FinOn
import HandS.ForMost
import HandS.Defaults
import HandS.IsInst
import HandS.Wide
import HandS.WideBits
import HandS.Flow
import HandS.Exc
import HandS.TupAny
import HandS.Walk
import HandS.Evl
import HandS.More
import HandS.ReplaceLit
import HandS.ReplaceList
import HandS.Head0
import HandS.Head1
import HandS.Head2
import HandS.HeadEnd
import HandS.HeadHook1
import HandS.HeadHook2
import HandS.HeadHook3
import HandS.HeadHook4
import HandS.Rev
import HandS.Iter
import PyProof.Rows.RuleB_bool
import HandS.ExcInit
import HandS.ExcOwn
import HandS.WordsExc
import HandS.HotCalls
import HandS.ExcField
import KE.KExcIs
import HandS.ExcIs
import PySem.Challenge.RW_readapart_k19_gauges_by_all_readings
set_option Elab.async false
set_option linter.all false
set_option maxRecDepth 100000
set_option maxHeartbeats 2000000
set_option autoImplicit false
/-! DL: the data layer. Nested data as values (D), mutable lists by address (Mu), readings as functions. -/
namespace DL
open PySem PySem.Spec PyProof.Rows L2 TL

/-- data: texts by their codes; tuples and lists that stay (lst) as values; ref: a thing that may change -/
inductive D where
  | non | bl (b : Bool) | int (i : Int) | str (cs : List Nat) | tup (ds : List D) | lst (ds : List D) | src (ns : List Int) | ref (a : Addr) | ty (n : String)
  | exc (a d : Addr) (c : Str) (ns : List Str) (ds : List D)
/-- what may change -/
inductive DO where
  | lst (ds : List D)
  | dic (kvs : List (Key × D))
abbrev Mu := Addr → Option DO
def mset (M : Mu) (a : Addr) (o : DO) : Mu := fun b => if b = a then some o else M b
def mdrop (M : Mu) (a : Addr) : Mu := fun b => if b = a then none else M b
theorem mset_same {M : Mu} {a : Addr} {o : DO} : mset M a o a = some o := if_pos rfl
theorem mset_ne {M : Mu} {a b : Addr} {o : DO} (h : b ≠ a) : mset M a o b = M b := if_neg h
theorem mset_mset {M : Mu} {a : Addr} {o u : DO} : mset (mset M a o) a u = mset M a u := by
  funext b; unfold mset; split <;> rfl
theorem mdrop_mset {M : Mu} {a : Addr} {o : DO} (h : M a = none) : mdrop (mset M a o) a = M := by
  funext b; unfold mdrop mset
  by_cases e : b = a
  · rw [if_pos e, e, h]
  · rw [if_neg e, if_neg e]
def mkS (cs : List Nat) : Str := ⟨cs.toArray⟩
theorem mkS_len (cs : List Nat) : (mkS cs).length = cs.length := by simp [mkS, Str.length]
theorem mkS_tl (cs : List Nat) : tl (mkS cs) = cs := rfl
theorem mkS_app (a b : List Nat) : mkS a ++ mkS b = mkS (a ++ b) := ext_tl (by rw [tl_append]; rfl)
theorem mkS_inj {a b : List Nat} (h : mkS a = mkS b) : a = b := by
  have := congrArg tl h
  exact this
theorem mkS_of (s : Str) : mkS (tl s) = s := mk_tl s

/-! ### data in the heap: F is what stays -/
mutual
def Rp (K : PySem.W.Frag) (F : Hp) : D → V → Prop
  | .non, v => v = .non
  | .bl b, v => v = .bl b
  | .int i, v => v = .int i
  | .str cs, v => v = .str (mkS cs)
  | .ref a, v => v = .ref a
  | .ty n, v => v = .ty n
  | .src ns, v => ∃ a, v = .ref a ∧ SqL K F a (ns.map V.int)
  | .tup ds, v => ∃ a xs, v = .ref a ∧ SqT K F a xs ∧ RpL K F ds xs
  | .lst ds, v => ∃ a xs, v = .ref a ∧ F a = some (.lst xs) ∧ RpL K F ds xs
  | .exc a d _ ns ds, v => v = .ref a ∧ ∃ xs, F d = some (.xd (ns.zip xs)) ∧ ns.length = xs.length ∧ RpL K F ds xs
def RpL (K : PySem.W.Frag) (F : Hp) : List D → List V → Prop
  | [], xs => xs = []
  | d :: ds, xs => ∃ x r, xs = x :: r ∧ Rp K F d x ∧ RpL K F ds r
end
def Le (F F' : Hp) : Prop := ∀ b o, F b = some o → F' b = some o
theorem Le.refl (F : Hp) : Le F F := fun _ _ h => h
theorem Le.trans {F G J : Hp} (a : Le F G) (b : Le G J) : Le F J := fun c o h => b c o (a c o h)
theorem Le.rd {F G : Hp} (l : Le F G) {a : Addr} {u : HO} (h : Rd F a u) : Rd G a u := by
  rcases h with h | ⟨o, h⟩
  · exact .inl (l _ _ h)
  · exact .inr ⟨o, l _ _ h⟩
theorem Le.sqL {K : PySem.W.Frag} {F G : Hp} (l : Le F G) {a : Addr} {xs : List V} (h : SqL K F a xs) : SqL K G a xs := by
  rcases h with h | h
  · exact .inl (l.rd h)
  · exact .inr h
theorem Le.sqT {K : PySem.W.Frag} {F G : Hp} (l : Le F G) {a : Addr} {xs : List V} (h : SqT K F a xs) : SqT K G a xs := by
  rcases h with h | h
  · exact .inl (l.rd h)
  · exact .inr h
theorem Le.new {F : Hp} {p : Addr} {o : HO} (h : F p = none) : Le F (upd F p o) := fun b u e => by
  rw [upd_ne (ne_of_none e h)]
  exact e
mutual
theorem Rp.mono {K : PySem.W.Frag} {F G : Hp} (l : Le F G) : ∀ {d : D} {v : V}, Rp K F d v → Rp K G d v
  | .non, _, h => by unfold Rp at h ⊢; exact h
  | .bl _, _, h => by unfold Rp at h ⊢; exact h
  | .int _, _, h => by unfold Rp at h ⊢; exact h
  | .str _, _, h => by unfold Rp at h ⊢; exact h
  | .ref _, _, h => by unfold Rp at h ⊢; exact h
  | .ty _, _, h => by unfold Rp at h ⊢; exact h
  | .src _, _, h => by
    unfold Rp at h ⊢
    obtain ⟨a, e, s⟩ := h
    exact ⟨a, e, l.sqL s⟩
  | .tup ds, _, h => by
    unfold Rp at h ⊢
    obtain ⟨a, xs, e, s, r⟩ := h
    exact ⟨a, xs, e, l.sqT s, RpL.mono l r⟩
  | .lst ds, _, h => by
    unfold Rp at h ⊢
    obtain ⟨a, xs, e, s, r⟩ := h
    exact ⟨a, xs, e, l _ _ s, RpL.mono l r⟩
  | .exc a d c ns ds, _, h => by
    unfold Rp at h ⊢
    obtain ⟨e, xs, s, n, r⟩ := h
    exact ⟨e, xs, l _ _ s, n, RpL.mono l r⟩
theorem RpL.mono {K : PySem.W.Frag} {F G : Hp} (l : Le F G) : ∀ {ds : List D} {xs : List V}, RpL K F ds xs → RpL K G ds xs
  | [], _, h => by unfold RpL at h ⊢; exact h
  | d :: ds, _, h => by
    unfold RpL at h ⊢
    obtain ⟨x, r, e, h1, h2⟩ := h
    exact ⟨x, r, e, Rp.mono l h1, RpL.mono l h2⟩
end
section
variable {K : PySem.W.Frag} {F : Hp}
theorem RpL.nil : RpL K F [] [] := by unfold RpL; rfl
theorem RpL.cons {d : D} {ds : List D} {x : V} {xs : List V} (h : Rp K F d x) (t : RpL K F ds xs) : RpL K F (d :: ds) (x :: xs) := by
  unfold RpL
  exact ⟨x, xs, rfl, h, t⟩
theorem RpL.len : ∀ {ds : List D} {xs : List V}, RpL K F ds xs → ds.length = xs.length
  | [], _, h => by unfold RpL at h; subst h; rfl
  | d :: ds, _, h => by
    unfold RpL at h
    obtain ⟨x, r, e, h1, h2⟩ := h
    subst e
    rw [List.length_cons, List.length_cons, RpL.len h2]
theorem RpL.app : ∀ {ds es : List D} {xs ys : List V}, RpL K F ds xs → RpL K F es ys → RpL K F (ds ++ es) (xs ++ ys)
  | [], _, _, _, h, t => by unfold RpL at h; subst h; exact t
  | d :: ds, es, _, ys, h, t => by
    unfold RpL at h
    obtain ⟨x, r, e, h1, h2⟩ := h
    subst e
    exact RpL.cons h1 (RpL.app h2 t)
theorem RpL.snoc {ds : List D} {xs : List V} {d : D} {x : V} (h : RpL K F ds xs) (t : Rp K F d x) : RpL K F (ds ++ [d]) (xs ++ [x]) := h.app (RpL.cons t RpL.nil)
theorem RpL.get : ∀ {ds : List D} {xs : List V} {i : Nat} {d : D}, RpL K F ds xs → ds[i]? = some d → ∃ x, xs[i]? = some x ∧ Rp K F d x
  | [], _, _, _, _, e => by simp at e
  | d :: ds, _, 0, _, h, e => by
    unfold RpL at h
    obtain ⟨x, r, e1, h1, h2⟩ := h
    subst e1
    simp at e
    subst e
    exact ⟨x, rfl, h1⟩
  | d :: ds, _, i + 1, _, h, e => by
    unfold RpL at h
    obtain ⟨x, r, e1, h1, h2⟩ := h
    subst e1
    obtain ⟨y, e2, h3⟩ := RpL.get (i := i) h2 (by simpa using e)
    exact ⟨y, by simpa using e2, h3⟩
theorem RpL.getV : ∀ {ds : List D} {xs : List V} {i : Nat} {x : V}, RpL K F ds xs → xs[i]? = some x → ∃ d, ds[i]? = some d ∧ Rp K F d x := fun {ds xs i x} h e => by
  have hl := h.len
  have hi : i < xs.length := (List.getElem?_eq_some_iff.mp e).1
  obtain ⟨y, e2, r⟩ := h.get (i := i) (d := ds[i]'(by omega)) (List.getElem?_eq_getElem (by omega))
  rw [e] at e2
  cases e2
  exact ⟨_, List.getElem?_eq_getElem (by omega), r⟩
theorem RpL.set : ∀ {ds : List D} {xs : List V} {d : D} {x : V} (i : Nat), RpL K F ds xs → Rp K F d x → RpL K F (ds.set i d) (xs.set i x)
  | [], _, _, _, i, h, t => by unfold RpL at h; subst h; exact RpL.nil
  | d :: ds, _, _, _, 0, h, t => by
    unfold RpL at h
    obtain ⟨x, r, e1, h1, h2⟩ := h
    subst e1
    exact RpL.cons t h2
  | d :: ds, _, _, _, i + 1, h, t => by
    unfold RpL at h
    obtain ⟨x, r, e1, h1, h2⟩ := h
    subst e1
    exact RpL.cons h1 (RpL.set i h2 t)
theorem RpL.take : ∀ {ds : List D} {xs : List V} (n : Nat), RpL K F ds xs → RpL K F (ds.take n) (xs.take n)
  | [], _, n, h => by unfold RpL at h; subst h; rw [List.take_nil, List.take_nil]; exact RpL.nil
  | d :: ds, _, 0, h => RpL.nil
  | d :: ds, _, n + 1, h => by
    unfold RpL at h
    obtain ⟨x, r, e1, h1, h2⟩ := h
    subst e1
    exact RpL.cons h1 (RpL.take n h2)
theorem RpL.drop : ∀ {ds : List D} {xs : List V} (n : Nat), RpL K F ds xs → RpL K F (ds.drop n) (xs.drop n)
  | [], _, n, h => by unfold RpL at h; subst h; rw [List.drop_nil, List.drop_nil]; exact RpL.nil
  | d :: ds, _, 0, h => h
  | d :: ds, _, n + 1, h => by
    unfold RpL at h
    obtain ⟨x, r, e1, h1, h2⟩ := h
    subst e1
    exact RpL.drop n h2
theorem RpL.rev : ∀ {ds : List D} {xs : List V}, RpL K F ds xs → RpL K F ds.reverse xs.reverse
  | [], _, h => by unfold RpL at h; subst h; exact RpL.nil
  | d :: ds, _, h => by
    unfold RpL at h
    obtain ⟨x, r, e1, h1, h2⟩ := h
    subst e1
    rw [List.reverse_cons, List.reverse_cons]
    exact (RpL.rev h2).snoc h1
theorem RpL.last {ds : List D} {xs : List V} (h : RpL K F ds xs) : RpL K F ds.dropLast xs.dropLast := by
  rw [List.dropLast_eq_take, List.dropLast_eq_take, h.len]
  exact h.take _
theorem RpL.ints : ∀ {ns : List Int}, RpL K F (ns.map D.int) (ns.map V.int)
  | [] => RpL.nil
  | n :: ns => RpL.cons (by unfold Rp; rfl) RpL.ints
theorem RpL.strs : ∀ {ns : List (List Nat)}, RpL K F (ns.map D.str) (ns.map fun c => V.str (mkS c))
  | [] => RpL.nil
  | n :: ns => RpL.cons (by unfold Rp; rfl) RpL.strs
end
def RpK (K : PySem.W.Frag) (F : Hp) (kvs : List (Key × D)) (vs : List (Key × V)) : Prop := kvs.map (·.1) = vs.map (·.1) ∧ RpL K F (kvs.map (·.2)) (vs.map (·.2))
def RpO (K : PySem.W.Frag) (F : Hp) : DO → HO → Prop
  | .lst ds, o => ∃ xs, o = .lst xs ∧ RpL K F ds xs
  | .dic kvs, o => ∃ vs, o = .dK vs ∧ RpK K F kvs vs
theorem RpO.mono {K : PySem.W.Frag} {F G : Hp} (l : Le F G) {o : DO} {ho : HO} (h : RpO K F o ho) : RpO K G o ho := by
  cases o with
  | lst ds =>
    obtain ⟨xs, e, r⟩ := h
    exact ⟨xs, e, r.mono l⟩
  | dic kvs =>
    obtain ⟨xs, e, r1, r2⟩ := h
    exact ⟨xs, e, r1, r2.mono l⟩

/-- from one state to a later one: what stays, stays; what is hidden, stays as it is and hidden -/
structure Go (H F : Hp) (M : Mu) (H' F' : Hp) (M' : Mu) : Prop where
  le : Le F F'
  kp : ∀ b o, H b = some o → M b = none → H' b = some o ∧ M' b = none ∧ (F b = none → F' b = none)
/-- what is remembered of the way to here -/
class Ghost where
  Z : Hp → Hp → Mu → Prop
  go : ∀ {H F : Hp} {M : Mu} {H' F' : Hp} {M' : Mu}, Z H F M → Go H F M H' F' M' → Z H' F' M'
/-- nothing is remembered -/
abbrev gh0 : Ghost := ⟨fun _ _ _ => True, fun _ _ => trivial⟩
/-- the heap H holds the staying part F and the changing part M; the rest of H is hidden -/
structure Sv0 (K : PySem.W.Frag) (H F : Hp) (M : Mu) : Prop where
  fh : Le F H
  fm : ∀ b o, F b = some o → M b = none
  mu : ∀ a o, M a = some o → ∃ ho, H a = some ho ∧ RpO K F o ho
structure Sv [Ghost] (K : PySem.W.Frag) (H F : Hp) (M : Mu) : Prop extends Sv0 K H F M where
  gh : Ghost.Z H F M
/-- other things are remembered -/
theorem Sv.re {G : Ghost} (G' : Ghost) {K : PySem.W.Frag} {H F : Hp} {M : Mu} (s : @Sv G K H F M) (z : G'.Z H F M) : @Sv G' K H F M :=
  let _ := G'
  ⟨(let _ := G; s.toSv0), z⟩
theorem svgo [Ghost] {K : PySem.W.Frag} {H F H' F' : Hp} {M M' : Mu} (s : Sv K H F M) (v : Sv0 K H' F' M') (g : Go H F M H' F' M') : Sv K H' F' M' ∧ Go H F M H' F' M' := ⟨⟨v, Ghost.go s.gh g⟩, g⟩
section
variable {K : PySem.W.Frag} {H H1 H2 F F1 F2 : Hp} {M M1 M2 : Mu}
theorem Go.refl : Go H F M H F M := ⟨Le.refl F, fun b o h m => ⟨h, m, fun z => z⟩⟩
theorem Go.trans (a : Go H F M H1 F1 M1) (b : Go H1 F1 M1 H2 F2 M2) : Go H F M H2 F2 M2 := ⟨a.le.trans b.le, fun c o h m => by
  obtain ⟨h1, m1, f1⟩ := a.kp c o h m
  obtain ⟨h2, m2, f2⟩ := b.kp c o h1 m1
  exact ⟨h2, m2, fun z => f2 (f1 z)⟩⟩
theorem Sv.fresh [Ghost] {p : Addr} (s : Sv K H F M) (h : H p = none) : F p = none ∧ M p = none := by
  constructor
  · cases e : F p with
    | none => rfl
    | some o => rw [s.fh p o e] at h; cases h
  · cases e : M p with
    | none => rfl
    | some o =>
      obtain ⟨ho, e2, _⟩ := s.mu p o e
      rw [e2] at h; cases h
/-- a new thing that stays -/
theorem Sv.newF [Ghost] {p : Addr} {o : HO} (s : Sv K H F M) (h : H p = none) : Sv K (upd H p o) (upd F p o) M ∧ Go H F M (upd H p o) (upd F p o) M := by
  obtain ⟨hF, hM⟩ := s.fresh h
  have l : Le F (upd F p o) := Le.new hF
  refine svgo s ⟨fun b u e => ?_, fun b u e => ?_, fun a u e => ?_⟩ ⟨l, fun b u e m => ?_⟩
  · by_cases hb : b = p
    · subst hb; rw [upd_same] at e ⊢; exact e
    · rw [upd_ne hb] at e ⊢; exact s.fh b u e
  · by_cases hb : b = p
    · subst hb; exact hM
    · rw [upd_ne hb] at e; exact s.fm b u e
  · obtain ⟨ho, e2, r⟩ := s.mu a u e
    refine ⟨ho, ?_, r.mono l⟩
    rw [upd_ne (ne_of_none e2 h)]
    exact e2
  · have hb : b ≠ p := ne_of_none e h
    exact ⟨by rw [upd_ne hb]; exact e, m, fun z => by rw [upd_ne hb]; exact z⟩
/-- a new thing that may change -/
theorem Sv.newM [Ghost] {p : Addr} {o : DO} {ho : HO} (s : Sv K H F M) (h : H p = none) (r : RpO K F o ho) : Sv K (upd H p ho) F (mset M p o) ∧ Go H F M (upd H p ho) F (mset M p o) := by
  obtain ⟨hF, hM⟩ := s.fresh h
  refine svgo s ⟨fun b u e => ?_, fun b u e => ?_, fun a u e => ?_⟩ ⟨Le.refl F, fun b u e m => ?_⟩
  · rw [upd_ne (ne_of_none e hF)]; exact s.fh b u e
  · rw [mset_ne (ne_of_none e hF)]; exact s.fm b u e
  · by_cases ha : a = p
    · subst ha
      rw [mset_same] at e
      cases e
      exact ⟨ho, upd_same, r⟩
    · rw [mset_ne ha] at e
      obtain ⟨ho', e2, r'⟩ := s.mu a u e
      exact ⟨ho', by rw [upd_ne ha]; exact e2, r'⟩
  · have hb : b ≠ p := ne_of_none e h
    exact ⟨by rw [upd_ne hb]; exact e, by rw [mset_ne hb]; exact m, fun z => z⟩
/-- a thing is changed -/
theorem Sv.wr [Ghost] {p : Addr} {o o' : DO} {ho : HO} (s : Sv K H F M) (h : M p = some o) (r : RpO K F o' ho) : Sv K (upd H p ho) F (mset M p o') ∧ Go H F M (upd H p ho) F (mset M p o') := by
  have hF : ∀ b u, F b = some u → b ≠ p := fun b u e z => by
    subst z
    rw [s.fm b u e] at h; cases h
  refine svgo s ⟨fun b u e => ?_, fun b u e => ?_, fun a u e => ?_⟩ ⟨Le.refl F, fun b u e m => ?_⟩
  · rw [upd_ne (hF b u e)]; exact s.fh b u e
  · rw [mset_ne (hF b u e)]; exact s.fm b u e
  · by_cases ha : a = p
    · subst ha
      rw [mset_same] at e
      cases e
      exact ⟨ho, upd_same, r⟩
    · rw [mset_ne ha] at e
      obtain ⟨ho', e2, r'⟩ := s.mu a u e
      exact ⟨ho', by rw [upd_ne ha]; exact e2, r'⟩
  · have hb : b ≠ p := fun z => by subst z; rw [m] at h; cases h
    exact ⟨by rw [upd_ne hb]; exact e, by rw [mset_ne hb]; exact m, fun z => z⟩
end

/-! ### slots -/
abbrev DEnv := List (Option D)
def ERel (K : PySem.W.Frag) (F : Hp) (δ : DEnv) (σ : L2.St) : Prop := δ.length = σ.length ∧ ∀ (i : Nat) (d : D), δ[i]? = some (some d) → ∃ v, σ[i]? = some (some v) ∧ Rp K F d v
section
variable {K : PySem.W.Frag} {F F1 : Hp} {δ : DEnv} {σ : L2.St}
theorem ERel.mono (l : Le F F1) (h : ERel K F δ σ) : ERel K F1 δ σ := ⟨h.1, fun i d e => by
  obtain ⟨v, e2, r⟩ := h.2 i d e
  exact ⟨v, e2, r.mono l⟩⟩
theorem ERel.set {i : Nat} {d : D} {v : V} (h : ERel K F δ σ) (r : Rp K F d v) : ERel K F (δ.set i (some d)) (σ.set i (some v)) := by
  refine ⟨by rw [List.length_set, List.length_set]; exact h.1, fun j e hj => ?_⟩
  by_cases hji : i = j
  · subst hji
    by_cases hl : i < δ.length
    · rw [List.getElem?_set_self hl] at hj
      have e1 : d = e := Option.some.inj (Option.some.inj hj)
      subst e1
      refine ⟨v, ?_, r⟩
      rw [List.getElem?_set_self (by rw [← h.1]; exact hl)]
    · rw [List.getElem?_eq_none (by rw [List.length_set]; omega)] at hj
      cases hj
  · rw [List.getElem?_set_ne hji] at hj ⊢
    exact h.2 j e hj
theorem ERel.start {N : List Str} {ds : List D} {vs : List V} (h : RpL K F ds vs) : ERel K F (ds.map some ++ List.replicate (N.length - ds.length) none) (L2.start N vs) := by
  have hl := h.len
  refine ⟨by unfold L2.start; rw [List.length_append, List.length_append, List.length_map, List.length_map, List.length_replicate, List.length_replicate, hl], fun i d e => ?_⟩
  by_cases hi : i < ds.length
  · rw [List.getElem?_append_left (by rw [List.length_map]; exact hi), List.getElem?_map] at e
    cases q : ds[i]? with
    | none => rw [q] at e; cases e
    | some d' =>
      rw [q] at e
      have e1 : d' = d := Option.some.inj (Option.some.inj e)
      subst e1
      obtain ⟨x, e2, r⟩ := h.get q
      refine ⟨x, ?_, r⟩
      unfold L2.start
      rw [List.getElem?_append_left (by rw [List.length_map]; omega), List.getElem?_map, e2]
      rfl
  · rw [List.getElem?_append_right (by rw [List.length_map]; omega), List.getElem?_replicate] at e
    split at e <;> cases e
end

/-! ### readings of data, and what they say of the heap -/
abbrev DK := D → Mu → Prop
abbrev DTE := DEnv → Mu → DK → Prop
abbrev DTT := DEnv → Mu → (Bool → Mu → Prop) → Prop
abbrev DTA := DEnv → Mu → (List D → Mu → Prop) → Prop
structure DEnds where
  nx : DEnv → Mu → Prop
  rt : DK
  bk : DEnv → Mu → Prop := fun _ _ => False
  ct : DEnv → Mu → Prop := fun _ _ => False
abbrev DTS := DEnds → DEnv → Mu → Prop

def Post [Ghost] (K : PySem.W.Frag) (H F : Hp) (M : Mu) (Qd : DK) (Q : VK) : Prop := ∀ d M' F' v H', Qd d M' → Go H F M H' F' M' → Sv K H' F' M' → Rp K F' d v → Q v H'
def PostT [Ghost] (K : PySem.W.Frag) (H F : Hp) (M : Mu) (Qd : Bool → Mu → Prop) (Q : Bool → Hp → Prop) : Prop := ∀ b M' F' H', Qd b M' → Go H F M H' F' M' → Sv K H' F' M' → Q b H'
def PostA [Ghost] (K : PySem.W.Frag) (H F : Hp) (M : Mu) (Qd : List D → Mu → Prop) (Q : List V → Hp → Prop) : Prop := ∀ ds M' F' vs H', Qd ds M' → Go H F M H' F' M' → Sv K H' F' M' → RpL K F' ds vs → Q vs H'
def PostE [Ghost] (K : PySem.W.Frag) (H F : Hp) (M : Mu) (Qd : DEnv → Mu → Prop) (Q : L2.St → Hp → Prop) : Prop := ∀ δ M' F' σ H', Qd δ M' → Go H F M H' F' M' → Sv K H' F' M' → ERel K F' δ σ → Q σ H'
structure PostS [Ghost] (K : PySem.W.Frag) (H F : Hp) (M : Mu) (Dd : DEnds) (Dv : Ends) : Prop where
  nx : PostE K H F M Dd.nx Dv.nx
  rt : Post K H F M Dd.rt Dv.rt
  bk : PostE K H F M Dd.bk Dv.bk
  ct : PostE K H F M Dd.ct Dv.ct
section
variable {K : PySem.W.Frag} {H H1 F F1 : Hp} {M M1 : Mu}
theorem Post.go [Ghost] {Qd : DK} {Q : VK} (p : Post K H F M Qd Q) (g : Go H F M H1 F1 M1) : Post K H1 F1 M1 Qd Q := fun d M' F' v H' q g' s r => p d M' F' v H' q (g.trans g') s r
theorem PostT.go [Ghost] {Qd : Bool → Mu → Prop} {Q : Bool → Hp → Prop} (p : PostT K H F M Qd Q) (g : Go H F M H1 F1 M1) : PostT K H1 F1 M1 Qd Q := fun d M' F' H' q g' s => p d M' F' H' q (g.trans g') s
theorem PostA.go [Ghost] {Qd : List D → Mu → Prop} {Q : List V → Hp → Prop} (p : PostA K H F M Qd Q) (g : Go H F M H1 F1 M1) : PostA K H1 F1 M1 Qd Q := fun d M' F' v H' q g' s r => p d M' F' v H' q (g.trans g') s r
theorem PostE.go [Ghost] {Qd : DEnv → Mu → Prop} {Q : L2.St → Hp → Prop} (p : PostE K H F M Qd Q) (g : Go H F M H1 F1 M1) : PostE K H1 F1 M1 Qd Q := fun d M' F' v H' q g' s r => p d M' F' v H' q (g.trans g') s r
theorem PostS.go [Ghost] {Dd : DEnds} {Dv : Ends} (p : PostS K H F M Dd Dv) (g : Go H F M H1 F1 M1) : PostS K H1 F1 M1 Dd Dv := ⟨p.nx.go g, p.rt.go g, p.bk.go g, p.ct.go g⟩
theorem Post.fin [Ghost] {Qd : DK} {Q : VK} (p : Post K H F M Qd Q) (s : Sv K H F M) {d : D} {v : V} (q : Qd d M) (r : Rp K F d v) : Q v H := p d M F v H q Go.refl s r
end
def lift [Ghost] (K : PySem.W.Frag) (u : DTE) : TE := fun σ H Q => ∃ δ M F Qd, ERel K F δ σ ∧ Sv K H F M ∧ u δ M Qd ∧ Post K H F M Qd Q
def liftT [Ghost] (K : PySem.W.Frag) (u : DTT) : TT := fun σ H Q => ∃ δ M F Qd, ERel K F δ σ ∧ Sv K H F M ∧ u δ M Qd ∧ PostT K H F M Qd Q
def liftA [Ghost] (K : PySem.W.Frag) (u : DTA) : TA := fun σ H Q => ∃ δ M F Qd, ERel K F δ σ ∧ Sv K H F M ∧ u δ M Qd ∧ PostA K H F M Qd Q
def liftS [Ghost] (K : PySem.W.Frag) (u : DTS) : TS := fun Dv σ H => ∃ δ M F Dd, ERel K F δ σ ∧ Sv K H F M ∧ u Dd δ M ∧ PostS K H F M Dd Dv
abbrev DE [Ghost] (X : Cx) (e : Expr) (u : DTE) : Prop := PE X e (lift X.K u)
abbrev DT [Ghost] (X : Cx) (e : Expr) (u : DTT) : Prop := PT X e (liftT X.K u)
abbrev DW [Ghost] (X : Cx) (e : Expr) (u : DTT) : Prop := PW X e (liftT X.K u)
abbrev DA [Ghost] (X : Cx) (es : List Expr) (u : DTA) : Prop := PA X es (liftA X.K u)
abbrev DS [Ghost] (X : Cx) (s : Stmt) (u : DTS) : Prop := PS X s (liftS X.K u)
abbrev DSs [Ghost] (X : Cx) (s : List Stmt) (u : DTS) : Prop := PSs X s (liftS X.K u)
section
variable {X : Cx}
theorem PE.weak {e : Expr} {t t' : TE} (h : PE X e t) (i : ∀ σ H Q, t' σ H Q → t σ H Q) : PE X e t' := ⟨fun pins s σ H Q I q => h.run pins s σ H Q I (i _ _ _ q)⟩
theorem PT.weak {e : Expr} {t t' : TT} (h : PT X e t) (i : ∀ σ H Q, t' σ H Q → t σ H Q) : PT X e t' := ⟨fun pins s σ H Q I q => h.run pins s σ H Q I (i _ _ _ q)⟩
theorem PW.weak {e : Expr} {t t' : TT} (h : PW X e t) (i : ∀ σ H Q, t' σ H Q → t σ H Q) : PW X e t' := ⟨fun wh pins s σ H Q I q => h.run wh pins s σ H Q I (i _ _ _ q)⟩
theorem PA.weak {e : List Expr} {t t' : TA} (h : PA X e t) (i : ∀ σ H Q, t' σ H Q → t σ H Q) : PA X e t' := ⟨fun pos pins s σ H Q I q => h.run pos pins s σ H Q I (i _ _ _ q)⟩
theorem PS.weak {e : Stmt} {t t' : TS} (h : PS X e t) (i : ∀ D σ H, t' D σ H → t D σ H) : PS X e t' := ⟨fun pins s σ H D I q => h.run pins s σ H D I (i _ _ _ q)⟩
theorem PSs.weak {e : List Stmt} {t t' : TS} (h : PSs X e t) (i : ∀ D σ H, t' D σ H → t D σ H) : PSs X e t' := ⟨fun pins s σ H D I q => h.run pins s σ H D I (i _ _ _ q)⟩
end
end DL

namespace DL
open PySem PySem.Spec PyProof.Rows L2 TL

/-! ### names, constants -/
def dVar (i : Nat) : DTE := fun δ M Q => match δ[i]? with
  | some (some d) => Q d M
  | _ => False
def dC (d : D) : DTE := fun _ M Q => Q d M
section
variable {X : Cx}
theorem de_var [Ghost] (i : Nat) {x : Str} {pos : Pos} (hN : X.N[i]? = some x := by rfl) (hv : Vis X.env.scope x := by first | exact Or.inl rfl | exact Or.inr (Or.inl rfl) | exact Or.inr (Or.inr rfl)) (hd : (x == ("__debug__" : Str)) = false := by decide)
    (hcd : (x == ("__classdict__" : Str)) = false := by decide) : DE X (.Name x pos) (dVar i) := by
  refine PE.weak (pe_var hN hv hd hcd) fun σ H Q h => ?_
  obtain ⟨δ, M, F, Qd, hE, s, hu, p⟩ := h
  have hu' : (match δ[i]? with | some (some d) => Qd d M | _ => False) := hu
  split at hu'
  · rename_i d e
    obtain ⟨v, e2, r⟩ := hE.2 i d e
    exact ⟨v, e2, p.fin s hu' r⟩
  · exact hu'.elim
theorem de_cst [Ghost] {e : Expr} {v : V} {d : D} (h : PE X e (tC v)) (r : ∀ F, Rp X.K F d v) : DE X e (dC d) := by
  refine PE.weak h fun σ H Q h => ?_
  obtain ⟨δ, M, F, Qd, hE, s, hu, p⟩ := h
  exact p.fin s hu (r F)
theorem de_int [Ghost] {i : Int} {j : Nat} {pos : Pos} : DE X (.Constant (.int i) j pos) (dC (.int i)) := de_cst pe_int fun F => by unfold Rp; rfl
theorem de_bl [Ghost] {i : Bool} {j : Nat} {pos : Pos} : DE X (.Constant (.bool i) j pos) (dC (.bl i)) := de_cst pe_bl fun F => by unfold Rp; rfl
theorem de_non [Ghost] {j : Nat} {pos : Pos} : DE X (.Constant .none j pos) (dC .non) := de_cst pe_non fun F => by unfold Rp; rfl
theorem de_str [Ghost] {x : Str} {j : Nat} {pos : Pos} (cs : List Nat) (h : x = mkS cs := by decide +kernel) : DE X (.Constant (.str x) j pos) (dC (.str cs)) := de_cst pe_str fun F => by unfold Rp; rw [h]
theorem de_glob [Ghost] {x : Str} {pos : Pos} {d : D} {v : V} {u : Value} (hg : Gl X x) (hm : X.mg x = some u) (r : RelV v u) (rp : ∀ F, Rp X.K F d v) (hd : (x == ("__debug__" : Str)) = false := by decide) : DE X (.Name x pos) (dC d) := de_cst (pe_glob hg hm r hd) rp
theorem de_ty [Ghost] {x : Str} {pos : Pos} (n : String) (hg : Gl X x) (hm : X.mg x = none) (hv : bootBuiltins x = some (.type n)) (hn : x ≠ "__name__" := by decide) (hd : (x == ("__debug__" : Str)) = false := by decide) : DE X (.Name x pos) (dC (.ty n)) := de_cst (pe_bltn (v := .ty n) hg hm hv rfl hn hd) fun F => by unfold Rp; rfl
end

/-! ### operators -/
abbrev DR2 := D → D → Mu → DK → Prop
def dOp (rd : DR2) (ua ub : DTE) : DTE := fun δ M Q => ua δ M fun x M1 => ub δ M1 fun y M2 => rd x y M2 Q
/-- what a rule by data says of a rule by values -/
def Rel2 [Ghost] (K : PySem.W.Frag) (r : R2) (rd : DR2) : Prop := ∀ x y vx vy H F M Qd Q, Rp K F x vx → Rp K F y vy → Sv K H F M → rd x y M Qd → Post K H F M Qd Q → r vx vy H Q
theorem OpR.or {X : Cx} {f : Value → Value → Sem Value} {r r' : R2} (h : OpR X f r) (h' : OpR X f r') : OpR X f (fun x y H Q => r x y H Q ∨ r' x y H Q) := fun pins s σ H x y v u Q I rx ry q => by
  rcases q with q | q
  · exact h pins s σ H x y v u Q I rx ry q
  · exact h' pins s σ H x y v u Q I rx ry q
section
variable {X : Cx} {a b c : Expr} {ua ub uc : DTE} {pos : Pos}
theorem bin2 [Ghost] {r : R2} {rd : DR2} (hr : Rel2 X.K r rd) : ∀ σ H Q, lift X.K (dOp rd ua ub) σ H Q → tOp r (lift X.K ua) (lift X.K ub) σ H Q := fun σ H Q h => by
  obtain ⟨δ, M, F, Qd, hE, s, hu, p⟩ := h
  refine ⟨δ, M, F, _, hE, s, hu, fun x M1 F1 vx H1 q1 g1 s1 r1 => ?_⟩
  refine ⟨δ, M1, F1, _, hE.mono g1.le, s1, q1, fun y M2 F2 vy H2 q2 g2 s2 r2 => ?_⟩
  exact hr x y vx vy H2 F2 M2 Qd Q (r1.mono g2.le) r2 s2 q2 (p.go (g1.trans g2))
theorem de_op [Ghost] {op : Operator} {r : R2} {rd : DR2} (ho : OpR X (binaryOp op) r) (hr : Rel2 X.K r rd) (ha : DE X a ua) (hb : DE X b ub) : DE X (.BinOp a op b pos) (dOp rd ua ub) := PE.weak (pe_op ho ha hb) (bin2 hr)
theorem de_cmp [Ghost] {op : CmpOp} {r : R2} {rd : DR2} (ho : OpR X (compareOp op) r) (hr : Rel2 X.K r rd) (ha : DE X a ua) (hb : DE X b ub) (hm : behindInMarks op b = false) : DE X (.Compare a [op] [b] pos) (dOp rd ua ub) := PE.weak (pe_cmpR ho ha hb hm) (bin2 hr)
end
def DUn := D → Mu → DK → Prop
def dUn (rd : DUn) (ua : DTE) : DTE := fun δ M Q => ua δ M fun x M1 => rd x M1 Q
def Rel1 [Ghost] (K : PySem.W.Frag) (r : V → Hp → VK → Prop) (rd : DUn) : Prop := ∀ x vx H F M Qd Q, Rp K F x vx → Sv K H F M → rd x M Qd → Post K H F M Qd Q → r vx H Q
section
variable {X : Cx} {a b c : Expr} {ua ub uc : DTE} {pos : Pos}
theorem un1 [Ghost] {r : V → Hp → VK → Prop} {rd : DUn} (hr : Rel1 X.K r rd) : ∀ σ H Q, lift X.K (dUn rd ua) σ H Q → tUn r (lift X.K ua) σ H Q := fun σ H Q h => by
  obtain ⟨δ, M, F, Qd, hE, s, hu, p⟩ := h
  exact ⟨δ, M, F, _, hE, s, hu, fun x M1 F1 vx H1 q1 g1 s1 r1 => hr x vx H1 F1 M1 Qd Q r1 s1 q1 (p.go g1)⟩
theorem de_un [Ghost] {op : UnaryOp} {r : V → Hp → VK → Prop} {rd : DUn} (ho : UnR X (unaryOp op) r) (hr : Rel1 X.K r rd) (ha : DE X a ua) : DE X (.UnaryOp op a pos) (dUn rd ua) := PE.weak (pe_un ho ha) (un1 hr)
end

/-! ### sequences by data -/
/-- the items of a list -/
def dseq (M : Mu) : D → Option (List D)
  | .lst ds => some ds
  | .ref a => match M a with
    | some (.lst ds) => some ds
    | _ => none
  | _ => none
theorem dseq_at [Ghost] {K : PySem.W.Frag} {H F : Hp} {M : Mu} {d : D} {v : V} {ds : List D} (s : Sv K H F M) (r : Rp K F d v) (h : dseq M d = some ds) : ∃ a xs, v = .ref a ∧ H a = some (.lst xs) ∧ RpL K F ds xs := by
  cases d with
  | lst es =>
    unfold Rp at r
    obtain ⟨a, xs, e, h1, r1⟩ := r
    cases h
    exact ⟨a, xs, e, s.fh _ _ h1, r1⟩
  | ref a =>
    unfold Rp at r
    have h' : (match M a with | some (.lst ds) => some ds | _ => none) = some ds := h
    cases q : M a with
    | none => rw [q] at h'; cases h'
    | some o =>
      rw [q] at h'
      cases o with
      | lst es =>
        cases h'
        obtain ⟨ho, e, xs, e2, r1⟩ := s.mu a _ q
        subst e2
        exact ⟨a, xs, r, e, r1⟩
      | dic kvs => cases h'
  | _ => cases h
/-- a new list: one that stays, or (mu) one that may change -/
def dNew (mu : Bool) (ds : List D) (M : Mu) (Q : DK) : Prop := match mu with
  | false => Q (.lst ds) M
  | true => ∀ p, M p = none → Q (.ref p) (mset M p (.lst ds))
theorem dNew_at [Ghost] {K : PySem.W.Frag} {H F : Hp} {M : Mu} {mu : Bool} {ds : List D} {xs : List V} {Qd : DK} {Q : VK} {p : Addr} (s : Sv K H F M) (r : RpL K F ds xs) (h : dNew mu ds M Qd) (po : Post K H F M Qd Q) (hp : H p = none) : Q (.ref p) (upd H p (.lst xs)) := by
  cases mu with
  | false =>
    obtain ⟨s1, g1⟩ := s.newF (o := .lst xs) hp
    refine po _ _ _ _ _ h g1 s1 ?_
    unfold Rp
    exact ⟨p, xs, rfl, upd_same, r.mono g1.le⟩
  | true =>
    obtain ⟨s1, g1⟩ := s.newM (o := .lst ds) (ho := .lst xs) hp ⟨xs, rfl, r⟩
    refine po _ _ _ _ _ (h p (s.fresh hp).2) g1 s1 ?_
    unfold Rp
    rfl
theorem newT_at [Ghost] {K : PySem.W.Frag} {H F : Hp} {M : Mu} {ds : List D} {xs : List V} {Qd : DK} {Q : VK} {p : Addr} (s : Sv K H F M) (r : RpL K F ds xs) (h : Qd (.tup ds) M) (po : Post K H F M Qd Q) (hp : H p = none) : Q (.ref p) (upd H p (.tup xs)) := by
  obtain ⟨s1, g1⟩ := s.newF (o := .tup xs) hp
  refine po _ _ _ _ _ h g1 s1 ?_
  unfold Rp
  exact ⟨p, xs, rfl, .inl (.inl upd_same), r.mono g1.le⟩

/-! ### + -/
def dAdd (mu : Bool) : DR2
  | .int i, .int j, M, Q => Q (.int (i + j)) M
  | .str a, .str b, M, Q => a.length + b.length ≤ sizeLine ∧ Q (.str (a ++ b)) M
  | .tup a, .tup b, M, Q => a.length + b.length ≤ sizeLine ∧ Q (.tup (a ++ b)) M
  | x, y, M, Q => match dseq M x, dseq M y with
    | some a, some b => a.length + b.length ≤ sizeLine ∧ dNew mu (a ++ b) M Q
    | _, _ => False
def rAddAll (K : PySem.W.Frag) : R2 := fun x y H Q => ((rI0 (fun i j => .int (i + j))) x y H Q ∨ (∃ i j, x = .str i ∧ y = .str j ∧ i.length + j.length ≤ sizeLine ∧ Q (.str (i ++ j)) H)) ∨ (rCatA K x y H Q ∨ rCat x y H Q)
theorem op_addAll {X : Cx} : OpR X (binaryOp .Add) (rAddAll X.K) := OpR.or (OpR.or op_add op_add_str) (OpR.or op_catA op_cat)
theorem rel_cat [Ghost] {K : PySem.W.Frag} {mu : Bool} {x y : D} {vx vy : V} {H F : Hp} {M : Mu} {Qd : DK} {Q : VK} (rx : Rp K F x vx) (ry : Rp K F y vy) (s : Sv K H F M) (po : Post K H F M Qd Q)
    (h : match dseq M x, dseq M y with | some a, some b => a.length + b.length ≤ sizeLine ∧ dNew mu (a ++ b) M Qd | _, _ => False) : rCat vx vy H Q := by
  cases qx : dseq M x with
  | none => rw [qx] at h; exact h.elim
  | some a =>
    cases qy : dseq M y with
    | none => rw [qx, qy] at h; exact h.elim
    | some b =>
      rw [qx, qy] at h
      obtain ⟨hl, h⟩ := h
      obtain ⟨p, xs, e1, h1, r1⟩ := dseq_at s rx qx
      obtain ⟨q, ys, e2, h2, r2⟩ := dseq_at s ry qy
      exact ⟨p, q, xs, ys, e1, e2, h1, h2, by rw [← r1.len, ← r2.len]; exact hl, fun l hl => dNew_at s (r1.app r2) h po hl⟩
theorem rel_add [Ghost] {K : PySem.W.Frag} {mu : Bool} : Rel2 K (rAddAll K) (dAdd mu) := by
  intro x y vx vy H F M Qd Q rx ry s h po
  unfold dAdd at h
  split at h
  · unfold Rp at rx ry
    exact .inl (.inl ⟨_, _, rx, ry, po.fin s h (by unfold Rp; rfl)⟩)
  · unfold Rp at rx ry
    obtain ⟨hl, h⟩ := h
    refine .inl (.inr ⟨_, _, rx, ry, by rw [mkS_len, mkS_len]; exact hl, po.fin s h (by unfold Rp; rw [mkS_app])⟩)
  · unfold Rp at rx ry
    obtain ⟨a, xs, e1, h1, r1⟩ := rx
    obtain ⟨b, ys, e2, h2, r2⟩ := ry
    obtain ⟨hl, h⟩ := h
    rename_i as bs
    refine .inr (.inl ⟨a, b, xs, ys, e1, e2, s.fh.sqT h1, s.fh.sqT h2, by rw [← r1.len, ← r2.len]; exact hl, fun z => ?_, fun _ z => ?_, fun _ _ p hp => newT_at s (r1.app r2) h po hp⟩)
    · subst z
      have ha : as = [] := List.length_eq_zero_iff.mp (by rw [r1.len]; rfl)
      subst ha
      exact po.fin s h (by unfold Rp; exact ⟨b, ys, rfl, h2, r2⟩)
    · subst z
      have hb : bs = [] := List.length_eq_zero_iff.mp (by rw [r2.len]; rfl)
      subst hb
      rw [List.append_nil] at h
      exact po.fin s h (by unfold Rp; exact ⟨a, xs, rfl, h1, r1⟩)
  · exact .inr (.inr (rel_cat rx ry s po h))

/-! ### other arithmetic -/
def dSub : DR2
  | .int i, .int j, M, Q => Q (.int (i - j)) M
  | _, _, _, _ => False
theorem rel_sub [Ghost] {K : PySem.W.Frag} : Rel2 K (rI0 fun i j => .int (i - j)) dSub := by
  intro x y vx vy H F M Qd Q rx ry s h po
  unfold dSub at h
  split at h
  · unfold Rp at rx ry
    exact ⟨_, _, rx, ry, po.fin s h (by unfold Rp; rfl)⟩
  · exact h.elim
def CMulD (i j : Int) : Prop := CMulX i j
def dMul (mu : Bool) : DR2
  | .int i, .int j, M, Q => CMulX i j ∧ Q (.int (i * j)) M
  | x, .int k, M, Q => match dseq M x with
    | some a => -(2 ^ 63) ≤ k ∧ k < 2 ^ 63 ∧ a.length * k.toNat ≤ sizeLine ∧ dNew mu (List.replicate k.toNat a).flatten M Q
    | none => False
  | _, _, _, _ => False
theorem RpL.rep {K : PySem.W.Frag} {F : Hp} {ds : List D} {xs : List V} (h : RpL K F ds xs) : ∀ k : Nat, RpL K F (List.replicate k ds).flatten (List.replicate k xs).flatten
  | 0 => RpL.nil
  | k + 1 => by
    rw [List.replicate_succ, List.replicate_succ, List.flatten_cons, List.flatten_cons]
    exact h.app (RpL.rep h k)
def rMulAll : R2 := fun x y H Q => (rI CMulX (fun i j => .int (i * j))) x y H Q ∨ rRep x y H Q
theorem op_mulAll {X : Cx} : OpR X (binaryOp .Mult) rMulAll := OpR.or op_mulX op_rep
theorem rel_mul [Ghost] {K : PySem.W.Frag} {mu : Bool} : Rel2 K rMulAll (dMul mu) := by
  intro x y vx vy H F M Qd Q rx ry s h po
  unfold dMul at h
  split at h
  · unfold Rp at rx ry
    exact .inl ⟨_, _, rx, ry, h.1, po.fin s h.2 (by unfold Rp; rfl)⟩
  · split at h
    · rename_i a e
      obtain ⟨h1, h2, h3, h4⟩ := h
      obtain ⟨p, xs, e1, e2, r1⟩ := dseq_at s rx e
      unfold Rp at ry
      exact .inr ⟨p, _, xs, e1, ry, e2, h1, h2, by rw [← r1.len]; exact h3, fun l hl => dNew_at s (r1.rep _) h4 po hl⟩
    · exact h.elim
  · exact h.elim
def CDivX (j : Int) : Prop := j ≠ 0 ∧ j.natAbs.log2 < 9000
def dFdiv : DR2
  | .int i, .int j, M, Q => CDivX j ∧ Q (.int (i.fdiv j)) M
  | _, _, _, _ => False
theorem op_fdivX {X : Cx} : OpR X (binaryOp .FloorDiv) (rI (fun _ j => CDivX j) fun i j => .int (i.fdiv j)) := opI fun _ _ _ _ _ _ _ hc q => floordiv_int hc.1 q (.inl (PyProof.noPylong_of_log2 hc.2))
theorem rel_fdiv [Ghost] {K : PySem.W.Frag} : Rel2 K (rI (fun _ j => CDivX j) fun i j => .int (i.fdiv j)) dFdiv := by
  intro x y vx vy H F M Qd Q rx ry s h po
  unfold dFdiv at h
  split at h
  · unfold Rp at rx ry
    exact ⟨_, _, rx, ry, h.1, po.fin s h.2 (by unfold Rp; rfl)⟩
  · exact h.elim
def dMod : DR2
  | .int i, .int j, M, Q => j ≠ 0 ∧ Q (.int (i.fmod j)) M
  | _, _, _, _ => False
theorem rel_mod [Ghost] {K : PySem.W.Frag} : Rel2 K (rI (fun _ j => j ≠ 0) fun i j => .int (i.fmod j)) dMod := by
  intro x y vx vy H F M Qd Q rx ry s h po
  unfold dMod at h
  split at h
  · unfold Rp at rx ry
    exact ⟨_, _, rx, ry, h.1, po.fin s h.2 (by unfold Rp; rfl)⟩
  · exact h.elim
def dPow : DR2
  | .int i, .int j, M, Q => CPow i j ∧ Q (.int (i ^ j.toNat)) M
  | _, _, _, _ => False
theorem rel_pow [Ghost] {K : PySem.W.Frag} : Rel2 K (rI CPow fun i j => .int (i ^ j.toNat)) dPow := by
  intro x y vx vy H F M Qd Q rx ry s h po
  unfold dPow at h
  split at h
  · unfold Rp at rx ry
    exact ⟨_, _, rx, ry, h.1, po.fin s h.2 (by unfold Rp; rfl)⟩
  · exact h.elim
def dShl : DR2
  | .int i, .int j, M, Q => CShl i j ∧ Q (.int (i * 2 ^ j.toNat)) M
  | _, _, _, _ => False
theorem rel_shl [Ghost] {K : PySem.W.Frag} : Rel2 K (rI CShl fun i j => .int (i * 2 ^ j.toNat)) dShl := by
  intro x y vx vy H F M Qd Q rx ry s h po
  unfold dShl at h
  split at h
  · unfold Rp at rx ry
    exact ⟨_, _, rx, ry, h.1, po.fin s h.2 (by unfold Rp; rfl)⟩
  · exact h.elim
def dNeg : DUn
  | .int i, M, Q => Q (.int (-i)) M
  | _, _, _ => False
theorem rel_neg [Ghost] {K : PySem.W.Frag} : Rel1 K (rU fun i => .int (-i)) dNeg := by
  intro x vx H F M Qd Q rx s h po
  unfold dNeg at h
  split at h
  · unfold Rp at rx
    exact ⟨_, rx, po.fin s h (by unfold Rp; rfl)⟩
  · exact h.elim
section
variable {X : Cx} {a b c : Expr} {ua ub uc : DTE} {pos : Pos}
theorem de_add [Ghost] (mu : Bool) (ha : DE X a ua) (hb : DE X b ub) : DE X (.BinOp a .Add b pos) (dOp (dAdd mu) ua ub) := de_op op_addAll rel_add ha hb
theorem de_sub [Ghost] (ha : DE X a ua) (hb : DE X b ub) : DE X (.BinOp a .Sub b pos) (dOp dSub ua ub) := de_op op_sub rel_sub ha hb
theorem de_mul [Ghost] (mu : Bool) (ha : DE X a ua) (hb : DE X b ub) : DE X (.BinOp a .Mult b pos) (dOp (dMul mu) ua ub) := de_op op_mulAll rel_mul ha hb
theorem de_fdiv [Ghost] (ha : DE X a ua) (hb : DE X b ub) : DE X (.BinOp a .FloorDiv b pos) (dOp dFdiv ua ub) := de_op op_fdivX rel_fdiv ha hb
theorem de_mod [Ghost] (ha : DE X a ua) (hb : DE X b ub) : DE X (.BinOp a .Mod b pos) (dOp dMod ua ub) := de_op op_modN rel_mod ha hb
theorem de_pow [Ghost] (ha : DE X a ua) (hb : DE X b ub) : DE X (.BinOp a .Pow b pos) (dOp dPow ua ub) := de_op op_pow rel_pow ha hb
theorem de_shl [Ghost] (ha : DE X a ua) (hb : DE X b ub) : DE X (.BinOp a .LShift b pos) (dOp dShl ua ub) := de_op op_shlW rel_shl ha hb
theorem de_neg [Ghost] (ha : DE X a ua) : DE X (.UnaryOp .USub a pos) (dUn dNeg ua) := de_un un_neg rel_neg ha
end

/-! ### comparisons -/
mutual
def pyd : D → Option PyData
  | .non => some .none
  | .bl b => some (.bool b)
  | .int i => some (.int i)
  | .str cs => some (.str (mkS cs))
  | .tup ds => (pydL ds).map .tuple
  | .lst ds => (pydL ds).map .list
  | .src ns => some (.list (ns.map .int))
  | _ => none
def pydL : List D → Option (List PyData)
  | [] => some []
  | d :: ds => match pyd d, pydL ds with
    | some p, some ps => some (p :: ps)
    | _, _ => none
end
theorem dpAll_ints {K : PySem.W.Frag} {H : Hp} : ∀ ns : List Int, DpAll K H (ns.map V.int) (ns.map PyData.int)
  | [] => .nil
  | n :: ns => .cons (.int n) (dpAll_ints ns)
mutual
theorem pyd_at {K : PySem.W.Frag} {H F : Hp} (l : Le F H) : ∀ {d : D} {v : V} {p : PyData}, Rp K F d v → pyd d = some p → Dp K H v p
  | .non, _, _, r, e => by unfold Rp at r; unfold pyd at e; cases e; subst r; exact .non
  | .bl _, _, _, r, e => by unfold Rp at r; unfold pyd at e; cases e; subst r; exact .bl _
  | .int _, _, _, r, e => by unfold Rp at r; unfold pyd at e; cases e; subst r; exact .int _
  | .str _, _, _, r, e => by unfold Rp at r; unfold pyd at e; cases e; subst r; exact .str _
  | .ref _, _, _, r, e => by unfold pyd at e; cases e
  | .ty _, _, _, r, e => by unfold pyd at e; cases e
  | .src ns, _, _, r, e => by
    unfold Rp at r; unfold pyd at e; cases e
    obtain ⟨a, e1, h1⟩ := r
    subst e1
    exact .lst (l.sqL h1) (dpAll_ints ns)
  | .tup ds, _, _, r, e => by
    unfold Rp at r; unfold pyd at e
    obtain ⟨a, xs, e1, h1, r1⟩ := r
    subst e1
    cases q : pydL ds with
    | none => rw [q] at e; cases e
    | some ps => rw [q] at e; cases e; exact .tup (l.sqT h1) (pydL_at l r1 q)
  | .lst ds, _, _, r, e => by
    unfold Rp at r; unfold pyd at e
    obtain ⟨a, xs, e1, h1, r1⟩ := r
    subst e1
    cases q : pydL ds with
    | none => rw [q] at e; cases e
    | some ps => rw [q] at e; cases e; exact .lst (.inl (.inl (l _ _ h1))) (pydL_at l r1 q)
theorem pydL_at {K : PySem.W.Frag} {H F : Hp} (l : Le F H) : ∀ {ds : List D} {vs : List V} {ps : List PyData}, RpL K F ds vs → pydL ds = some ps → DpAll K H vs ps
  | [], _, _, r, e => by unfold RpL at r; unfold pydL at e; cases e; subst r; exact .nil
  | d :: ds, _, _, r, e => by
    unfold RpL at r
    obtain ⟨x, xs, e1, r1, r2⟩ := r
    subst e1
    unfold pydL at e
    cases q1 : pyd d with
    | none => rw [q1] at e; cases e
    | some p =>
      cases q2 : pydL ds with
      | none => rw [q1, q2] at e; cases e
      | some ps =>
        rw [q1, q2] at e; cases e
        exact .cons (pyd_at l r1 q1) (pydL_at l r2 q2)
end
/-- a list that may change, as data at its top -/
def pydM (M : Mu) : D → Option PyData
  | .ref a => match M a with
    | some (.lst ds) => (pydL ds).map .list
    | _ => none
  | d => pyd d
theorem pydM_at [Ghost] {K : PySem.W.Frag} {H F : Hp} {M : Mu} (s : Sv K H F M) {d : D} {v : V} {p : PyData} (r : Rp K F d v) (e : pydM M d = some p) : Dp K H v p := by
  cases d with
  | ref a =>
    unfold Rp at r
    subst r
    have e' : (match M a with | some (.lst ds) => (pydL ds).map .list | _ => none) = some p := e
    cases q : M a with
    | none => rw [q] at e'; cases e'
    | some o =>
      rw [q] at e'
      cases o with
      | dic _ => cases e'
      | lst ds =>
        obtain ⟨ho, e2, xs, e3, r1⟩ := s.mu a _ q
        subst e3
        have e4 : (pydL ds).map PyData.list = some p := e'
        cases q2 : pydL ds with
        | none => rw [q2] at e4; cases e4
        | some ps => rw [q2] at e4; cases e4; exact .lst (.inl (.inl e2)) (pydL_at s.fh r1 q2)
  | _ => exact pyd_at s.fh r e
/-- data whose == is told -/
def dEqv (M : Mu) (x y : D) (Q : Bool → Prop) : Prop := match x, y with
  | .int i, .int j => Q (decide (i = j))
  | .str a, .str b => Q (decide (a = b))
  | .bl a, .bl b => Q (decide (a = b))
  | .non, .non => Q true
  | .non, .int _ => Q false
  | .int _, .non => Q false
  | .non, .str _ => Q false
  | .str _, .non => Q false
  | .non, .bl _ => Q false
  | .bl _, .non => Q false
  | .int _, .str _ => Q false
  | .str _, .int _ => Q false
  | x, y => ∃ d e, pydM M x = some d ∧ pydM M y = some e ∧ SeqAt.shaped d = true ∧ SeqAt.shaped e = true ∧ Q (PyData.eqv d e)
def dEq : DR2 := fun x y M Q => dEqv M x y fun b => Q (.bl b) M
def dNe : DR2 := fun x y M Q => dEqv M x y fun b => Q (.bl (!b)) M
def rEqAll (K : PySem.W.Frag) : R2 := fun x y H Q => rEq x y H Q ∨ rEqD K x y H Q
def rNeAll (K : PySem.W.Frag) : R2 := fun x y H Q => rNe x y H Q ∨ rNeD K x y H Q
theorem dec_mkS (a b : List Nat) : decide (V.str (mkS a) = V.str (mkS b)) = decide (a = b) := by
  by_cases e : a = b
  · subst e; simp
  · rw [decide_eq_false e]
    exact decide_eq_false fun z => e (mkS_inj (V.str.inj z))
theorem rel_eqv [Ghost] {K : PySem.W.Frag} {x y : D} {vx vy : V} {H F : Hp} {M : Mu} {Qd : Bool → Prop} {Q : Bool → Prop} (rx : Rp K F x vx) (ry : Rp K F y vy) (s : Sv K H F M) (h : dEqv M x y Qd) (po : ∀ b, Qd b → Q b) :
    (scal vx vy = true ∧ Q (decide (vx = vy))) ∨ ∃ d e, Dp K H vx d ∧ Dp K H vy e ∧ SeqAt.shaped d = true ∧ SeqAt.shaped e = true ∧ Q (PyData.eqv d e) := by
  unfold dEqv at h
  split at h
  · unfold Rp at rx ry; subst rx ry
    refine .inl ⟨rfl, ?_⟩
    rename_i i j
    have e : decide (V.int i = V.int j) = decide (i = j) := by rw [dec_int]; rfl
    rw [e]; exact po _ h
  · unfold Rp at rx ry; subst rx ry
    refine .inl ⟨rfl, ?_⟩
    rw [dec_mkS]; exact po _ h
  · unfold Rp at rx ry; subst rx ry
    refine .inl ⟨rfl, ?_⟩
    rename_i i j
    have e : decide (V.bl i = V.bl j) = decide (i = j) := by cases i <;> cases j <;> rfl
    rw [e]; exact po _ h
  · unfold Rp at rx ry; subst rx ry
    exact .inl ⟨rfl, po _ h⟩
  all_goals first
    | (unfold Rp at rx ry; subst rx ry; exact .inl ⟨rfl, by rw [decide_eq_false (by intro z; cases z)]; exact po _ h⟩)
    | skip
  obtain ⟨d, e, e1, e2, s1, s2, q⟩ := h
  exact .inr ⟨d, e, pydM_at s rx e1, pydM_at s ry e2, s1, s2, po _ q⟩
theorem rel_eq [Ghost] {K : PySem.W.Frag} : Rel2 K (rEqAll K) dEq := by
  intro x y vx vy H F M Qd Q rx ry s h po
  rcases rel_eqv (Q := fun b => Q (.bl b) H) rx ry s h (fun b q => po.fin s q (by unfold Rp; rfl)) with h | h
  · exact .inl h
  · exact .inr h
theorem rel_ne [Ghost] {K : PySem.W.Frag} : Rel2 K (rNeAll K) dNe := by
  intro x y vx vy H F M Qd Q rx ry s h po
  rcases rel_eqv (Q := fun b => Q (.bl (!b)) H) rx ry s h (fun b q => po.fin s q (by unfold Rp; rfl)) with h | h
  · exact .inl h
  · exact .inr h
theorem op_eqAll {X : Cx} (hu : X.A.units + 64 < cLine) : OpR X (compareOp .Eq) (rEqAll X.K) := OpR.or op_eq (op_eqD hu)
theorem op_neAll {X : Cx} (hu : X.A.units + 64 < cLine) : OpR X (compareOp .NotEq) (rNeAll X.K) := OpR.or op_ne (op_neD hu)
def dLt : DR2
  | .int i, .int j, M, Q => Q (.bl (decide (i < j))) M
  | .str a, .str b, M, Q => Q (.bl (decide (a < b))) M
  | _, _, _, _ => False
def dGt : DR2
  | .int i, .int j, M, Q => Q (.bl (decide (j < i))) M
  | .str a, .str b, M, Q => Q (.bl (decide (b < a))) M
  | _, _, _, _ => False
def dLe : DR2
  | .int i, .int j, M, Q => Q (.bl (decide (i ≤ j))) M
  | .str a, .str b, M, Q => Q (.bl (!decide (b < a))) M
  | _, _, _, _ => False
def dGe : DR2
  | .int i, .int j, M, Q => Q (.bl (decide (j ≤ i))) M
  | .str a, .str b, M, Q => Q (.bl (!decide (a < b))) M
  | _, _, _, _ => False
def rCmpAll (f : Int → Int → Bool) (g : List Nat → List Nat → Bool) : R2 := fun x y H Q => (rI0 fun i j => .bl (f i j)) x y H Q ∨ (∃ i j, x = .str i ∧ y = .str j ∧ Q (.bl (g i.cps.toList j.cps.toList)) H)
theorem op_ltAll {X : Cx} : OpR X (compareOp .Lt) (rCmpAll (fun i j => decide (i < j)) fun a b => decide (a < b)) := OpR.or op_lt op_lt_str
theorem op_gtAll {X : Cx} : OpR X (compareOp .Gt) (rCmpAll (fun i j => decide (j < i)) fun a b => decide (b < a)) := OpR.or op_gt op_gt_str
theorem op_leAll {X : Cx} : OpR X (compareOp .LtE) (rCmpAll (fun i j => decide (i ≤ j)) fun a b => !decide (b < a)) := OpR.or op_le op_le_str
theorem op_geAll {X : Cx} : OpR X (compareOp .GtE) (rCmpAll (fun i j => decide (j ≤ i)) fun a b => !decide (a < b)) := OpR.or op_ge op_ge_str
theorem rel_lt [Ghost] {K : PySem.W.Frag} : Rel2 K (rCmpAll (fun i j => decide (i < j)) fun a b => decide (a < b)) dLt := by
  intro x y vx vy H F M Qd Q rx ry s h po
  unfold dLt at h
  split at h
  · unfold Rp at rx ry; exact .inl ⟨_, _, rx, ry, po.fin s h (by unfold Rp; rfl)⟩
  · unfold Rp at rx ry; exact .inr ⟨_, _, rx, ry, po.fin s h (by unfold Rp; rfl)⟩
  · exact h.elim
theorem rel_gt [Ghost] {K : PySem.W.Frag} : Rel2 K (rCmpAll (fun i j => decide (j < i)) fun a b => decide (b < a)) dGt := by
  intro x y vx vy H F M Qd Q rx ry s h po
  unfold dGt at h
  split at h
  · unfold Rp at rx ry; exact .inl ⟨_, _, rx, ry, po.fin s h (by unfold Rp; rfl)⟩
  · unfold Rp at rx ry; exact .inr ⟨_, _, rx, ry, po.fin s h (by unfold Rp; rfl)⟩
  · exact h.elim
theorem rel_le [Ghost] {K : PySem.W.Frag} : Rel2 K (rCmpAll (fun i j => decide (i ≤ j)) fun a b => !decide (b < a)) dLe := by
  intro x y vx vy H F M Qd Q rx ry s h po
  unfold dLe at h
  split at h
  · unfold Rp at rx ry; exact .inl ⟨_, _, rx, ry, po.fin s h (by unfold Rp; rfl)⟩
  · unfold Rp at rx ry; exact .inr ⟨_, _, rx, ry, po.fin s h (by unfold Rp; rfl)⟩
  · exact h.elim
theorem rel_ge [Ghost] {K : PySem.W.Frag} : Rel2 K (rCmpAll (fun i j => decide (j ≤ i)) fun a b => !decide (a < b)) dGe := by
  intro x y vx vy H F M Qd Q rx ry s h po
  unfold dGe at h
  split at h
  · unfold Rp at rx ry; exact .inl ⟨_, _, rx, ry, po.fin s h (by unfold Rp; rfl)⟩
  · unfold Rp at rx ry; exact .inr ⟨_, _, rx, ry, po.fin s h (by unfold Rp; rfl)⟩
  · exact h.elim
def isNon : D → Bool
  | .non => true
  | _ => false
theorem isNon_at {K : PySem.W.Frag} {F : Hp} {d : D} {v : V} (r : Rp K F d v) : decide (v = .non) = isNon d := by
  cases d with
  | non => unfold Rp at r; subst r; rfl
  | bl _ => unfold Rp at r; subst r; rfl
  | int _ => unfold Rp at r; subst r; rfl
  | str _ => unfold Rp at r; subst r; rfl
  | ref _ => unfold Rp at r; subst r; rfl
  | ty _ => unfold Rp at r; subst r; rfl
  | src _ => unfold Rp at r; obtain ⟨a, e, _⟩ := r; subst e; rfl
  | tup _ => unfold Rp at r; obtain ⟨a, _, e, _⟩ := r; subst e; rfl
  | lst _ => unfold Rp at r; obtain ⟨a, _, e, _⟩ := r; subst e; rfl
  | exc _ _ _ _ _ => unfold Rp at r; obtain ⟨e, _⟩ := r; subst e; rfl
def dIsN : DR2 := fun x y M Q => isNon y = true ∧ Q (.bl (isNon x)) M
def dNotN : DR2 := fun x y M Q => isNon y = true ∧ Q (.bl (!isNon x)) M
theorem non_at {K : PySem.W.Frag} {F : Hp} {d : D} {v : V} (r : Rp K F d v) (h : isNon d = true) : v = .non := by
  rw [← isNon_at r] at h
  exact of_decide_eq_true h
theorem rel_isN [Ghost] {K : PySem.W.Frag} : Rel2 K (fun x y H Q => y = .non ∧ Q (.bl (decide (x = .non))) H) dIsN := fun x y vx vy H F M Qd Q rx ry s h po =>
  ⟨non_at ry h.1, po.fin s h.2 (by unfold Rp; rw [isNon_at rx])⟩
theorem rel_notN [Ghost] {K : PySem.W.Frag} : Rel2 K (fun x y H Q => y = .non ∧ Q (.bl (!decide (x = .non))) H) dNotN := fun x y vx vy H F M Qd Q rx ry s h po =>
  ⟨non_at ry h.1, po.fin s h.2 (by unfold Rp; rw [isNon_at rx])⟩
/-! ### in -/
def flatD : D → Bool
  | .non => true
  | .bl _ => true
  | .int _ => true
  | .str _ => true
  | _ => false
def eqFl : D → D → Bool
  | .non, .non => true
  | .bl a, .bl b => a == b
  | .bl a, .int b => (if a then 1 else 0) == b
  | .int a, .bl b => a == (if b then 1 else 0)
  | .int a, .int b => decide (a = b)
  | .str a, .str b => decide (a = b)
  | _, _ => false
theorem flat_of {K : PySem.W.Frag} {F : Hp} {d : D} {v : V} (r : Rp K F d v) (h : flatD d = true) : flatV v = true := by
  cases d <;> first | (cases h; done) | (unfold Rp at r; subst r; rfl)
theorem eqFl_of {K : PySem.W.Frag} {F : Hp} {d e : D} {v u : V} (r : Rp K F d v) (q : Rp K F e u) (h : flatD d = true) (h' : flatD e = true) : eqV v u = eqFl d e := by
  cases d <;> first | (cases h; done) | (cases e <;> first | (cases h'; done) | (unfold Rp at r q; subst r q; first | rfl | skip))
  · rename_i a b
    show (mkS a == mkS b) = decide (a = b)
    by_cases e : a = b
    · subst e; simp
    · rw [decide_eq_false e]
      exact beq_eq_false_iff_ne.mpr fun z => e (mkS_inj z)
theorem flats_of {K : PySem.W.Frag} {F : Hp} : ∀ {ds : List D} {vs : List V}, RpL K F ds vs → ds.all flatD = true → vs.all flatV = true
  | [], _, r, _ => by unfold RpL at r; subst r; rfl
  | d :: ds, _, r, h => by
    unfold RpL at r
    obtain ⟨x, xs, e, r1, r2⟩ := r
    subst e
    rw [List.all_cons, Bool.and_eq_true] at h ⊢
    exact ⟨flat_of r1 h.1, flats_of r2 h.2⟩
def inD (x : D) (ds : List D) : Bool := ds.any fun y => eqFl y x
theorem inD_of {K : PySem.W.Frag} {F : Hp} {x : D} {vx : V} (rx : Rp K F x vx) (hx : flatD x = true) : ∀ {ds : List D} {vs : List V}, RpL K F ds vs → ds.all flatD = true → inV vx vs = inD x ds
  | [], _, r, _ => by unfold RpL at r; subst r; rfl
  | d :: ds, _, r, h => by
    unfold RpL at r
    obtain ⟨y, xs, e, r1, r2⟩ := r
    subst e
    rw [List.all_cons, Bool.and_eq_true] at h
    have ih := inD_of rx hx r2 h.2
    unfold inV inD at ih ⊢
    rw [List.any_cons, List.any_cons, eqFl_of r1 rx h.1 hx, ih]
/-- the items of a list, a tuple -/
def dits (M : Mu) : D → Option (List D)
  | .tup ds => some ds
  | .src ns => some (ns.map .int)
  | d => dseq M d
theorem dits_at [Ghost] {K : PySem.W.Frag} {H F : Hp} {M : Mu} {d : D} {v : V} {ds : List D} (s : Sv K H F M) (r : Rp K F d v) (h : dits M d = some ds) : ∃ a xs, v = .ref a ∧ (SqL K H a xs ∨ SqT K H a xs) ∧ RpL K F ds xs := by
  have old : dseq M d = some ds → ∃ a xs, v = .ref a ∧ (SqL K H a xs ∨ SqT K H a xs) ∧ RpL K F ds xs := fun q => by
    obtain ⟨a, xs, e, h1, r1⟩ := dseq_at s r q
    exact ⟨a, xs, e, .inl (.inl (.inl h1)), r1⟩
  cases d with
  | tup es =>
    unfold Rp at r
    obtain ⟨a, xs, e, h1, r1⟩ := r
    cases h
    exact ⟨a, xs, e, .inr (s.fh.sqT h1), r1⟩
  | src ns =>
    unfold Rp at r
    obtain ⟨a, e, h1⟩ := r
    cases h
    exact ⟨a, _, e, .inl (s.fh.sqL h1), RpL.ints⟩
  | _ => exact old h
def dInB (neg : Bool) : DR2 := fun x y M Q => match x, y with
  | .str [c], .str cs => Q (.bl (if neg then !decide (c ∈ cs) else decide (c ∈ cs))) M
  | x, y => match dits M y with
    | some ds => flatD x = true ∧ ds.all flatD = true ∧ Q (.bl (if neg then !inD x ds else inD x ds)) M
    | none => False
def rInAll (K : PySem.W.Frag) (neg : Bool) : R2 := fun x y H Q => (∃ (c : Nat) (z : Str), x = .str ⟨#[c]⟩ ∧ y = .str z ∧ Q (.bl (if neg then !decide (c ∈ z.cps.toList) else decide (c ∈ z.cps.toList))) H) ∨ rIn K neg x y H Q
theorem op_inAll {X : Cx} : OpR X (compareOp .In) (rInAll X.K false) := OpR.or op_in_sign op_in_seq
theorem op_ninAll {X : Cx} : OpR X (compareOp .NotIn) (rInAll X.K true) := OpR.or op_notIn_sign op_notIn_seq
theorem rel_in [Ghost] {K : PySem.W.Frag} {neg : Bool} : Rel2 K (rInAll K neg) (dInB neg) := by
  intro x y vx vy H F M Qd Q rx ry s h po
  unfold dInB at h
  split at h
  · unfold Rp at rx ry
    exact .inl ⟨_, _, rx, ry, po.fin s h (by unfold Rp; rfl)⟩
  · split at h
    · rename_i ds e
      obtain ⟨h1, h2, h3⟩ := h
      obtain ⟨a, xs, e1, hs, r1⟩ := dits_at s ry e
      refine .inr ⟨a, xs, e1, hs, flat_of rx h1, flats_of r1 h2, ?_⟩
      rw [inD_of rx h1 r1 h2]
      exact po.fin s h3 (by unfold Rp; rfl)
    · exact h.elim
section
variable {X : Cx} {a b c : Expr} {ua ub uc : DTE} {pos : Pos}
theorem de_eq [Ghost] (hu : X.A.units + 64 < cLine) (ha : DE X a ua) (hb : DE X b ub) : DE X (.Compare a [.Eq] [b] pos) (dOp dEq ua ub) := de_cmp (op_eqAll hu) rel_eq ha hb (nomark _)
theorem de_ne [Ghost] (hu : X.A.units + 64 < cLine) (ha : DE X a ua) (hb : DE X b ub) : DE X (.Compare a [.NotEq] [b] pos) (dOp dNe ua ub) := de_cmp (op_neAll hu) rel_ne ha hb (nomark _)
theorem de_lt [Ghost] (ha : DE X a ua) (hb : DE X b ub) : DE X (.Compare a [.Lt] [b] pos) (dOp dLt ua ub) := de_cmp op_ltAll rel_lt ha hb (nomark _)
theorem de_gt [Ghost] (ha : DE X a ua) (hb : DE X b ub) : DE X (.Compare a [.Gt] [b] pos) (dOp dGt ua ub) := de_cmp op_gtAll rel_gt ha hb (nomark _)
theorem de_le [Ghost] (ha : DE X a ua) (hb : DE X b ub) : DE X (.Compare a [.LtE] [b] pos) (dOp dLe ua ub) := de_cmp op_leAll rel_le ha hb (nomark _)
theorem de_ge [Ghost] (ha : DE X a ua) (hb : DE X b ub) : DE X (.Compare a [.GtE] [b] pos) (dOp dGe ua ub) := de_cmp op_geAll rel_ge ha hb (nomark _)
theorem de_isN [Ghost] (ha : DE X a ua) (hb : DE X b ub) : DE X (.Compare a [.Is] [b] pos) (dOp dIsN ua ub) := de_cmp op_isN rel_isN ha hb (nomark _)
theorem de_notN [Ghost] (ha : DE X a ua) (hb : DE X b ub) : DE X (.Compare a [.IsNot] [b] pos) (dOp dNotN ua ub) := de_cmp op_notN rel_notN ha hb (nomark _)
theorem de_in [Ghost] (ha : DE X a ua) (hb : DE X b ub) (hm : behindInMarks .In b = false := by rfl) : DE X (.Compare a [.In] [b] pos) (dOp (dInB false) ua ub) := de_cmp op_inAll rel_in ha hb hm
theorem de_nin [Ghost] (ha : DE X a ua) (hb : DE X b ub) (hm : behindInMarks .NotIn b = false := by rfl) : DE X (.Compare a [.NotIn] [b] pos) (dOp (dInB true) ua ub) := de_cmp op_ninAll rel_in ha hb hm
end
end DL

namespace DL
open PySem PySem.Spec PyProof.Rows L2 TL

/-! ### tests -/
def dTest (u : DTE) : DTT := fun δ M Q => u δ M fun d M1 => match d with
  | .bl b => Q b M1
  | _ => False
theorem lift_test [Ghost] {K : PySem.W.Frag} {u : DTE} {σ : L2.St} {H : Hp} {Q : Bool → Hp → Prop} (h : liftT K (dTest u) σ H Q) : lift K u σ H fun x H' => ∃ k, x = .bl k ∧ Q k H' := by
  obtain ⟨δ, M, F, Qd, hE, s, hu, p⟩ := h
  refine ⟨δ, M, F, _, hE, s, hu, fun d M' F' v H' q g s' r => ?_⟩
  cases d <;> first | exact False.elim q | skip
  unfold Rp at r
  subst r
  exact ⟨_, rfl, p _ _ _ _ q g s'⟩
/-- truth of data -/
def dTruB (M : Mu) (d : D) (Q : Bool → Prop) : Prop := match d with
  | .non => Q false
  | .bl b => Q b
  | .int i => Q (i != 0)
  | .str cs => cs.length ≤ sizeLine ∧ Q (!cs.isEmpty)
  | d => match dits M d with
    | some ds => Q (!ds.isEmpty)
    | none => False
def dTru (u : DTE) : DTT := fun δ M Q => u δ M fun d M1 => dTruB M1 d fun b => Q b M1
def dNot (t : DTT) : DTT := fun δ M Q => t δ M fun b M1 => Q (!b) M1
def dAnd (t u : DTT) : DTT := fun δ M Q => t δ M fun b M1 => match b with
  | true => u δ M1 Q
  | false => Q false M1
def dOr (t u : DTT) : DTT := fun δ M Q => t δ M fun b M1 => match b with
  | true => Q true M1
  | false => u δ M1 Q
def dIf (t : DTT) (ua ub : DTE) : DTE := fun δ M Q => t δ M fun b M1 => match b with
  | true => ua δ M1 Q
  | false => ub δ M1 Q
/-- and, or, not as values: all but the last True or False -/
def dAndV (ua ub : DTE) : DTE := fun δ M Q => ua δ M fun d M1 => match d with
  | .bl true => ub δ M1 Q
  | .bl false => Q (.bl false) M1
  | _ => False
def dOrV (ua ub : DTE) : DTE := fun δ M Q => ua δ M fun d M1 => match d with
  | .bl true => Q (.bl true) M1
  | .bl false => ub δ M1 Q
  | _ => False
def dNotV (ua : DTE) : DTE := fun δ M Q => ua δ M fun d M1 => match d with
  | .bl b => Q (.bl (!b)) M1
  | _ => False
theorem isEmpty_rel {K : PySem.W.Frag} {F : Hp} {ds : List D} {xs : List V} (r : RpL K F ds xs) : (!xs.isEmpty) = !ds.isEmpty := by
  have := r.len
  cases ds <;> cases xs <;> first | rfl | (simp at this)
theorem tru_rel [Ghost] {K : PySem.W.Frag} {H F : Hp} {M : Mu} {d : D} {v : V} {Q : Bool → Prop} (s : Sv K H F M) (r : Rp K F d v) (h : dTruB M d Q) : ∃ k, TruV K v H k ∧ Q k := by
  have old : (match dits M d with | some ds => Q (!ds.isEmpty) | none => False) → ∃ k, TruV K v H k ∧ Q k := fun h => by
    split at h
    · rename_i ds e
      obtain ⟨a, xs, e1, hs, r1⟩ := dits_at s r e
      subst e1
      refine ⟨_, ?_, h⟩
      rcases hs with hs | hs
      · exact .inl ⟨xs, hs, (isEmpty_rel r1).symm⟩
      · exact .inr (.inl ⟨xs, hs, (isEmpty_rel r1).symm⟩)
    · exact h.elim
  cases d with
  | non => unfold Rp at r; subst r; exact ⟨false, rfl, h⟩
  | bl b => unfold Rp at r; subst r; exact ⟨b, rfl, h⟩
  | int i => unfold Rp at r; subst r; exact ⟨_, rfl, h⟩
  | str cs =>
    unfold Rp at r
    subst r
    refine ⟨_, ⟨by rw [mkS_len]; exact h.1, rfl⟩, ?_⟩
    have e : (((mkS cs).length : Int) != 0) = !cs.isEmpty := by
      rw [mkS_len]
      cases cs with
      | nil => rfl
      | cons c cs => simp [bne]; omega
    rw [e]
    exact h.2
  | _ => exact old h
section
variable {X : Cx} {a b c : Expr} {ua ub uc : DTE} {t u : DTT} {pos : Pos} {rest : List Expr}
theorem dt_cmp [Ghost] {op : CmpOp} {r : R2} {rd : DR2} (ho : OpR X (compareOp op) r) (hr : Rel2 X.K r rd) (ha : DE X a ua) (hb : DE X b ub) (hm : behindInMarks op b = false) : DT X (.Compare a [op] [b] pos) (dTest (dOp rd ua ub)) :=
  PT.weak (pt_cmpR ho ha hb hm) fun σ H Q h => bin2 hr _ _ _ (lift_test h)
theorem dt_eq [Ghost] (hu : X.A.units + 64 < cLine) (ha : DE X a ua) (hb : DE X b ub) : DT X (.Compare a [.Eq] [b] pos) (dTest (dOp dEq ua ub)) := dt_cmp (op_eqAll hu) rel_eq ha hb (nomark _)
theorem dt_ne [Ghost] (hu : X.A.units + 64 < cLine) (ha : DE X a ua) (hb : DE X b ub) : DT X (.Compare a [.NotEq] [b] pos) (dTest (dOp dNe ua ub)) := dt_cmp (op_neAll hu) rel_ne ha hb (nomark _)
theorem dt_lt [Ghost] (ha : DE X a ua) (hb : DE X b ub) : DT X (.Compare a [.Lt] [b] pos) (dTest (dOp dLt ua ub)) := dt_cmp op_ltAll rel_lt ha hb (nomark _)
theorem dt_gt [Ghost] (ha : DE X a ua) (hb : DE X b ub) : DT X (.Compare a [.Gt] [b] pos) (dTest (dOp dGt ua ub)) := dt_cmp op_gtAll rel_gt ha hb (nomark _)
theorem dt_le [Ghost] (ha : DE X a ua) (hb : DE X b ub) : DT X (.Compare a [.LtE] [b] pos) (dTest (dOp dLe ua ub)) := dt_cmp op_leAll rel_le ha hb (nomark _)
theorem dt_ge [Ghost] (ha : DE X a ua) (hb : DE X b ub) : DT X (.Compare a [.GtE] [b] pos) (dTest (dOp dGe ua ub)) := dt_cmp op_geAll rel_ge ha hb (nomark _)
theorem dt_isN [Ghost] (ha : DE X a ua) (hb : DE X b ub) : DT X (.Compare a [.Is] [b] pos) (dTest (dOp dIsN ua ub)) := dt_cmp op_isN rel_isN ha hb (nomark _)
theorem dt_notN [Ghost] (ha : DE X a ua) (hb : DE X b ub) : DT X (.Compare a [.IsNot] [b] pos) (dTest (dOp dNotN ua ub)) := dt_cmp op_notN rel_notN ha hb (nomark _)
theorem dt_in [Ghost] (ha : DE X a ua) (hb : DE X b ub) (hm : behindInMarks .In b = false := by rfl) : DT X (.Compare a [.In] [b] pos) (dTest (dOp (dInB false) ua ub)) := dt_cmp op_inAll rel_in ha hb hm
theorem dt_nin [Ghost] (ha : DE X a ua) (hb : DE X b ub) (hm : behindInMarks .NotIn b = false := by rfl) : DT X (.Compare a [.NotIn] [b] pos) (dTest (dOp (dInB true) ua ub)) := dt_cmp op_ninAll rel_in ha hb hm
/-- an expression that gives True or False -/
theorem dt_val [Ghost] (h : DE X a ua) (he : ∀ whole, isTrue a X.env whole = (do let v ← whole; standAt a.pos; holding [v] (truthy v)) := by intro _; rfl) : DT X a (dTest ua) := PT.weak (pt_val h he) fun σ H Q h => lift_test h
theorem dt_tru [Ghost] (h : DE X a ua) (he : ∀ whole, isTrue a X.env whole = (do let v ← whole; standAt a.pos; holding [v] (truthy v)) := by intro _; rfl) : DT X a (dTru ua) := by
  refine PT.weak (pt_truth h he) fun σ H Q h => ?_
  obtain ⟨δ, M, F, Qd, hE, s, hu, p⟩ := h
  refine ⟨δ, M, F, _, hE, s, hu, fun d M' F' v H' q g s' r => ?_⟩
  obtain ⟨k, tk, q⟩ := tru_rel s' r q
  exact ⟨k, tk, p _ _ _ _ q g s'⟩
theorem dt_not [Ghost] (h : DT X a t) : DT X (.UnaryOp .Not a pos) (dNot t) := by
  refine PT.weak (pt_not h) fun σ H Q h => ?_
  obtain ⟨δ, M, F, Qd, hE, s, hu, p⟩ := h
  exact ⟨δ, M, F, _, hE, s, hu, fun d M' F' H' q g s' => p _ _ _ _ q g s'⟩
theorem dw_and1 [Ghost] (h : DT X a t) : DW X (.BoolOp .And [a] pos) t := pw_and1 h
theorem dw_or1 [Ghost] (h : DT X a t) : DW X (.BoolOp .Or [a] pos) t := pw_or1 h
theorem dw_and [Ghost] (ha : DT X a t) (hb : DW X (.BoolOp .And (b :: rest) pos) u) : DW X (.BoolOp .And (a :: b :: rest) pos) (dAnd t u) := by
  refine PW.weak (pw_and ha hb) fun σ H Q h => ?_
  obtain ⟨δ, M, F, Qd, hE, s, hu, p⟩ := h
  refine ⟨δ, M, F, _, hE, s, hu, fun d M' F' H' q g s' => ?_⟩
  cases d with
  | true => exact ⟨δ, M', F', Qd, hE.mono g.le, s', q, p.go g⟩
  | false => exact p _ _ _ _ q g s'
theorem dw_or [Ghost] (ha : DT X a t) (hb : DW X (.BoolOp .Or (b :: rest) pos) u) : DW X (.BoolOp .Or (a :: b :: rest) pos) (dOr t u) := by
  refine PW.weak (pw_or ha hb) fun σ H Q h => ?_
  obtain ⟨δ, M, F, Qd, hE, s, hu, p⟩ := h
  refine ⟨δ, M, F, _, hE, s, hu, fun d M' F' H' q g s' => ?_⟩
  cases d with
  | true => exact p _ _ _ _ q g s'
  | false => exact ⟨δ, M', F', Qd, hE.mono g.le, s', q, p.go g⟩
theorem de_ifx [Ghost] (hc : DT X c t) (ha : DE X a ua) (hb : DE X b ub) : DE X (.IfExp c a b pos) (dIf t ua ub) := by
  refine PE.weak (pe_ifExp hc ha hb) fun σ H Q h => ?_
  obtain ⟨δ, M, F, Qd, hE, s, hu, p⟩ := h
  refine ⟨δ, M, F, _, hE, s, hu, fun d M' F' H' q g s' => ?_⟩
  cases d with
  | true => exact ⟨δ, M', F', Qd, hE.mono g.le, s', q, p.go g⟩
  | false => exact ⟨δ, M', F', Qd, hE.mono g.le, s', q, p.go g⟩
theorem de_one [Ghost] {op : BoolOp} (h : DE X a ua) : DE X (.BoolOp op [a] pos) ua := pe_one h
theorem de_and [Ghost] (ha : DE X a ua) (hb : DE X (.BoolOp .And (b :: rest) pos) ub) : DE X (.BoolOp .And (a :: b :: rest) pos) (dAndV ua ub) := by
  refine PE.weak (pe_and ha hb) fun σ H Q h => ?_
  obtain ⟨δ, M, F, Qd, hE, s, hu, p⟩ := h
  refine ⟨δ, M, F, _, hE, s, hu, fun d M' F' v H' q g s' r => ?_⟩
  cases d <;> first | exact False.elim q | skip
  rename_i k
  unfold Rp at r
  subst r
  refine ⟨k, rfl, ?_⟩
  cases k with
  | true => exact ⟨δ, M', F', Qd, hE.mono g.le, s', q, p.go g⟩
  | false => exact p _ _ _ _ _ q g s' (by unfold Rp; rfl)
theorem de_or [Ghost] (ha : DE X a ua) (hb : DE X (.BoolOp .Or (b :: rest) pos) ub) : DE X (.BoolOp .Or (a :: b :: rest) pos) (dOrV ua ub) := by
  refine PE.weak (pe_or ha hb) fun σ H Q h => ?_
  obtain ⟨δ, M, F, Qd, hE, s, hu, p⟩ := h
  refine ⟨δ, M, F, _, hE, s, hu, fun d M' F' v H' q g s' r => ?_⟩
  cases d <;> first | exact False.elim q | skip
  rename_i k
  unfold Rp at r
  subst r
  refine ⟨k, rfl, ?_⟩
  cases k with
  | false => exact ⟨δ, M', F', Qd, hE.mono g.le, s', q, p.go g⟩
  | true => exact p _ _ _ _ _ q g s' (by unfold Rp; rfl)
theorem de_not [Ghost] (ha : DE X a ua) : DE X (.UnaryOp .Not a pos) (dNotV ua) := by
  refine PE.weak (pe_not ha) fun σ H Q h => ?_
  obtain ⟨δ, M, F, Qd, hE, s, hu, p⟩ := h
  refine ⟨δ, M, F, _, hE, s, hu, fun d M' F' v H' q g s' r => ?_⟩
  cases d <;> first | exact False.elim q | skip
  unfold Rp at r
  subst r
  exact ⟨_, rfl, p _ _ _ _ _ q g s' (by unfold Rp; rfl)⟩
end

/-! ### argument lists, displays -/
def dNil : DTA := fun _ M Q => Q [] M
def dCons (ua : DTE) (ur : DTA) : DTA := fun δ M Q => ua δ M fun d M1 => ur δ M1 fun ds M2 => Q (d :: ds) M2
def dTup (ua : DTA) : DTE := fun δ M Q => ua δ M fun ds M1 => ds.length ≤ sizeLine ∧ Q (.tup ds) M1
def dLst (mu : Bool) (ua : DTA) : DTE := fun δ M Q => ua δ M fun ds M1 => ds.length ≤ sizeLine ∧ dNew mu ds M1 Q
section
variable {X : Cx} {e a b c : Expr} {es : List Expr} {ua ub uc : DTE} {ur : DTA} {pos : Pos}
theorem da_nil [Ghost] : DA X [] dNil := PA.weak pa_nil fun σ H Q h => by
  obtain ⟨δ, M, F, Qd, hE, s, hu, p⟩ := h
  exact p _ _ _ _ _ hu Go.refl s RpL.nil
theorem da_cons [Ghost] (ha : DE X e ua) (hr : DA X es ur) (hs : starEach (e :: es) X.env = (false, eval e X.env) :: starEach es X.env := by rfl) : DA X (e :: es) (dCons ua ur) := PA.weak (pa_cons ha hr hs) fun σ H Q h => by
  obtain ⟨δ, M, F, Qd, hE, s, hu, p⟩ := h
  refine ⟨δ, M, F, _, hE, s, hu, fun d M' F' v H' q g s' r => ?_⟩
  refine ⟨δ, M', F', _, hE.mono g.le, s', q, fun ds M2 F2 vs H2 q2 g2 s2 r2 => ?_⟩
  exact p _ _ _ _ _ q2 (g.trans g2) s2 (RpL.cons (r.mono g2.le) r2)
theorem de_tup [Ghost] {x1 : Nat} (h : DA X es ur) : DE X (.Tuple es x1 pos) (dTup ur) := PE.weak (pe_tup h) fun σ H Q h => by
  obtain ⟨δ, M, F, Qd, hE, s, hu, p⟩ := h
  refine ⟨δ, M, F, _, hE, s, hu, fun d M' F' v H' q g s' r => ?_⟩
  exact ⟨by rw [← r.len]; exact q.1, fun l hl => newT_at s' r q.2 (p.go g) hl⟩
theorem de_lst [Ghost] (mu : Bool) (h : DA X es ur) : DE X (.List es pos) (dLst mu ur) := PE.weak (pe_lst h) fun σ H Q h => by
  obtain ⟨δ, M, F, Qd, hE, s, hu, p⟩ := h
  refine ⟨δ, M, F, _, hE, s, hu, fun d M' F' v H' q g s' r => ?_⟩
  exact ⟨by rw [← r.len]; exact q.1, fun l hl => dNew_at s' r q.2 (p.go g) hl⟩
end

/-! ### calls of built-ins -/
abbrev DRC := List D → Mu → DK → Prop
def RelC [Ghost] (K : PySem.W.Frag) (r : List V → Hp → VK → Prop) (rd : DRC) : Prop := ∀ ds vs H F M Qd Q, RpL K F ds vs → Sv K H F M → rd ds M Qd → Post K H F M Qd Q → r vs H Q
def dCB (rd : DRC) (ua : DTA) : DTE := fun δ M Q => ua δ M fun ds M1 => rd ds M1 Q
section
variable {X : Cx} {x : Str} {p pos : Pos} {e : Expr} {es : List Expr} {u : DTA} {id T : String} {r : List V → Hp → VK → Prop} {rd : DRC}
theorem cb_rel [Ghost] (hr : RelC X.K r rd) : ∀ σ H Q, lift X.K (dCB rd u) σ H Q → tCB r (liftA X.K u) σ H Q := fun σ H Q h => by
  obtain ⟨δ, M, F, Qd, hE, s, hu, p⟩ := h
  exact ⟨δ, M, F, _, hE, s, hu, fun ds M' F' vs H' q g s' r' => hr ds vs H' F' M' Qd Q r' s' q (p.go g)⟩
theorem de_callB [Ghost] (hc : CallR X (.builtin id) r) (hr : RelC X.K r rd) (hg : Gl X x) (hm : X.mg x = none) (hv : bootBuiltins x = some (.builtin id)) (ha : DA X (e :: es) u) (hn : x ≠ "__name__" := by decide) (hdb : (x == ("__debug__" : Str)) = false := by decide)
    (he : starEach (e :: es) X.env = (false, eval e X.env) :: starEach es X.env := by rfl) (hpl : (backTo pos (starEach es X.env)).any (·.1) = false := by rfl) : DE X (.Call (.Name x p) (e :: es) [] pos) (dCB rd u) := PE.weak (pe_callB hc hg hm hv ha hn hdb he hpl) (cb_rel hr)
theorem de_callTy [Ghost] (hc : CallR X (.type T) r) (hr : RelC X.K r rd) (hg : Gl X x) (hm : X.mg x = none) (hv : bootBuiltins x = some (.type T)) (ha : DA X (e :: es) u) (hn : x ≠ "__name__" := by decide) (hdb : (x == ("__debug__" : Str)) = false := by decide)
    (he : starEach (e :: es) X.env = (false, eval e X.env) :: starEach es X.env := by rfl) (hpl : (backTo pos (starEach es X.env)).any (·.1) = false := by rfl) : DE X (.Call (.Name x p) (e :: es) [] pos) (dCB rd u) := PE.weak (pe_callTy hc hg hm hv ha hn hdb he hpl) (cb_rel hr)
end
theorem RpL.one {K : PySem.W.Frag} {F : Hp} {d : D} {vs : List V} (h : RpL K F [d] vs) : ∃ v, vs = [v] ∧ Rp K F d v := by
  unfold RpL at h
  obtain ⟨x, r, e, h1, h2⟩ := h
  unfold RpL at h2
  subst h2
  exact ⟨x, e, h1⟩
theorem RpL.two {K : PySem.W.Frag} {F : Hp} {d e : D} {vs : List V} (h : RpL K F [d, e] vs) : ∃ v u, vs = [v, u] ∧ Rp K F d v ∧ Rp K F e u := by
  unfold RpL at h
  obtain ⟨x, r, e, h1, h2⟩ := h
  obtain ⟨y, e2, h3⟩ := RpL.one h2
  subst e2
  exact ⟨x, y, e, h1, h3⟩
/-- len -/
def dLen : DRC := fun ds M Q => match ds with
  | [.str cs] => cs.length ≤ sizeLine ∧ Q (.int cs.length) M
  | [d] => match dits M d with
    | some es => Q (.int es.length) M
    | none => False
  | _ => False
def rLenAll (K : PySem.W.Frag) : List V → Hp → VK → Prop := fun xs H Q => ∃ x n, xs = [x] ∧ LenV K x H n ∧ Q (.int n) H
theorem rel_len [Ghost] {K : PySem.W.Frag} : RelC K (rLenAll K) dLen := by
  intro ds vs H F M Qd Q r s h po
  unfold dLen at h
  split at h
  · obtain ⟨v, e, r1⟩ := r.one
    unfold Rp at r1
    subst e r1
    exact ⟨_, _, rfl, ⟨by rw [mkS_len]; exact h.1, rfl⟩, po.fin s h.2 (by unfold Rp; rw [mkS_len])⟩
  · obtain ⟨v, e, r1⟩ := r.one
    subst e
    split at h
    · rename_i es e
      obtain ⟨a, xs, e1, hs, r2⟩ := dits_at s r1 e
      subst e1
      refine ⟨_, xs.length, rfl, ?_, po.fin s h (by unfold Rp; rw [r2.len])⟩
      rcases hs with hs | hs
      · exact .inl ⟨xs, hs, rfl⟩
      · exact .inr ⟨xs, hs, rfl⟩
    · exact h.elim
  · exact h.elim
def dAbs : DRC := fun ds M Q => match ds with
  | [.int i] => Q (.int (i.natAbs : Int)) M
  | _ => False
theorem rel_abs [Ghost] {K : PySem.W.Frag} : RelC K (fun xs H Q => ∃ i, xs = [.int i] ∧ Q (.int (if i < 0 then -i else i)) H) dAbs := by
  intro ds vs H F M Qd Q r s h po
  unfold dAbs at h
  split at h
  · obtain ⟨v, e, r1⟩ := r.one
    unfold Rp at r1
    subst e r1
    refine ⟨_, rfl, po.fin s h ?_⟩
    unfold Rp
    congr 1
    split <;> omega
  · exact h.elim
def dMin2 : DRC := fun ds M Q => match ds with
  | [.int i, .int j] => Q (.int (if j < i then j else i)) M
  | _ => False
theorem rel_min2 [Ghost] {K : PySem.W.Frag} : RelC K (fun xs H Q => ∃ i j, xs = [.int i, .int j] ∧ Q (.int (if j < i then j else i)) H) dMin2 := by
  intro ds vs H F M Qd Q r s h po
  unfold dMin2 at h
  split at h
  · obtain ⟨v, u, e, r1, r2⟩ := r.two
    unfold Rp at r1 r2
    subst e r1 r2
    exact ⟨_, _, rfl, po.fin s h (by unfold Rp; rfl)⟩
  · exact h.elim
def dMax2 : DRC := fun ds M Q => match ds with
  | [.int i, .int j] => Q (.int (if j > i then j else i)) M
  | _ => False
theorem rel_max2 [Ghost] {K : PySem.W.Frag} : RelC K (fun xs H Q => ∃ i j, xs = [.int i, .int j] ∧ Q (.int (if j > i then j else i)) H) dMax2 := by
  intro ds vs H F M Qd Q r s h po
  unfold dMax2 at h
  split at h
  · obtain ⟨v, u, e, r1, r2⟩ := r.two
    unfold Rp at r1 r2
    subst e r1 r2
    exact ⟨_, _, rfl, po.fin s h (by unfold Rp; rfl)⟩
  · exact h.elim
theorem CallR.or2 {X : Cx} {f : Value} {r r' : List V → Hp → VK → Prop} (h : CallR X f r) (h' : CallR X f r') : CallR X f (fun xs H Q => r xs H Q ∨ r' xs H Q) := CallR.or h h'
/-- int(..) of an int, a bool, a text -/
def dInt : DRC := fun ds M Q => match ds with
  | [.int i] => Q (.int i) M
  | [.bl b] => Q (.int (if b then 1 else 0)) M
  | [.str cs] => ∃ n, PySem.intText? (mkS cs) = some n ∧ cs.length ≤ 640 ∧ Q (.int n) M
  | _ => False
def rIntAll : List V → Hp → VK → Prop := fun xs H Q => ((∃ i, xs = [.int i] ∧ Q (.int i) H) ∨ ∃ k, xs = [.bl k] ∧ Q (.int (if k then 1 else 0)) H) ∨ (∃ a n, xs = [.str a] ∧ PySem.intText? a = some n ∧ a.length ≤ 640 ∧ Q (.int n) H)
theorem call_intAll {X : Cx} : CallR X (.type "int") rIntAll := CallR.or call_int1 call_int_str
theorem rel_int [Ghost] {K : PySem.W.Frag} : RelC K rIntAll dInt := by
  intro ds vs H F M Qd Q r s h po
  unfold dInt at h
  split at h
  · obtain ⟨v, e, r1⟩ := r.one
    unfold Rp at r1
    subst e r1
    exact .inl (.inl ⟨_, rfl, po.fin s h (by unfold Rp; rfl)⟩)
  · obtain ⟨v, e, r1⟩ := r.one
    unfold Rp at r1
    subst e r1
    exact .inl (.inr ⟨_, rfl, po.fin s h (by unfold Rp; rfl)⟩)
  · obtain ⟨v, e, r1⟩ := r.one
    unfold Rp at r1
    subst e r1
    obtain ⟨n, h1, h2, h3⟩ := h
    exact .inr ⟨_, n, rfl, h1, by rw [mkS_len]; exact h2, po.fin s h3 (by unfold Rp; rfl)⟩
  · exact h.elim
/-- the signs of an int's text -/
def numI (i : Int) : List Nat := tl (Str.ofString (toString i))
def dStr : DRC := fun ds M Q => match ds with
  | [.int i] => i.natAbs.log2 < 1920 ∧ Q (.str (numI i)) M
  | _ => False
theorem rel_str [Ghost] {K : PySem.W.Frag} : RelC K (fun xs H Q => ∃ i : Int, xs = [.int i] ∧ i.natAbs.log2 < 1920 ∧ Q (.str (toString i)) H) dStr := by
  intro ds vs H F M Qd Q r s h po
  unfold dStr at h
  split at h
  · obtain ⟨v, e, r1⟩ := r.one
    unfold Rp at r1
    subst e r1
    refine ⟨_, rfl, h.1, po.fin s h.2 ?_⟩
    unfold Rp numI
    rw [mkS_of]
  · exact h.elim
def intsOf : List D → Option (List Int)
  | [] => some []
  | .int i :: ds => (intsOf ds).map (i :: ·)
  | _ :: _ => none
theorem intsOf_at {K : PySem.W.Frag} {F : Hp} : ∀ {ds : List D} {vs : List V} {ns : List Int}, RpL K F ds vs → intsOf ds = some ns → vs = ns.map V.int
  | [], _, _, r, e => by unfold RpL at r; cases e; exact r
  | d :: ds, _, _, r, e => by
    unfold RpL at r
    obtain ⟨x, xs, e1, r1, r2⟩ := r
    cases d <;> first | (cases e; done) | skip
    unfold intsOf at e
    cases q : intsOf ds with
    | none => rw [q] at e; cases e
    | some ms =>
      rw [q] at e
      cases e
      unfold Rp at r1
      rw [e1, r1, intsOf_at r2 q]
      rfl
theorem intsOf_map : ∀ ns : List Int, intsOf (ns.map D.int) = some ns
  | [] => rfl
  | n :: ns => by
    show (intsOf (ns.map D.int)).map (n :: ·) = _
    rw [intsOf_map ns]
    rfl
def dSum : DRC := fun ds M Q => match ds with
  | [d] => match (dseq M d).bind intsOf with
    | some ns => Q (.int ns.sum) M
    | none => False
  | _ => False
theorem rel_sum [Ghost] {K : PySem.W.Frag} : RelC K (rSum K) dSum := by
  intro ds vs H F M Qd Q r s h po
  unfold dSum at h
  split at h
  · obtain ⟨v, e, r1⟩ := r.one
    subst e
    split at h
    · rename_i ns e
      obtain ⟨es, e1, e2⟩ := Option.bind_eq_some_iff.mp e
      obtain ⟨a, xs, e3, h1, r2⟩ := dseq_at s r1 e1
      have e4 := intsOf_at r2 e2
      subst e3 e4
      exact ⟨a, ns, rfl, .inl (.inl h1), po.fin s h (by unfold Rp; rfl)⟩
    · exact h.elim
  · exact h.elim
def blsOf : List D → Option (List Bool)
  | [] => some []
  | .bl i :: ds => (blsOf ds).map (i :: ·)
  | _ :: _ => none
theorem blsOf_at {K : PySem.W.Frag} {F : Hp} : ∀ {ds : List D} {vs : List V} {ns : List Bool}, RpL K F ds vs → blsOf ds = some ns → vs = ns.map V.bl
  | [], _, _, r, e => by unfold RpL at r; cases e; exact r
  | d :: ds, _, _, r, e => by
    unfold RpL at r
    obtain ⟨x, xs, e1, r1, r2⟩ := r
    cases d <;> first | (cases e; done) | skip
    unfold blsOf at e
    cases q : blsOf ds with
    | none => rw [q] at e; cases e
    | some ms =>
      rw [q] at e
      cases e
      unfold Rp at r1
      rw [e1, r1, blsOf_at r2 q]
      rfl
theorem blsOf_map : ∀ ns : List Bool, blsOf (ns.map D.bl) = some ns
  | [] => rfl
  | n :: ns => by
    show (blsOf (ns.map D.bl)).map (n :: ·) = _
    rw [blsOf_map ns]
    rfl
def dAll : DRC := fun ds M Q => match ds with
  | [d] => match (dseq M d).bind blsOf with
    | some ns => Q (.bl (ns.all id)) M
    | none => False
  | _ => False
def dAny : DRC := fun ds M Q => match ds with
  | [d] => match (dseq M d).bind blsOf with
    | some ns => Q (.bl (ns.any id)) M
    | none => False
  | _ => False
theorem rel_all [Ghost] {K : PySem.W.Frag} : RelC K (rAll K) dAll := by
  intro ds vs H F M Qd Q r s h po
  unfold dAll at h
  split at h
  · obtain ⟨v, e, r1⟩ := r.one
    subst e
    split at h
    · rename_i ns e
      obtain ⟨es, e1, e2⟩ := Option.bind_eq_some_iff.mp e
      obtain ⟨a, xs, e3, h1, r2⟩ := dseq_at s r1 e1
      have e4 := blsOf_at r2 e2
      subst e3 e4
      exact ⟨a, ns, rfl, .inl (.inl h1), po.fin s h (by unfold Rp; rfl)⟩
    · exact h.elim
  · exact h.elim
theorem rel_any [Ghost] {K : PySem.W.Frag} : RelC K (rAny K) dAny := by
  intro ds vs H F M Qd Q r s h po
  unfold dAny at h
  split at h
  · obtain ⟨v, e, r1⟩ := r.one
    subst e
    split at h
    · rename_i ns e
      obtain ⟨es, e1, e2⟩ := Option.bind_eq_some_iff.mp e
      obtain ⟨a, xs, e3, h1, r2⟩ := dseq_at s r1 e1
      have e4 := blsOf_at r2 e2
      subst e3 e4
      exact ⟨a, ns, rfl, .inl (.inl h1), po.fin s h (by unfold Rp; rfl)⟩
    · exact h.elim
  · exact h.elim
/-- the items of a list -/
def dlis (M : Mu) : D → Option (List D)
  | .src ns => some (ns.map .int)
  | d => dseq M d
theorem dlis_at [Ghost] {K : PySem.W.Frag} {H F : Hp} {M : Mu} {d : D} {v : V} {ds : List D} (s : Sv K H F M) (r : Rp K F d v) (h : dlis M d = some ds) : ∃ a xs, v = .ref a ∧ SqL K H a xs ∧ RpL K F ds xs := by
  have old : dseq M d = some ds → ∃ a xs, v = .ref a ∧ SqL K H a xs ∧ RpL K F ds xs := fun q => by
    obtain ⟨a, xs, e, h1, r1⟩ := dseq_at s r q
    exact ⟨a, xs, e, .inl (.inl h1), r1⟩
  cases d with
  | src ns =>
    unfold Rp at r
    obtain ⟨a, e, h1⟩ := r
    cases h
    exact ⟨a, _, e, s.fh.sqL h1, RpL.ints⟩
  | _ => exact old h
/-- tuple(..), list(..) -/
def dTupOf : DRC := fun ds M Q => match ds with
  | [.tup es] => Q (.tup es) M
  | [d] => match dlis M d with
    | some es => Q (.tup es) M
    | none => False
  | _ => False
def rTupOf (K : PySem.W.Frag) : List V → Hp → VK → Prop := fun xs H Q => ∃ p ys, xs = [.ref p] ∧ ((SqL K H p ys ∧ ∀ l, H l = none → Q (.ref l) (upd H l (.tup ys))) ∨ (SqT K H p ys ∧ Q (.ref p) H))
theorem rel_tupOf [Ghost] {K : PySem.W.Frag} : RelC K (rTupOf K) dTupOf := by
  intro ds vs H F M Qd Q r s h po
  unfold dTupOf at h
  split at h
  · obtain ⟨v, e, r1⟩ := r.one
    subst e
    unfold Rp at r1
    obtain ⟨a, xs, e1, h1, r2⟩ := r1
    subst e1
    exact ⟨a, xs, rfl, .inr ⟨s.fh.sqT h1, po.fin s h (by unfold Rp; exact ⟨a, xs, rfl, h1, r2⟩)⟩⟩
  · obtain ⟨v, e, r1⟩ := r.one
    subst e
    split at h
    · rename_i es e
      obtain ⟨a, xs, e1, hs, r2⟩ := dlis_at s r1 e
      subst e1
      exact ⟨a, xs, rfl, .inl ⟨hs, fun l hl => newT_at s r2 h po hl⟩⟩
    · exact h.elim
  · exact h.elim
def dListOf (mu : Bool) : DRC := fun ds M Q => match ds with
  | [d] => match dits M d with
    | some es => dNew mu es M Q
    | none => False
  | _ => False
def rListOf (K : PySem.W.Frag) : List V → Hp → VK → Prop := fun xs H Q => ∃ p ys, xs = [.ref p] ∧ (SqL K H p ys ∨ SqT K H p ys) ∧ ∀ l, H l = none → Q (.ref l) (upd H l (.lst ys))
theorem rel_listOf [Ghost] {K : PySem.W.Frag} {mu : Bool} : RelC K (rListOf K) (dListOf mu) := by
  intro ds vs H F M Qd Q r s h po
  unfold dListOf at h
  split at h
  · obtain ⟨v, e, r1⟩ := r.one
    subst e
    split at h
    · rename_i es e
      obtain ⟨a, xs, e1, hs, r2⟩ := dits_at s r1 e
      subst e1
      exact ⟨a, xs, rfl, hs, fun l hl => dNew_at s r2 h po hl⟩
    · exact h.elim
  · exact h.elim
/-- divmod -/
def dDivmod : DRC := fun ds M Q => match ds with
  | [.int i, .int j] => CDivP i j ∧ Q (.tup [.int (i / j), .int (i % j)]) M
  | _ => False
theorem rel_divmod [Ghost] {K : PySem.W.Frag} : RelC K (fun xs H Q => ∃ i j, xs = [.int i, .int j] ∧ CDivP i j ∧ ∀ p, H p = none → Q (.ref p) (upd H p (.tup [.int (i / j), .int (i % j)]))) dDivmod := by
  intro ds vs H F M Qd Q r s h po
  unfold dDivmod at h
  split at h
  · obtain ⟨v, u, e, r1, r2⟩ := r.two
    unfold Rp at r1 r2
    subst e r1 r2
    exact ⟨_, _, rfl, h.1, fun l hl => newT_at s (RpL.cons (by unfold Rp; rfl) (RpL.cons (by unfold Rp; rfl) RpL.nil)) h.2 po hl⟩
  · exact h.elim
/-- isinstance of a built-in class -/
def tyNm (M : Mu) : D → Option String
  | .non => some "NoneType"
  | .bl _ => some "bool"
  | .int _ => some "int"
  | .str _ => some "str"
  | .tup _ => some "tuple"
  | .lst _ => some "list"
  | .src _ => some "list"
  | .ref a => match M a with
    | some (.lst _) => some "list"
    | some (.dic _) => some "dict"
    | none => none
  | .ty _ => none
  | .exc _ _ _ _ _ => none
def dIsi : DRC := fun ds M Q => match ds with
  | [d, .ty T] => match (tyNm M d).bind fun n => kitB n T with
    | some b => Q (.bl b) M
    | none => False
  | _ => False
theorem ty_sqL {K : PySem.W.Frag} {H : Hp} {a : Addr} {xs : List V} (h : SqL K H a xs) : TyX K H (.ref a) (.type "list") := by
  rcases h with (h | ⟨o, h⟩) | ⟨o, its, n, h, c, _⟩
  · exact .base (.lst h)
  · exact .base (.frz h)
  · exact .kList h c
theorem ty_sqT {K : PySem.W.Frag} {H : Hp} {a : Addr} {xs : List V} (h : SqT K H a xs) : TyX K H (.ref a) (.type "tuple") := by
  rcases h with (h | ⟨o, h⟩) | ⟨o, its, n, h, c, _⟩
  · exact .base (.tup h)
  · exact .fTuple h
  · exact .kTuple h c
theorem tyNm_at [Ghost] {K : PySem.W.Frag} {H F : Hp} {M : Mu} {d : D} {v : V} {n : String} (s : Sv K H F M) (r : Rp K F d v) (h : tyNm M d = some n) : TyX K H v (.type n) := by
  cases d with
  | non => unfold Rp at r; subst r; cases h; exact .base .non
  | bl b => unfold Rp at r; subst r; cases h; exact .base (.bl b)
  | int b => unfold Rp at r; subst r; cases h; exact .base (.int b)
  | str b => unfold Rp at r; subst r; cases h; exact .base (.str _)
  | tup b => unfold Rp at r; obtain ⟨a, xs, e, h1, _⟩ := r; subst e; cases h; exact ty_sqT (s.fh.sqT h1)
  | lst b => unfold Rp at r; obtain ⟨a, xs, e, h1, _⟩ := r; subst e; cases h; exact .base (.lst (s.fh _ _ h1))
  | src b => unfold Rp at r; obtain ⟨a, e, h1⟩ := r; subst e; cases h; exact ty_sqL (s.fh.sqL h1)
  | ty b => cases h
  | exc _ _ _ _ _ => cases h
  | ref a =>
    unfold Rp at r
    subst r
    have h' : (match M a with | some (.lst _) => some "list" | some (.dic _) => some "dict" | none => none) = some n := h
    cases q : M a with
    | none => rw [q] at h'; cases h'
    | some o =>
      rw [q] at h'
      obtain ⟨ho, e2, r2⟩ := s.mu a _ q
      cases o with
      | lst ds =>
        obtain ⟨xs, e3, _⟩ := r2
        subst e3
        cases h'
        exact .base (.lst e2)
      | dic ds =>
        obtain ⟨xs, e3, _⟩ := r2
        subst e3
        cases h'
        exact .base (.dK e2)
theorem rel_isi [Ghost] {K : PySem.W.Frag} : RelC K (rIsi K) dIsi := by
  intro ds vs H F M Qd Q r s h po
  unfold dIsi at h
  split at h
  · obtain ⟨v, u, e, r1, r2⟩ := r.two
    unfold Rp at r2
    subst e r2
    split at h
    · rename_i b e
      obtain ⟨n, e1, e2⟩ := Option.bind_eq_some_iff.mp e
      exact ⟨v, _, _, _, b, rfl, .ty _, tyNm_at s r1 e1, kit_ty e2, po.fin s h (by unfold Rp; rfl)⟩
    · exact h.elim
  · exact h.elim

/-! ### subscripts -/
def dIdx : DR2 := fun x y M Q => match y with
  | .int i => match x with
    | .str cs => match atI cs i with
      | some c => cs.length ≤ sizeLine ∧ Q (.str [c]) M
      | none => False
    | x => match (dits M x).bind fun ds => atI ds i with
      | some d => Q d M
      | none => False
  | _ => False
theorem atI_rel {K : PySem.W.Frag} {F : Hp} {ds : List D} {xs : List V} {i : Int} {d : D} (r : RpL K F ds xs) (h : atI ds i = some d) : ∃ v, atI xs i = some v ∧ Rp K F d v := by
  unfold atI at h ⊢
  rw [r.len] at h
  cases q : ixN xs.length i with
  | none => rw [q] at h; cases h
  | some j =>
    rw [q] at h
    exact r.get (i := j) h
theorem rel_idx [Ghost] {K : PySem.W.Frag} : Rel2 K (rIx K) dIdx := by
  intro x y vx vy H F M Qd Q rx ry s h po
  unfold dIdx at h
  split at h
  · unfold Rp at ry
    subst ry
    split at h
    · unfold Rp at rx
      subst rx
      split at h
      · rename_i c e
        exact .inr (.inr ⟨_, _, c, rfl, rfl, by rw [mkS_len]; exact h.1, e, po.fin s h.2 (by unfold Rp; rfl)⟩)
      · exact h.elim
    · split at h
      · rename_i d e
        obtain ⟨ds, e1, e2⟩ := Option.bind_eq_some_iff.mp e
        obtain ⟨a, xs, e3, hs, r1⟩ := dits_at s rx e1
        obtain ⟨v, e4, r2⟩ := atI_rel r1 e2
        subst e3
        rcases hs with hs | hs
        · exact .inl ⟨a, xs, _, v, rfl, rfl, hs, e4, po.fin s h r2⟩
        · exact .inr (.inl ⟨a, xs, _, v, rfl, rfl, hs, e4, po.fin s h r2⟩)
      · exact h.elim
  · exact h.elim
section
variable {X : Cx} {a b c : Expr} {ua ub uc : DTE} {pos : Pos}
theorem de_idx [Ghost] (ha : DE X a ua) (hb : DE X b ub) (hs : PlainIx b := by intro _ _; rfl) : DE X (.Subscript a b pos) (dOp dIdx ua ub) := PE.weak (pe_ix ix_seq ha hb hs) (bin2 rel_idx)
end

/-! ### slices -/
abbrev DTO := DEnv → Mu → (Option Int → Mu → Prop) → Prop
def dNoP : DTO := fun _ M Q => Q none M
def dPart (u : DTE) : DTO := fun δ M Q => u δ M fun d M1 => match d with
  | .int i => Q (some i) M1
  | _ => False
def PostO [Ghost] (K : PySem.W.Frag) (H F : Hp) (M : Mu) (Qd : Option Int → Mu → Prop) (Q : Option Int → Hp → Prop) : Prop := ∀ o M' F' H', Qd o M' → Go H F M H' F' M' → Sv K H' F' M' → Q o H'
def liftO [Ghost] (K : PySem.W.Frag) (u : DTO) : TO := fun σ H Q => ∃ δ M F Qd, ERel K F δ σ ∧ Sv K H F M ∧ u δ M Qd ∧ PostO K H F M Qd Q
/-- the part of a list from lo to hi -/
def cutL {α : Type} (xs : List α) (lo hi : Option Int) : List α := (xs.drop (HT.sIx xs.length 0 lo)).take (HT.sIx xs.length xs.length hi - HT.sIx xs.length 0 lo)
def dSlV (mu : Bool) (x : D) (lo hi : Option Int) (M : Mu) (Q : DK) : Prop := match x with
  | .str cs => cs.length ≤ sizeLine ∧ Q (.str (cutL cs lo hi)) M
  | .tup ds => Q (.tup (cutL ds lo hi)) M
  | x => match dlis M x with
    | some ds => dNew mu (cutL ds lo hi) M Q
    | none => False
def dSl (mu : Bool) (u : DTE) (ul uh : DTO) : DTE := fun δ M Q => u δ M fun x M1 => ul δ M1 fun lo M2 => uh δ M2 fun hi M3 => dSlV mu x lo hi M3 Q
theorem cutL_rel {K : PySem.W.Frag} {F : Hp} {ds : List D} {xs : List V} (r : RpL K F ds xs) (lo hi : Option Int) : RpL K F (cutL ds lo hi) (cutV xs lo hi) := by
  unfold cutL cutV
  rw [r.len]
  exact (r.drop _).take _
theorem cutL_str (cs : List Nat) (lo hi : Option Int) : cutS (mkS cs) lo hi = mkS (cutL cs lo hi) := by
  unfold cutS cutL
  rw [mkS_len]
  rfl
def rSlAll (K : PySem.W.Frag) : V → Option Int → Option Int → Hp → VK → Prop := fun x lo hi H Q => (rSlS x lo hi H Q ∨ rSlA K x lo hi H Q) ∨ rSlL K x lo hi H Q
theorem sl_all {X : Cx} : SlR X (rSlAll X.K) := SlR.or (SlR.or sl_str sl_tupA) sl_list
theorem rel_sl [Ghost] {K : PySem.W.Frag} {mu : Bool} {x : D} {vx : V} {lo hi : Option Int} {H F : Hp} {M : Mu} {Qd : DK} {Q : VK} (rx : Rp K F x vx) (s : Sv K H F M) (h : dSlV mu x lo hi M Qd) (po : Post K H F M Qd Q) : rSlAll K vx lo hi H Q := by
  unfold dSlV at h
  split at h
  · unfold Rp at rx
    exact .inl (.inl ⟨_, rx, by rw [mkS_len]; exact h.1, po.fin s h.2 (by unfold Rp; rw [cutL_str])⟩)
  · rename_i ds
    unfold Rp at rx
    obtain ⟨a, xs, e, h1, r⟩ := rx
    refine .inl (.inr ⟨a, xs, e, s.fh.sqT h1, fun z => ?_, fun _ p hp => newT_at s (cutL_rel r lo hi) h po hp⟩)
    refine po.fin s h ?_
    have e2 : cutL ds lo hi = ds := by
      unfold cutL
      rw [r.len, z.1, z.2, List.drop_zero, Nat.sub_zero]
      exact List.take_of_length_le (Nat.le_of_eq r.len)
    rw [e2]
    unfold Rp
    exact ⟨a, xs, rfl, h1, r⟩
  · split at h
    · rename_i ds e
      obtain ⟨a, xs, e1, hs, r1⟩ := dlis_at s rx e
      exact .inr ⟨a, xs, e1, hs, fun p hp => dNew_at s (cutL_rel r1 lo hi) h po hp⟩
    · exact h.elim
section
variable {X : Cx} {e : Expr} {lo hi : Option Expr} {u : DTE} {ul uh : DTO} {pos p2 : Pos}
theorem do_none [Ghost] : PO X none (liftO X.K dNoP) := ⟨fun pins s σ H Q I h => po_none.run pins s σ H Q I (by
  obtain ⟨δ, M, F, Qd, hE, s, hu, p⟩ := h
  exact p _ _ _ _ hu Go.refl s)⟩
theorem do_some [Ghost] {e : Expr} (h : DE X e u) : PO X (some e) (liftO X.K (dPart u)) := ⟨fun pins s σ H Q I hq => (po_some h).run pins s σ H Q I (by
  obtain ⟨δ, M, F, Qd, hE, s, hu, p⟩ := hq
  refine ⟨δ, M, F, _, hE, s, hu, fun d M' F' v H' q g s' r => ?_⟩
  cases d <;> first | exact False.elim q | skip
  unfold Rp at r
  subst r
  exact ⟨_, rfl, p _ _ _ _ q g s'⟩)⟩
theorem de_slice [Ghost] (mu : Bool) (h : DE X e u) (hl : PO X lo (liftO X.K ul)) (hh : PO X hi (liftO X.K uh)) : DE X (.Subscript e (.Slice lo hi none p2) pos) (dSl mu u ul uh) := PE.weak (pe_slice sl_all h hl hh) fun σ H Q h => by
  obtain ⟨δ, M, F, Qd, hE, s, hu, p⟩ := h
  refine ⟨δ, M, F, _, hE, s, hu, fun d M1 F1 v H1 q g s1 r => ?_⟩
  refine ⟨δ, M1, F1, _, hE.mono g.le, s1, q, fun lo M2 F2 H2 q2 g2 s2 => ?_⟩
  refine ⟨δ, M2, F2, _, hE.mono (g.le.trans g2.le), s2, q2, fun hi M3 F3 H3 q3 g3 s3 => ?_⟩
  exact rel_sl (r.mono (g2.le.trans g3.le)) s3 q3 (p.go (g.trans (g2.trans g3)))
end

/-! ### methods of texts -/
def DM := D → List D → Mu → DK → Prop
def RelM [Ghost] (K : PySem.W.Frag) (T : String) (r : V → List V → Hp → VK → Prop) (rd : DM) : Prop := ∀ x vx ds vs H F M Qd Q, Rp K F x vx → RpL K F ds vs → Sv K H F M → rd x ds M Qd → Post K H F M Qd Q → r vx vs H Q
/-- of what type the receiver is -/
def isTy (M : Mu) (T : String) (d : D) : Prop := tyNm M d = some T
def dBM (T : String) (rd : DM) (uo : DTE) (ua : DTA) : DTE := fun δ M Q => uo δ M fun x M1 => tyNm M1 x = some T ∧ ua δ M1 fun ds M2 => rd x ds M2 Q
theorem tyV_str [Ghost] {K : PySem.W.Frag} {H F : Hp} {M : Mu} {d : D} {v : V} (s : Sv K H F M) (r : Rp K F d v) (h : tyNm M d = some "str") : tyV K "str" v H := by
  cases d with
  | str cs => unfold Rp at r; subst r; rfl
  | ref a =>
    have h' : (match M a with | some (.lst _) => some "list" | some (.dic _) => some "dict" | none => none) = some "str" := h
    cases q : M a with
    | none => rw [q] at h'; cases h'
    | some o => rw [q] at h'; cases o <;> exact absurd (Option.some.inj h') (by decide)
  | ty _ => cases h
  | exc _ _ _ _ _ => cases h
  | _ => exact absurd (Option.some.inj h) (by decide)
theorem tyV_list [Ghost] {K : PySem.W.Frag} {H F : Hp} {M : Mu} {d : D} {v : V} (s : Sv K H F M) (r : Rp K F d v) (h : tyNm M d = some "list") : tyV K "list" v H := by
  cases d with
  | lst ds =>
    unfold Rp at r
    obtain ⟨a, xs, e, h1, _⟩ := r
    subst e
    exact .inl ⟨rfl, xs, .inl (.inl (s.fh _ _ h1))⟩
  | src ns =>
    unfold Rp at r
    obtain ⟨a, e, h1⟩ := r
    subst e
    exact .inl ⟨rfl, _, s.fh.sqL h1⟩
  | ref a =>
    have h' : (match M a with | some (.lst _) => some "list" | some (.dic _) => some "dict" | none => none) = some "list" := h
    unfold Rp at r
    subst r
    cases q : M a with
    | none => rw [q] at h'; cases h'
    | some o =>
      rw [q] at h'
      cases o with
      | lst ds =>
        obtain ⟨ho, e2, xs, e3, _⟩ := s.mu a _ q
        subst e3
        exact .inl ⟨rfl, xs, .inl (.inl e2)⟩
      | dic _ => exact absurd (Option.some.inj h') (by decide)
  | ty _ => cases h
  | exc _ _ _ _ _ => cases h
  | _ => exact absurd (Option.some.inj h) (by decide)
section
variable {X : Cx} {o e : Expr} {es : List Expr} {uo : DTE} {ua : DTA} {name : Str} {apos cpos : Pos} {T id : String} {r : V → List V → Hp → VK → Prop} {rd : DM}
theorem de_bm0 [Ghost] (hT : ∀ {H F : Hp} {M : Mu} {d : D} {v : V}, Sv X.K H F M → Rp X.K F d v → tyNm M d = some T → tyV X.K T v H) (hr : RelM X.K T r rd) (pa : PlainAttrs T) (slot : Slot T name id) (hty : typeOf (.builtin id) = pure (.type "method_descriptor")) (hm : MtR X id r) (ho : DE X o uo)
    (hbase : attributeBase o name X.env (eval o X.env) = eval o X.env := by rfl) (hline : (apos.endLine == cpos.line) = true := by rfl) : DE X (.Call (.Attribute o name apos) [] [] cpos) (dBM T rd uo dNil) := PE.weak (pe_bm0 pa slot hty hm ho hbase hline) fun σ H Q h => by
  obtain ⟨δ, M, F, Qd, hE, s, hu, p⟩ := h
  refine ⟨δ, M, F, _, hE, s, hu, fun d M1 F1 v H1 q g s1 r1 => ?_⟩
  exact ⟨hT s1 r1 q.1, hr _ _ _ _ _ _ _ _ _ r1 RpL.nil s1 q.2 (p.go g)⟩
theorem de_bm [Ghost] (hT : ∀ {H F : Hp} {M : Mu} {d : D} {v : V}, Sv X.K H F M → Rp X.K F d v → tyNm M d = some T → tyV X.K T v H) (hr : RelM X.K T r rd) (pa : PlainAttrs T) (slot : Slot T name id) (hty : typeOf (.builtin id) = pure (.type "method_descriptor")) (hm : MtR X id r) (ho : DE X o uo) (ha : DA X (e :: es) ua)
    (hbase : attributeBase o name X.env (eval o X.env) = eval o X.env := by rfl)
    (hfew : ((backTo cpos (starEach (e :: es) X.env)).all (fun x => !x.1) && (backToKw cpos (keywordEach [] X.env)).all (fun x => x.1.isSome)
      && decide ((e :: es).length + ([] : List Keyword).length + (if ([] : List Keyword).isEmpty then 0 else 1) < 30)) = true := by rfl)
    (hline : (apos.endLine == cpos.line) = true := by rfl) (hs : starEach (e :: es) X.env = (false, eval e X.env) :: starEach es X.env := by rfl) (hplain : (backTo cpos (starEach es X.env)).any (·.1) = false := by rfl) :
    DE X (.Call (.Attribute o name apos) (e :: es) [] cpos) (dBM T rd uo ua) := PE.weak (pe_bm pa slot hty hm ho ha hbase hfew hline hs hplain) fun σ H Q h => by
  obtain ⟨δ, M, F, Qd, hE, s, hu, p⟩ := h
  refine ⟨δ, M, F, _, hE, s, hu, fun d M1 F1 v H1 q g s1 r1 => ?_⟩
  refine ⟨hT s1 r1 q.1, δ, M1, F1, _, hE.mono g.le, s1, q.2, fun ds M2 F2 vs H2 q2 g2 s2 r2 => ?_⟩
  exact hr _ _ _ _ _ _ _ _ _ (r1.mono g2.le) r2 s2 q2 (p.go (g.trans g2))
end
/-- list.append -/
def dAppend : DM := fun x ds M Q => match x, ds with
  | .ref a, [d] => match M a with
    | some (.lst es) => es.length < sizeLine ∧ Q .non (mset M a (.lst (es ++ [d])))
    | _ => False
  | _, _ => False
theorem rel_append [Ghost] {K : PySem.W.Frag} : RelM K "list" rAppend dAppend := by
  intro x vx ds vs H F M Qd Q rx rs s h po
  unfold dAppend at h
  split at h
  · obtain ⟨v, e, r1⟩ := rs.one
    unfold Rp at rx
    subst e rx
    split at h
    · rename_i es q
      obtain ⟨ho, e2, xs, e3, r2⟩ := s.mu _ _ q
      subst e3
      obtain ⟨s1, g1⟩ := s.wr (o' := .lst (es ++ [_])) (ho := .lst (xs ++ [v])) q ⟨_, rfl, r2.snoc r1⟩
      exact ⟨_, xs, v, rfl, rfl, e2, by rw [← r2.len]; exact h.1, po _ _ _ _ _ h.2 g1 s1 (by unfold Rp; rfl)⟩
    · exact h.elim
  · exact h.elim
/-- list.pop() -/
def dPop : DM := fun x ds M Q => match x, ds with
  | .ref a, [] => match M a with
    | some (.lst es) => match es[es.length - 1]? with
      | some d => Q d (mset M a (.lst es.dropLast))
      | none => False
    | _ => False
  | _, _ => False
theorem rel_pop [Ghost] {K : PySem.W.Frag} : RelM K "list" rPop dPop := by
  intro x vx ds vs H F M Qd Q rx rs s h po
  unfold dPop at h
  split at h
  · unfold RpL at rs
    unfold Rp at rx
    subst rs rx
    split at h
    · rename_i es q
      obtain ⟨ho, e2, xs, e3, r2⟩ := s.mu _ _ q
      subst e3
      split at h
      · rename_i d e
        obtain ⟨v, e4, r3⟩ := r2.get e
        obtain ⟨s1, g1⟩ := s.wr (o' := .lst es.dropLast) (ho := .lst xs.dropLast) q ⟨_, rfl, r2.last⟩
        exact ⟨_, xs, v, rfl, rfl, e2, by rw [← r2.len]; exact e4, po _ _ _ _ _ h g1 s1 r3⟩
      · exact h.elim
    · exact h.elim
  · exact h.elim
/-- list.extend(a list) -/
def dExtend : DM := fun x ds M Q => match x, ds with
  | .ref a, [d] => match M a, dseq M d with
    | some (.lst es), some fs => es.length + fs.length ≤ sizeLine ∧ Q .non (mset M a (.lst (es ++ fs)))
    | _, _ => False
  | _, _ => False
theorem rel_extend [Ghost] {K : PySem.W.Frag} : RelM K "list" rExtend dExtend := by
  intro x vx ds vs H F M Qd Q rx rs s h po
  unfold dExtend at h
  split at h
  · obtain ⟨v, e, r1⟩ := rs.one
    unfold Rp at rx
    subst e rx
    split at h
    · rename_i es fs q q2
      obtain ⟨ho, e2, xs, e3, r2⟩ := s.mu _ _ q
      subst e3
      obtain ⟨b, ys, e4, h4, r4⟩ := dseq_at s r1 q2
      subst e4
      obtain ⟨s1, g1⟩ := s.wr (o' := .lst (es ++ fs)) (ho := .lst (xs ++ ys)) q ⟨_, rfl, r2.app r4⟩
      exact ⟨_, b, xs, ys, rfl, rfl, e2, h4, by rw [← r2.len, ← r4.len]; exact h.1, po _ _ _ _ _ h.2 g1 s1 (by unfold Rp; rfl)⟩
    · exact h.elim
  · exact h.elim
/-- list.reverse() -/
def dReverse : DM := fun x ds M Q => match x, ds with
  | .ref a, [] => match M a with
    | some (.lst es) => Q .non (mset M a (.lst es.reverse))
    | _ => False
  | _, _ => False
theorem rel_reverse [Ghost] {K : PySem.W.Frag} : RelM K "list" rReverse dReverse := by
  intro x vx ds vs H F M Qd Q rx rs s h po
  unfold dReverse at h
  split at h
  · unfold RpL at rs
    unfold Rp at rx
    subst rs rx
    split at h
    · rename_i es q
      obtain ⟨ho, e2, xs, e3, r2⟩ := s.mu _ _ q
      subst e3
      obtain ⟨s1, g1⟩ := s.wr (o' := .lst es.reverse) (ho := .lst xs.reverse) q ⟨_, rfl, r2.rev⟩
      exact ⟨_, xs, rfl, rfl, e2, po _ _ _ _ _ h g1 s1 (by unfold Rp; rfl)⟩
    · exact h.elim
  · exact h.elim
/-! texts: by lists of codes -/
def dSplit (mu : Bool) : DM := fun x ds M Q => match x, ds with
  | .str a, [.str b] => b ≠ [] ∧ a.length + 2 ≤ sizeLine ∧ b.all (· < 256) = true ∧ dNew mu ((spl b 0 [] a).map .str) M Q
  | _, _ => False
def rSplit : V → List V → Hp → VK → Prop := fun x xs H Q => ∃ a b, x = .str a ∧ xs = [.str b] ∧ (b.length == 0) = false ∧ a.length + 2 ≤ sizeLine ∧ rNewStrs (Txt.split a b) H Q
theorem RpL.ofStrs {K : PySem.W.Frag} {F : Hp} : ∀ {ys : List Str}, RpL K F ((ys.map tl).map D.str) (ys.map V.str)
  | [] => RpL.nil
  | y :: ys => RpL.cons (by unfold Rp; rw [mkS_of]) RpL.ofStrs
theorem rel_split [Ghost] {K : PySem.W.Frag} {mu : Bool} : RelM K "str" rSplit (dSplit mu) := by
  intro x vx ds vs H F M Qd Q rx rs s h po
  unfold dSplit at h
  split at h
  · rename_i a b
    obtain ⟨v, e, r1⟩ := rs.one
    unfold Rp at rx r1
    subst e r1 rx
    obtain ⟨h1, h2, h3, h4⟩ := h
    refine ⟨_, _, rfl, rfl, ?_, by rw [mkS_len]; exact h2, fun p hp => ?_⟩
    · rw [mkS_len]
      cases b with
      | nil => exact absurd rfl h1
      | cons c b => rfl
    · have e2 : (Txt.split (mkS a) (mkS b)).map tl = spl b 0 [] a := split_spl _ _ h1 (kind_ok (by simpa [mkS] using h3))
      have r2 : RpL K F ((spl b 0 [] a).map .str) ((Txt.split (mkS a) (mkS b)).map V.str) := by rw [← e2]; exact RpL.ofStrs
      exact dNew_at s r2 h4 po hp
  · exact h.elim
def strsOf : List D → Option (List (List Nat))
  | [] => some []
  | .str i :: ds => (strsOf ds).map (i :: ·)
  | _ :: _ => none
theorem strsOf_at {K : PySem.W.Frag} {F : Hp} : ∀ {ds : List D} {vs : List V} {ns : List (List Nat)}, RpL K F ds vs → strsOf ds = some ns → vs = (ns.map mkS).map V.str
  | [], _, _, r, e => by unfold RpL at r; cases e; exact r
  | d :: ds, _, _, r, e => by
    unfold RpL at r
    obtain ⟨x, xs, e1, r1, r2⟩ := r
    cases d <;> first | (cases e; done) | skip
    unfold strsOf at e
    cases q : strsOf ds with
    | none => rw [q] at e; cases e
    | some ms =>
      rw [q] at e
      cases e
      unfold Rp at r1
      rw [e1, r1, strsOf_at r2 q]
      rfl
theorem strsOf_map : ∀ ns : List (List Nat), strsOf (ns.map D.str) = some ns
  | [] => rfl
  | n :: ns => by
    show (strsOf (ns.map D.str)).map (n :: ·) = _
    rw [strsOf_map ns]
    rfl
def dJoin : DM := fun x ds M Q => match x, ds with
  | .str a, [d] => match (dits M d).bind strsOf with
    | some ys => (ys.map (·.length)).sum + ys.length * a.length ≤ 16777216 ∧ Q (.str (joinL a ys)) M
    | none => False
  | _, _ => False
def rJoin (K : PySem.W.Frag) : V → List V → Hp → VK → Prop := fun x xs H Q => ∃ a p, ∃ ys : List Str, x = .str a ∧ xs = [.ref p] ∧ (SqL K H p (ys.map V.str) ∨ SqT K H p (ys.map V.str)) ∧
    (ys.map (·.length)).sum + ys.length * a.length ≤ 16777216 ∧ Q (.str (Txt.join a ys)) H
theorem rel_join [Ghost] {K : PySem.W.Frag} : RelM K "str" (rJoin K) dJoin := by
  intro x vx ds vs H F M Qd Q rx rs s h po
  unfold dJoin at h
  split at h
  · rename_i a d
    obtain ⟨v, e, r1⟩ := rs.one
    unfold Rp at rx
    subst e rx
    split at h
    · rename_i ys e
      obtain ⟨es, e1, e2⟩ := Option.bind_eq_some_iff.mp e
      obtain ⟨p, xs, e3, hs, r2⟩ := dits_at s r1 e1
      have e4 := strsOf_at r2 e2
      subst e3 e4
      refine ⟨mkS a, p, ys.map mkS, rfl, rfl, hs, ?_, po.fin s h.2 ?_⟩
      · have e5 : (ys.map mkS).map (·.length) = ys.map (·.length) := by
          rw [List.map_map]
          exact List.map_congr_left fun y _ => mkS_len y
        rw [e5, List.length_map, mkS_len]
        exact h.1
      · unfold Rp
        congr 1
        refine ext_tl ?_
        rw [join_eq, tl_join, List.map_map]
        have e6 : (ys.map (tl ∘ mkS)) = ys := by
          have : (tl ∘ mkS) = id := by funext y; rfl
          rw [this, List.map_id]
        rw [e6]
        rfl
    · exact h.elim
  · exact h.elim
/-- startswith -/
def dStarts : DM := fun x ds M Q => match x, ds with
  | .str a, [.str b] => Q (.bl (Txt.startswith (mkS a) (mkS b))) M
  | _, _ => False
def r1S (g : Str → Str → V) : V → List V → Hp → VK → Prop := fun x xs H Q => ∃ a b, x = .str a ∧ xs = [.str b] ∧ Q (g a b) H
theorem rel_starts [Ghost] {K : PySem.W.Frag} : RelM K "str" (r1S fun a b => .bl (Txt.startswith a b)) dStarts := by
  intro x vx ds vs H F M Qd Q rx rs s h po
  unfold dStarts at h
  split at h
  · obtain ⟨v, e, r1⟩ := rs.one
    unfold Rp at rx r1
    subst e r1 rx
    exact ⟨_, _, rfl, rfl, po.fin s h (by unfold Rp; rfl)⟩
  · exact h.elim
def dCount : DM := fun x ds M Q => match x, ds with
  | .str a, [.str b] => Q (.int (Txt.count (mkS a) (mkS b))) M
  | _, _ => False
theorem rel_count [Ghost] {K : PySem.W.Frag} : RelM K "str" (r1S fun a b => .int (Txt.count a b)) dCount := by
  intro x vx ds vs H F M Qd Q rx rs s h po
  unfold dCount at h
  split at h
  · obtain ⟨v, e, r1⟩ := rs.one
    unfold Rp at rx r1
    subst e r1 rx
    exact ⟨_, _, rfl, rfl, po.fin s h (by unfold Rp; rfl)⟩
  · exact h.elim
end DL

namespace DL
open PySem PySem.Spec PyProof.Rows L2 TL

/-! ### weaker knowledge: a list that may change is said to stay, a thing is forgotten -/
def Wk (d : D) (M : Mu) (d' : D) (M' : Mu) : Prop := ∀ (K : PySem.W.Frag) (H F : Hp) (v : V), Sv0 K H F M → Rp K F d v → ∃ F', Sv0 K H F' M' ∧ Go H F M H F' M' ∧ Rp K F' d' v
theorem Wk.refl {d : D} {M : Mu} : Wk d M d M := fun K H F v s r => ⟨F, s, Go.refl, r⟩
theorem Wk.trans {d d1 d2 : D} {M M1 M2 : Mu} (a : Wk d M d1 M1) (b : Wk d1 M1 d2 M2) : Wk d M d2 M2 := fun K H F v s r => by
  obtain ⟨F1, s1, g1, r1⟩ := a K H F v s r
  obtain ⟨F2, s2, g2, r2⟩ := b K H F1 v s1 r1
  exact ⟨F2, s2, g1.trans g2, r2⟩
def Sub (M' M : Mu) : Prop := ∀ b o, M' b = some o → M b = some o
theorem Sub.refl {M : Mu} : Sub M M := fun _ _ h => h
theorem Sub.trans {M M1 M2 : Mu} (a : Sub M M1) (b : Sub M1 M2) : Sub M M2 := fun c o h => b c o (a c o h)
theorem Sub.set {M M' : Mu} {p : Addr} {o : DO} (h : Sub M M') (n : M p = none) : Sub M (mset M' p o) := fun b u e => by
  rw [mset_ne (fun z => by subst z; rw [n] at e; cases e)]
  exact h b u e
theorem Sub.none {M M' : Mu} {p : Addr} (h : Sub M M') (n : M' p = none) : M p = none := by
  cases e : M p with
  | none => rfl
  | some o => rw [h p o e] at n; cases n
theorem Sv0.sub {K : PySem.W.Frag} {H F : Hp} {M M' : Mu} (s : Sv0 K H F M) (h : Sub M' M) : Sv0 K H F M' ∧ Go H F M H F M' := by
  refine ⟨⟨s.fh, fun b o e => ?_, fun a o e => s.mu a o (h a o e)⟩, ⟨Le.refl F, fun b o e m => ⟨e, ?_, fun z => z⟩⟩⟩
  · exact h.none (s.fm b o e)
  · exact h.none m
theorem Wk.drop {d : D} {M M' : Mu} (h : Sub M' M) : Wk d M d M' := fun K H F v s r => by
  obtain ⟨s1, g1⟩ := s.sub h
  exact ⟨F, s1, g1, r⟩
theorem Sv0.frz {K : PySem.W.Frag} {H F : Hp} {M M' : Mu} {a : Addr} {ds : List D} (s : Sv0 K H F M) (e : M a = some (.lst ds)) (h : Sub M' M) (n : M' a = none) : ∃ xs, Sv0 K H (upd F a (.lst xs)) M' ∧ Go H F M H (upd F a (.lst xs)) M' ∧ RpL K (upd F a (.lst xs)) ds xs := by
  obtain ⟨ho, e2, xs, e3, r⟩ := s.mu a _ e
  subst e3
  have hF : F a = none := by
    cases q : F a with
    | none => rfl
    | some u => rw [s.fm a u q] at e; cases e
  have l : Le F (upd F a (.lst xs)) := Le.new hF
  refine ⟨xs, ⟨fun b u q => ?_, fun b u q => ?_, fun b u q => ?_⟩, ⟨l, fun b u q m => ⟨q, ?_, fun z => ?_⟩⟩, r.mono l⟩
  · by_cases hb : b = a
    · subst hb; rw [upd_same] at q; cases q; exact e2
    · rw [upd_ne hb] at q; exact s.fh b u q
  · by_cases hb : b = a
    · subst hb; exact n
    · rw [upd_ne hb] at q; exact h.none (s.fm b u q)
  · obtain ⟨ho, e4, r4⟩ := s.mu b u (h b u q)
    exact ⟨ho, e4, r4.mono l⟩
  · exact h.none m
  · have hb : b ≠ a := fun z => by subst z; rw [m] at e; cases e
    rw [upd_ne hb]; exact z
theorem Wk.frz {M M' : Mu} {a : Addr} {ds : List D} (e : M a = some (.lst ds)) (h : Sub M' M) (n : M' a = none) : Wk (.ref a) M (.lst ds) M' := fun K H F v s r => by
  obtain ⟨xs, s1, g1, r1⟩ := s.frz e h n
  unfold Rp at r
  obtain ⟨ho, e2, ys, e3, _⟩ := s.mu a _ e
  refine ⟨_, s1, g1, ?_⟩
  unfold Rp
  exact ⟨a, xs, r, upd_same, r1⟩
theorem Sub.drop {M : Mu} {a : Addr} : Sub (mdrop M a) M := fun b o e => by
  unfold mdrop at e
  by_cases hb : b = a
  · rw [if_pos hb] at e; cases e
  · rw [if_neg hb] at e; exact e
/-- wanted of a value up to weaker knowledge -/
def Wq (Q : DK) : DK := fun d M => ∃ d' M', Wk d M d' M' ∧ Q d' M'
theorem Wq.now {Q : DK} {d : D} {M : Mu} (h : Q d M) : Wq Q d M := ⟨d, M, Wk.refl, h⟩
theorem Wq.drop {Q : DK} {d : D} {M M' : Mu} (h : Sub M' M) (q : Q d M') : Wq Q d M := ⟨d, M', Wk.drop h, q⟩
theorem Wq.frz {Q : DK} {a : Addr} {ds : List D} {M M' : Mu} (e : M a = some (.lst ds)) (h : Sub M' M) (n : M' a = none) (q : Q (.lst ds) M') : Wq Q (.ref a) M := ⟨_, M', Wk.frz e h n, q⟩
theorem Post.wq [Ghost] {K : PySem.W.Frag} {H F : Hp} {M : Mu} {Qd : DK} {Q : VK} (p : Post K H F M Qd Q) : Post K H F M (Wq Qd) Q := fun d M' F' v H' q g s r => by
  obtain ⟨d2, M2, w, q⟩ := q
  obtain ⟨F2, s2, g2, r2⟩ := w K H' F' v s.toSv0 r
  exact p d2 M2 F2 v H' q (g.trans g2) (svgo s s2 g2).1 r2
def dWq (u : DTE) : DTE := fun δ M Q => u δ M (Wq Q)
theorem de_wq [Ghost] {X : Cx} {e : Expr} {u : DTE} (h : DE X e u) : DE X e (dWq u) := PE.weak h fun σ H Q h => by
  obtain ⟨δ, M, F, Qd, hE, s, hu, p⟩ := h
  exact ⟨δ, M, F, _, hE, s, hu, p.wq⟩

/-! ### targets -/
abbrev DTg := D → DEnv → Mu → (DEnv → Mu → Prop) → Prop
def dgN (i : Nat) : DTg := fun d δ M Q => Q (δ.set i (some d)) M
def dgAll : List DTg → List D → DEnv → Mu → (DEnv → Mu → Prop) → Prop
  | [], [], δ, M, Q => Q δ M
  | t :: ts, d :: ds, δ, M, Q => t d δ M fun δ' M' => dgAll ts ds δ' M' Q
  | _, _, _, _, _ => False
def dgT (ts : List DTg) : DTg := fun d δ M Q => match d with
  | .tup ds => ds.length = ts.length ∧ dgAll ts ds δ M Q
  | _ => False
/-- vs: slots of a block's own; what is wanted tells that nothing else was stored -/
def RelG [Ghost] (K : PySem.W.Frag) (vs : List Nat) (g : TG) (dg : DTg) : Prop := ∀ d x δ σ σ0 H F M Qd Q, Rp K F d x → ERel K F δ σ → Sv K H F M → dg d δ M Qd → PostE K H F M Qd (fun σ2 H2 => wipe σ2 vs = wipe σ0 vs → Q σ2 H2) → wipe σ vs = wipe σ0 vs → g x σ H Q
def RelGs [Ghost] (K : PySem.W.Frag) (vs : List Nat) (g : TGs) (dg : List DTg) : Prop := ∀ ds xs δ σ σ0 H F M Qd Q, RpL K F ds xs → ERel K F δ σ → Sv K H F M → dgAll dg ds δ M Qd → PostE K H F M Qd (fun σ2 H2 => wipe σ2 vs = wipe σ0 vs → Q σ2 H2) → wipe σ vs = wipe σ0 vs → g xs σ H Q
theorem wipe_in {σ : L2.St} {i : Nat} : ∀ {vs : List Nat}, i ∈ vs → i < σ.length → (wipe σ vs)[i]? = some none
  | v :: vs, h, hl => by
    unfold wipe
    by_cases e : v = i
    · subst e
      rw [List.getElem?_set_self (by rw [wipe_length]; exact hl)]
    · rw [List.getElem?_set_ne e]
      exact wipe_in ((List.mem_cons.mp h).resolve_left fun z => e z.symm) hl
theorem wipe_set {σ : L2.St} {j : Nat} {v : Option V} {vs : List Nat} (h : j ∈ vs) : wipe (σ.set j v) vs = wipe σ vs := by
  refine List.ext_getElem? fun i => ?_
  by_cases hi : i ∈ vs
  · by_cases hl : i < σ.length
    · rw [wipe_in hi (by rw [List.length_set]; exact hl), wipe_in hi hl]
    · rw [List.getElem?_eq_none (by rw [wipe_length, List.length_set]; omega), List.getElem?_eq_none (by rw [wipe_length]; omega)]
  · rw [wipe_out hi, wipe_out hi, List.getElem?_set_ne (fun z => hi (by rw [← z]; exact h))]
theorem relg_name [Ghost] {K : PySem.W.Frag} {vs : List Nat} (i : Nat) (hi : i ∈ vs := by decide) : RelG K vs (gName i) (dgN i) := fun d x δ σ σ0 H F M Qd Q r e s h po w => po _ _ _ _ _ h Go.refl s (e.set r) (by rw [wipe_set hi]; exact w)
theorem relgs_nil [Ghost] {K : PySem.W.Frag} {vs : List Nat} : RelGs K vs gNil [] := fun ds xs δ σ σ0 H F M Qd Q r e s h po w => by
  cases ds with
  | nil =>
    unfold RpL at r
    exact ⟨r, po _ _ _ _ _ h Go.refl s e w⟩
  | cons _ _ => exact False.elim h
theorem relgs_cons [Ghost] {K : PySem.W.Frag} {vs : List Nat} {g : TG} {gs : TGs} {dg : DTg} {dgs : List DTg} (h1 : RelG K vs g dg) (h2 : RelGs K vs gs dgs) : RelGs K vs (gCons g gs) (dg :: dgs) := fun ds xs δ σ σ0 H F M Qd Q r e s h po w => by
  cases ds with
  | nil => exact False.elim h
  | cons d ds =>
    unfold RpL at r
    obtain ⟨x, ys, e1, r1, r2⟩ := r
    refine ⟨x, ys, e1, ?_⟩
    refine h1 d x δ σ σ0 H F M _ _ r1 e s h (fun δ2 M2 F2 σ2 H2 q2 g2 s2 e2 w2 => ?_) w
    exact h2 ds ys δ2 σ2 σ0 H2 F2 M2 Qd Q (r2.mono g2.le) e2 s2 q2 (po.go g2) w2
theorem relg_tup [Ghost] {K : PySem.W.Frag} {vs : List Nat} {gs : TGs} {dgs : List DTg} (n : Nat) (hn : dgs.length = n) (h : RelGs K vs gs dgs) : RelG K vs (gTup K n gs) (dgT dgs) := fun d x δ σ σ0 H F M Qd Q r e s hd po w => by
  cases d <;> first | exact False.elim hd | skip
  rename_i ds
  unfold Rp at r
  obtain ⟨a, xs, e1, h1, r1⟩ := r
  exact ⟨a, xs, e1, s.fh.sqT h1, by rw [← r1.len, hd.1, hn], h ds xs δ σ σ0 H F M Qd Q r1 e s hd.2 po w⟩

/-! ### statements -/
def dNx : DTS := fun D δ M => D.nx δ M
def dBk : DTS := fun D δ M => D.bk δ M
def dCt : DTS := fun D δ M => D.ct δ M
def dSq (t u : DTS) : DTS := fun D δ M => t { D with nx := u D } δ M
def dNo : DTS := fun _ _ _ => False
def dEx (u : DTE) : DTS := fun D δ M => u δ M fun _ M1 => D.nx δ M1
def dRt (u : DTE) : DTS := fun D δ M => u δ M D.rt
def dRtN : DTS := fun D _ M => D.rt .non M
def dIfS (c : DTT) (t u : DTS) : DTS := fun D δ M => c δ M fun b M1 => match b with
  | true => t D δ M1
  | false => u D δ M1
def dAs (u : DTE) (g : DTg) : DTS := fun D δ M => u δ M fun d M1 => g d δ M1 D.nx
def dAu (i : Nat) (rd : DR2) (u : DTE) : DTS := fun D δ M => match δ[i]? with
  | some (some x) => u δ M fun y M1 => rd x y M1 fun z M2 => D.nx (δ.set i (some z)) M2
  | _ => False
def dPar (i j : Nat) (ua : DTA) : DTS := fun D δ M => ua δ M fun ds M1 => match ds with
  | [v, w] => D.nx ((δ.set i (some v)).set j (some w)) M1
  | _ => False
def dWhile (c : DTT) (b : DTS) : DTS := fun D δ M => ∃ W : Nat → DEnv → Mu → Prop, (∃ m, W m δ M) ∧ ∀ m δ M, W m δ M →
  c δ M fun k M1 => match k with
    | true => b { D with nx := fun δ' M' => ∃ m', m' < m ∧ W m' δ' M', ct := fun δ' M' => ∃ m', m' < m ∧ W m' δ' M', bk := D.nx } δ M1
    | false => D.nx δ M1
section
variable {X : Cx} {st : Stmt} {rest : List Stmt} {t u : DTS} {e : Expr} {ue : DTE} {pos : Pos}
theorem dss_nil [Ghost] : DSs X [] dNx := PSs.weak pss_nil fun D σ H h => by
  obtain ⟨δ, M, F, Dd, hE, s, hu, p⟩ := h
  exact p.nx _ _ _ _ _ hu Go.refl s hE
theorem dss_cons [Ghost] (h1 : DS X st t) (h2 : DSs X rest u) : DSs X (st :: rest) (dSq t u) := PSs.weak (pss_cons h1 h2) fun D σ H h => by
  obtain ⟨δ, M, F, Dd, hE, s, hu, p⟩ := h
  exact ⟨δ, M, F, { Dd with nx := u Dd }, hE, s, hu, ⟨fun δ' M' F' σ' H' q g s' e => ⟨δ', M', F', Dd, e, s', q, p.go g⟩, p.rt, p.bk, p.ct⟩⟩
theorem dss_one [Ghost] (h1 : DS X st t) : DSs X [st] t := pss_one h1
theorem ds_pass [Ghost] : DS X (.Pass pos) dNx := PS.weak ps_pass fun D σ H h => by
  obtain ⟨δ, M, F, Dd, hE, s, hu, p⟩ := h
  exact p.nx _ _ _ _ _ hu Go.refl s hE
theorem ds_break [Ghost] : DS X (.Break pos) dBk := PS.weak ps_break fun D σ H h => by
  obtain ⟨δ, M, F, Dd, hE, s, hu, p⟩ := h
  exact p.bk _ _ _ _ _ hu Go.refl s hE
theorem ds_cont [Ghost] : DS X (.Continue pos) dCt := PS.weak ps_continue fun D σ H h => by
  obtain ⟨δ, M, F, Dd, hE, s, hu, p⟩ := h
  exact p.ct _ _ _ _ _ hu Go.refl s hE
theorem ds_doc [Ghost] {x : Str} {j : Nat} {pos' : Pos} : DS X (.Expr (.Constant (.str x) j pos) pos') dNx := PS.weak ps_doc fun D σ H h => by
  obtain ⟨δ, M, F, Dd, hE, s, hu, p⟩ := h
  exact p.nx _ _ _ _ _ hu Go.refl s hE
theorem ds_never [Ghost] : DS X st dNo := PS.weak ps_never fun D σ H h => by
  obtain ⟨δ, M, F, Dd, hE, s, hu, p⟩ := h
  exact hu
theorem dss_never [Ghost] : DSs X rest dNo := PSs.weak pss_never fun D σ H h => by
  obtain ⟨δ, M, F, Dd, hE, s, hu, p⟩ := h
  exact hu
theorem ds_expr [Ghost] (he : DE X e ue) (hs : swapsWith e none pos.line X.env = pure false := by rfl) : DS X (.Expr e pos) (dEx ue) := PS.weak (ps_expr he hs) fun D σ H h => by
  obtain ⟨δ, M, F, Dd, hE, s, hu, p⟩ := h
  exact ⟨δ, M, F, _, hE, s, hu, fun d M' F' v H' q g s' r => p.nx _ _ _ _ _ q g s' (hE.mono g.le)⟩
theorem ds_ret [Ghost] (he : DE X e ue) : DS X (.Return (some e) pos) (dRt ue) := PS.weak (ps_ret he) fun D σ H h => by
  obtain ⟨δ, M, F, Dd, hE, s, hu, p⟩ := h
  exact ⟨δ, M, F, _, hE, s, hu, p.rt⟩
theorem ds_retN [Ghost] : DS X (.Return none pos) dRtN := PS.weak ps_retN fun D σ H h => by
  obtain ⟨δ, M, F, Dd, hE, s, hu, p⟩ := h
  exact p.rt _ _ _ _ _ hu Go.refl s (by unfold Rp; rfl)
theorem ds_if [Ghost] {c : Expr} {a b : List Stmt} {tc : DTT} (hc : DT X c tc) (ha : DSs X a t) (hb : DSs X b u) : DS X (.If c a b pos) (dIfS tc t u) := PS.weak (ps_if hc ha hb) fun D σ H h => by
  obtain ⟨δ, M, F, Dd, hE, s, hu, p⟩ := h
  refine ⟨δ, M, F, _, hE, s, hu, fun d M' F' H' q g s' => ?_⟩
  cases d with
  | true => exact ⟨δ, M', F', Dd, hE.mono g.le, s', q, p.go g⟩
  | false => exact ⟨δ, M', F', Dd, hE.mono g.le, s', q, p.go g⟩
theorem ds_set [Ghost] {i : Nat} {x : Str} {pos' : Pos} (hN : X.N.Nodup) (he : DE X e ue) (hi : X.N[i]? = some x := by rfl) (hx : Loc X.env.scope x := by first | exact Or.inl rfl | exact Or.inr rfl) (hs : swapsWith e (some (.Name x pos')) pos.line X.env = pure false := by rfl) (hf : X.fn x = true ∨ X.env.scope.names.lookup x = some .local := by first | exact .inl rfl | exact .inr rfl | assumption) :
    DS X (.Assign [.Name x pos'] e pos) (dAs ue (dgN i)) := PS.weak (ps_set hN hi hx he hs hf) fun D σ H h => by
  obtain ⟨δ, M, F, Dd, hE, s, hu, p⟩ := h
  exact ⟨δ, M, F, _, hE, s, hu, fun d M' F' v H' q g s' r => p.nx _ _ _ _ _ q g s' ((hE.mono g.le).set r)⟩
theorem ds_asg [Ghost] {tg : Expr} {g : TG} {dg : DTg} {vs : List Nat} (hg : PG X tg g) (hr : RelG X.K vs g dg) (he : DE X e ue) (hs : swapsWithSole [tg] e pos.line X.env = pure false := by rfl) (hw : swappedStores [tg] e X.env = pure none := by rfl)
    (h1 : (assignEach [tg] X.env).map (·.2) = [assign tg X.env] := by rfl) : DS X (.Assign [tg] e pos) (dAs ue dg) := PS.weak (ps_asg he hg hs hw h1) fun D σ H h => by
  obtain ⟨δ, M, F, Dd, hE, s, hu, p⟩ := h
  refine ⟨δ, M, F, _, hE, s, hu, fun d M' F' v H' q g s' r => ?_⟩
  exact hr d v δ σ σ H' F' M' _ _ r (hE.mono g.le) s' q (fun δ2 M2 F2 σ2 H2 q2 g2 s2 e2 _ => p.nx _ _ _ _ _ q2 (g.trans g2) s2 e2) rfl
theorem ds_aug [Ghost] {i : Nat} {x : Str} {op : Operator} {ti : TIp} {rd : DR2} {pos' : Pos} (hN : X.N.Nodup) (ho : PIp X op ti) (hr : Rel2 X.K ti rd) (he : DE X e ue) (hi : X.N[i]? = some x := by rfl) (hx : Loc X.env.scope x := by first | exact Or.inl rfl | exact Or.inr rfl) (hf : X.fn x = true ∨ X.env.scope.names.lookup x = some .local := by first | exact .inl rfl | exact .inr rfl | assumption) :
    DS X (.AugAssign (.Name x pos') op e pos) (dAu i rd ue) := PS.weak (ps_aug hN hi hx he ho hf) fun D σ H h => by
  obtain ⟨δ, M, F, Dd, hE, s, hu, p⟩ := h
  have hu' : (match δ[i]? with | some (some x) => ue δ M fun y M1 => rd x y M1 fun z M2 => Dd.nx (δ.set i (some z)) M2 | _ => False) := hu
  split at hu'
  · rename_i d ed
    obtain ⟨v, e2, r⟩ := hE.2 i d ed
    refine ⟨v, e2, δ, M, F, _, hE, s, hu', fun y M1 F1 vy H1 q g s1 r1 => ?_⟩
    refine hr _ _ _ _ _ _ _ _ _ (r.mono g.le) r1 s1 q fun z M2 F2 vz H2 q2 g2 s2 r2 => ?_
    exact p.nx _ _ _ _ _ q2 (g.trans g2) s2 ((hE.mono (g.le.trans g2.le)).set r2)
  · exact hu'.elim
theorem ds_par [Ghost] {i j : Nat} {x y : Str} {a b : Expr} {ua : DTA} {px py pt : Pos} {kt k2 : Nat} {pt2 : Pos} (hc : X.calm = true) (hN : X.N.Nodup) (ha : DA X [a, b] ua) (hi : X.N[i]? = some x := by rfl) (hj : X.N[j]? = some y := by rfl) (hij : i ≠ j := by decide)
    (hx : X.env.scope.names.lookup x = some .local := by rfl) (hy : X.env.scope.names.lookup y = some .local := by rfl)
    (hw : swappedStores [.Tuple [.Name x px, .Name y py] kt pt] (.Tuple [a, b] k2 pt2) X.env = pure (some [x, y]) := by rfl)
    (hs : swapsWithSole [.Tuple [.Name x px, .Name y py] kt pt] (.Tuple [a, b] k2 pt2) pos.line X.env = pure false := by rfl) :
    DS X (.Assign [.Tuple [.Name x px, .Name y py] kt pt] (.Tuple [a, b] k2 pt2) pos) (dPar i j ua) := PS.weak (ps_par hc hN hi hj hij hx hy ha hw hs) fun D σ H h => by
  obtain ⟨δ, M, F, Dd, hE, s, hu, p⟩ := h
  refine ⟨δ, M, F, _, hE, s, hu, fun ds M1 F1 vs H1 q g s1 r => ?_⟩
  split at q
  · rename_i v w
    obtain ⟨v1, v2, e, r1, r2⟩ := r.two
    exact ⟨v1, v2, e, p.nx _ _ _ _ _ q g s1 (((hE.mono g.le).set r1).set r2)⟩
  · exact q.elim
theorem ds_while [Ghost] {c : Expr} {body : List Stmt} {tc : DTT} {tb : DTS} (hp : PassesOwn (model X.prog X.w) X.A X.env X.xe) (hc : DT X c tc) (hb : DSs X body tb) : DS X (.While c body [] pos) (dWhile tc tb) := PS.weak (ps_while hp hc hb) fun D σ H h => by
  obtain ⟨δ, M, F, Dd, hE, s, ⟨W, ⟨m, w0⟩, turn⟩, p⟩ := h
  refine ⟨fun m σ' H' => ∃ δ' M' F', W m δ' M' ∧ ERel X.K F' δ' σ' ∧ Sv X.K H' F' M' ∧ Go H F M H' F' M', ⟨m, δ, M, F, w0, hE, s, Go.refl⟩, ?_⟩
  rintro m σ1 H1 ⟨δ1, M1, F1, w1, e1, s1, g1⟩
  refine ⟨δ1, M1, F1, _, e1, s1, turn m δ1 M1 w1, fun b M2 F2 H2 q g2 s2 => ?_⟩
  cases b with
  | false =>
    rw [if_neg Bool.false_ne_true]
    exact p.nx _ _ _ _ _ q (g1.trans g2) s2 (e1.mono g2.le)
  | true =>
    rw [if_pos rfl]
    refine ⟨fun σ' H' => ∃ m', m' < m ∧ ∃ δ' M' F', W m' δ' M' ∧ ERel X.K F' δ' σ' ∧ Sv X.K H' F' M' ∧ Go H F M H' F' M', fun σ' H' z => z, ?_⟩
    refine ⟨δ1, M2, F2, _, e1.mono g2.le, s2, q, ⟨?_, p.rt.go (g1.trans g2), p.nx.go (g1.trans g2), ?_⟩⟩
    · intro δ3 M3 F3 σ3 H3 ⟨m', hm, w3⟩ g3 s3 e3
      exact ⟨m', hm, δ3, M3, F3, w3, e3, s3, (g1.trans g2).trans g3⟩
    · intro δ3 M3 F3 σ3 H3 ⟨m', hm, w3⟩ g3 s3 e3
      exact ⟨m', hm, δ3, M3, F3, w3, e3, s3, (g1.trans g2).trans g3⟩
end
/-! += -/
def dIAdd : DR2
  | .int i, .int j, M, Q => Q (.int (i + j)) M
  | .str a, .str b, M, Q => a.length + b.length ≤ sizeLine ∧ Q (.str (a ++ b)) M
  | _, _, _, _ => False
def rIAdd : R2 := fun x y H Q => (rI0 (fun i j => .int (i + j))) x y H Q ∨ (∃ i j, x = .str i ∧ y = .str j ∧ i.length + j.length ≤ sizeLine ∧ Q (.str (i ++ j)) H)
theorem pip_add {X : Cx} : PIp X .Add rIAdd := fun pins s σ H x y v u Q I rx ry h => OpR.or iop_add iop_add_str pins s σ H x y v u Q I rx ry h
theorem pip_sub {X : Cx} : PIp X .Sub (rI0 fun i j => .int (i - j)) := fun pins s σ H x y v u Q I rx ry h => iop_sub pins s σ H x y v u Q I rx ry h
theorem rel_iadd [Ghost] {K : PySem.W.Frag} : Rel2 K rIAdd dIAdd := by
  intro x y vx vy H F M Qd Q rx ry s h po
  unfold dIAdd at h
  split at h
  · unfold Rp at rx ry
    exact .inl ⟨_, _, rx, ry, po.fin s h (by unfold Rp; rfl)⟩
  · unfold Rp at rx ry
    obtain ⟨hl, h⟩ := h
    exact .inr ⟨_, _, rx, ry, by rw [mkS_len, mkS_len]; exact hl, po.fin s h (by unfold Rp; rw [mkS_app])⟩
  · exact h.elim
/-! o[i] = e, o[i] += e -/
def dSetV (o i v : D) (M : Mu) (Q : Mu → Prop) : Prop := match o, i with
  | .ref a, .int k => match M a with
    | some (.lst es) => match ixN es.length k with
      | some j => Q (mset M a (.lst (es.set j v)))
      | none => False
    | _ => False
  | _, _ => False
def PostM [Ghost] (K : PySem.W.Frag) (H F : Hp) (M : Mu) (Qd : Mu → Prop) (Q : Hp → Prop) : Prop := ∀ M' F' H', Qd M' → Go H F M H' F' M' → Sv K H' F' M' → Q H'
theorem rel_setV [Ghost] {K : PySem.W.Frag} {o i v : D} {vo vi vv : V} {H F : Hp} {M : Mu} {Qd : Mu → Prop} {Q : Hp → Prop} (ro : Rp K F o vo) (ri : Rp K F i vi) (rv : Rp K F v vv) (s : Sv K H F M) (h : dSetV o i v M Qd) (po : PostM K H F M Qd Q) : rSetL vo vi vv H Q := by
  unfold dSetV at h
  split at h
  · unfold Rp at ro ri
    subst ro ri
    split at h
    · rename_i es q
      obtain ⟨ho, e2, xs, e3, r2⟩ := s.mu _ _ q
      subst e3
      split at h
      · rename_i j ej
        obtain ⟨s1, g1⟩ := s.wr (o' := .lst (es.set j v)) (ho := .lst (xs.set j vv)) q ⟨_, rfl, r2.set j rv⟩
        exact ⟨_, xs, _, j, rfl, rfl, e2, by rw [← r2.len]; exact ej, po _ _ _ h g1 s1⟩
      · exact h.elim
    · exact h.elim
  · exact h.elim
def dgSub (uo ui : DTE) : DTg := fun v δ M Q => uo δ M fun o M1 => ui δ M1 fun i M2 => dSetV o i v M2 fun M3 => Q δ M3
def dGetM : DR2 := fun o i M Q => match o, i with
  | .ref a, .int k => match M a with
    | some (.lst es) => match atI es k with
      | some d => Q d M
      | none => False
    | _ => False
  | _, _ => False
theorem rel_getM [Ghost] {K : PySem.W.Frag} : Rel2 K (rIxL K) dGetM := by
  intro x y vx vy H F M Qd Q rx ry s h po
  unfold dGetM at h
  split at h
  · unfold Rp at rx ry
    subst rx ry
    split at h
    · rename_i es q
      obtain ⟨ho, e2, xs, e3, r2⟩ := s.mu _ _ q
      subst e3
      split at h
      · rename_i d ed
        obtain ⟨v, e4, r4⟩ := atI_rel r2 ed
        exact ⟨_, xs, _, v, rfl, rfl, .inl (.inl e2), e4, po.fin s h r4⟩
      · exact h.elim
    · exact h.elim
  · exact h.elim
def dAuS (uo ui ue : DTE) (rd : DR2) : DTS := fun D δ M => uo δ M fun o M1 => ui δ M1 fun i M2 => dGetM o i M2 fun x M3 => ue δ M3 fun y M4 => rd x y M4 fun z M5 => dSetV o i z M5 fun M6 => D.nx δ M6
theorem get_list {X : Cx} : PGet X (rIxL X.K) := by
  intro pins s σ H x y v u Q I rx ry h
  obtain ⟨p, xs, i, z, rfl, rfl, hq, he, q⟩ := h
  cases rx
  obtain ⟨t, rfl⟩ := ry
  obtain ⟨its, r, pl, hz⟩ := I.list hq
  obtain ⟨j, h1, h2, h3, h4, h5⟩ := atI_get he
  obtain ⟨w, ew, rw'⟩ := r.get h2
  have hl := r.length
  have hn := line63
  have fin : EP X pins σ Q w s := ⟨z, H, I, rw', q⟩
  by_cases h0 : 0 ≤ i
  · have hj : i.toNat = j := by
      rw [seqIndex_of h0 h5] at h1
      exact Option.some.inj h1
    exact wpAny_getItem_list pl.isList h0 (by omega) (by rw [hj]; simpa using ew) fin
  · have hj : (i + (its.toArray.size : Int)).toNat = j := by
      rw [seqIndex_neg (by omega) h4] at h1
      rw [List.size_toArray, ← hl]
      exact Option.some.inj h1
    exact wpAny_getItem_list_neg pl.isList (by omega) (by rw [List.size_toArray] <;> omega) (by omega) (by rw [hj]; simpa using ew) fin
theorem relg_sub [Ghost] {K : PySem.W.Frag} {vs : List Nat} {uo ui : DTE} : RelG K vs (gSub (lift K uo) (lift K ui) rSetL) (dgSub uo ui) := fun d x δ σ σ0 H F M Qd Q r e s h po w => by
  refine ⟨δ, M, F, _, e, s, h, fun o M1 F1 vo H1 q1 g1 s1 r1 => ?_⟩
  refine ⟨δ, M1, F1, _, e.mono g1.le, s1, q1, fun i M2 F2 vi H2 q2 g2 s2 r2 => ?_⟩
  exact rel_setV (r1.mono g2.le) r2 (r.mono (g1.le.trans g2.le)) s2 q2 fun M3 F3 H3 q3 g3 s3 => po _ _ _ _ _ q3 (g1.trans (g2.trans g3)) s3 (e.mono (g1.le.trans (g2.le.trans g3.le))) w
section
variable {X : Cx} {o i e : Expr} {uo ui ue : DTE} {pos tpos : Pos}
theorem ds_setIx [Ghost] (ho : DE X o uo) (hi : DE X i ui) (he : DE X e ue) (ha : ∀ v, assign (.Subscript o i tpos) X.env v = (do
      let ov ← holding [v] (eval o X.env)
      let iv ← holding [v, ov] (eval i X.env)
      standAt tpos
      holding [v, ov, iv] (setItem ov iv v)
      release [v, ov, iv] []) := by intro _; rfl) (hs : swapsWithSole [.Subscript o i tpos] e pos.line X.env = pure false := by rfl) (hw : swappedStores [.Subscript o i tpos] e X.env = pure none := by rfl)
    (h1 : (assignEach [.Subscript o i tpos] X.env).map (·.2) = [assign (.Subscript o i tpos) X.env] := by rfl) : DS X (.Assign [.Subscript o i tpos] e pos) (dAs ue (dgSub uo ui)) := ds_asg (vs := []) (pg_sub ho hi set_list ha) relg_sub he hs hw h1
theorem ds_augIx [Ghost] {op : Operator} {ti : TIp} {rd : DR2} (hp : PIp X op ti) (hr : Rel2 X.K ti rd) (ho : DE X o uo) (hi : DE X i ui) (he : DE X e ue)
    (ha : ∀ ov iv new, augStore i ov iv new = (do holding [new, ov, iv] (setItem ov iv new); release [new, ov, iv] []; pure .next) := by intros; rfl) : DS X (.AugAssign (.Subscript o i tpos) op e pos) (dAuS uo ui ue rd) := PS.weak (ps_augS ho hi get_list he hp set_list ha) fun D σ H h => by
  obtain ⟨δ, M, F, Dd, hE, s, hu, p⟩ := h
  refine ⟨δ, M, F, _, hE, s, hu, fun od M1 F1 vo H1 q1 g1 s1 r1 => ?_⟩
  refine ⟨δ, M1, F1, _, hE.mono g1.le, s1, q1, fun id M2 F2 vi H2 q2 g2 s2 r2 => ?_⟩
  have ro := r1.mono g2.le
  have e2 := hE.mono (g1.le.trans g2.le)
  refine rel_getM _ _ _ _ _ _ _ _ _ ro r2 s2 q2 fun x M3 F3 vx H3 q3 g3 s3 r3 => ?_
  refine ⟨δ, M3, F3, _, e2.mono g3.le, s3, q3, fun y M4 F4 vy H4 q4 g4 s4 r4 => ?_⟩
  refine hr _ _ _ _ _ _ _ _ _ (r3.mono g4.le) r4 s4 q4 fun z M5 F5 vz H5 q5 g5 s5 r5 => ?_
  exact rel_setV (ro.mono (g3.le.trans (g4.le.trans g5.le))) (r2.mono (g3.le.trans (g4.le.trans g5.le))) r5 s5 q5 fun M6 F6 H6 q6 g6 s6 =>
    p.nx _ _ _ _ _ q6 (g1.trans (g2.trans (g3.trans (g4.trans (g5.trans g6))))) s6 (e2.mono (g3.le.trans (g4.le.trans (g5.le.trans g6.le))))
end
end DL

namespace DL
open PySem PySem.Spec PyProof.Rows L2 TL

/-! ### what is walked: its items, and what must stay true of what may change -/
abbrev DTI := DEnv → Mu → (List D → (Mu → Prop) → Mu → Prop) → Prop
def PostI [Ghost] (K : PySem.W.Frag) (H F : Hp) (M : Mu) (Rd : List D → (Mu → Prop) → Mu → Prop) (R : It → Hp → Prop) : Prop :=
  ∀ ds g M' F' H' J G Y, Rd ds g M' → Go H F M H' F' M' → Sv K H' F' M' → Walk J ds.length G Y →
    (∀ H2 F2 M2, Go H' F' M' H2 F2 M2 → Sv K H2 F2 M2 → g M2 → G H2) →
    (∀ i H1 F1 M1 x H2, i < ds.length → Go H' F' M' H1 F1 M1 → Sv K H1 F1 M1 → g M1 → Y i H1 x H2 → ∃ F2, Sv K H2 F2 M1 ∧ Go H1 F1 M1 H2 F2 M1 ∧ ∃ d, ds[i]? = some d ∧ Rp K F2 d x) → R J H'
def liftI [Ghost] (K : PySem.W.Frag) (u : DTI) : TI := fun σ H R => ∃ δ M F Rd, ERel K F δ σ ∧ Sv K H F M ∧ u δ M Rd ∧ PostI K H F M Rd R
abbrev DI [Ghost] (X : Cx) (tg iter : Expr) (u : DTI) : Prop := PI X tg iter (liftI X.K u)
theorem PI.weak {X : Cx} {tg e : Expr} {t t' : TI} (h : PI X tg e t) (i : ∀ σ H R, t' σ H R → t σ H R) : PI X tg e t' := ⟨fun pins s σ H R I q => h.run pins s σ H R I (i _ _ _ q)⟩
/-- range -/
def rngD (lo : Int) (n : Nat) : List D := (List.range n).map fun k => .int (lo + (k : Nat))
def diR1 (ua : DTA) : DTI := fun δ M R => ua δ M fun ds M1 => match ds with
  | [.int j] => -(2 ^ 62) ≤ j ∧ j < 2 ^ 62 ∧ R (rngD 0 j.toNat) (fun _ => True) M1
  | _ => False
def diR2 (ua : DTA) : DTI := fun δ M R => ua δ M fun ds M1 => match ds with
  | [.int i, .int j] => (-(2 ^ 62) ≤ i ∧ i < 2 ^ 62 ∧ -(2 ^ 62) ≤ j ∧ j < 2 ^ 62) ∧ R (rngD i (j - i).toNat) (fun _ => True) M1
  | _ => False
theorem rngD_len (lo : Int) (n : Nat) : (rngD lo n).length = n := by unfold rngD; rw [List.length_map, List.length_range]
theorem rngD_at {lo : Int} {n i : Nat} (h : i < n) : (rngD lo n)[i]? = some (.int (lo + (i : Nat))) := by
  unfold rngD
  rw [List.getElem?_map, List.getElem?_range h]
  rfl
theorem post_rng [Ghost] {K : PySem.W.Frag} {H F H1 F1 : Hp} {M M1 : Mu} {Rd : List D → (Mu → Prop) → Mu → Prop} {R : It → Hp → Prop} {lo : Int} {n : Nat} (po : PostI K H F M Rd R) (q : Rd (rngD lo n) (fun _ => True) M1) (g : Go H F M H1 F1 M1) (s : Sv K H1 F1 M1) : R (Itr lo n) H1 := by
  refine po (rngD lo n) _ M1 F1 H1 (Itr lo n) (fun _ => True) (YFn fun i => .int (lo + i)) q g s (by rw [rngD_len]; exact walk_range) (fun _ _ _ _ _ _ => trivial) fun i H2 F2 M2 x H3 hi g2 s2 _ y => ?_
  rw [rngD_len] at hi
  obtain ⟨e1, e2⟩ := y
  subst e1 e2
  exact ⟨F2, s2, Go.refl, _, rngD_at hi, by unfold Rp; rfl⟩
section
variable {X : Cx} {tg : Expr} {a b e : Expr} {ua : DTA} {ue : DTE} {p pos : Pos}
theorem di_r1 [Ghost] (hg : Gl X "range") (hm : X.mg "range" = none) (ha : DA X [a] ua) (hs : starEach [a] X.env = [(false, eval a X.env)] := by rfl) : DI X tg (.Call (.Name "range" p) [a] [] pos) (diR1 ua) := PI.weak (pi_range1 hg hm ha hs) fun σ H R h => by
  obtain ⟨δ, M, F, Rd, hE, s, hu, po⟩ := h
  refine ⟨δ, M, F, _, hE, s, hu, fun ds M1 F1 vs H1 q g s1 r => ?_⟩
  split at q
  · obtain ⟨v, e1, r1⟩ := r.one
    unfold Rp at r1
    subst r1
    exact ⟨_, e1, q.1, q.2.1, post_rng po q.2.2 g s1⟩
  · exact q.elim
theorem di_r2 [Ghost] (hg : Gl X "range") (hm : X.mg "range" = none) (ha : DA X [a, b] ua) (hs : starEach [a, b] X.env = [(false, eval a X.env), (false, eval b X.env)] := by rfl) (hs2 : starEach [b] X.env = [(false, eval b X.env)] := by rfl) : DI X tg (.Call (.Name "range" p) [a, b] [] pos) (diR2 ua) := PI.weak (pi_range2 hg hm ha hs hs2) fun σ H R h => by
  obtain ⟨δ, M, F, Rd, hE, s, hu, po⟩ := h
  refine ⟨δ, M, F, _, hE, s, hu, fun ds M1 F1 vs H1 q g s1 r => ?_⟩
  split at q
  · obtain ⟨v, u, e1, r1, r2⟩ := r.two
    unfold Rp at r1 r2
    subst r1 r2
    exact ⟨_, _, e1, q.1, post_rng po q.2 g s1⟩
  · exact q.elim
end
/-! a list, a tuple, a text -/
def iSeq (K : PySem.W.Frag) (tl : TE) : TI := fun σ H R => tl σ H fun x H1 => (∃ a, x = .ref a ∧ (((∃ xs, SqL K H1 a xs) ∧ R (Itl K a) H1) ∨ ((∃ xs, SqT K H1 a xs) ∧ R (Itt K a) H1))) ∨ ∃ z, x = .str z ∧ R (Its z) H1
theorem pi_seq {X : Cx} {tg l : Expr} {te : TE} (hl : PE X l te) : PI X tg l (iSeq X.K te) := by
  refine ⟨fun pins s σ H R I h => ?_⟩
  refine thn (hl.run pins s σ H _ I h) fun v s1 ⟨x, H1, I1, r1, q1⟩ => ?_
  rcases q1 with ⟨a, e, ⟨⟨xs, hq⟩, q⟩ | ⟨⟨xs, hq⟩, q⟩⟩ | ⟨z, e, q⟩
  · subst e
    cases r1
    obtain ⟨its, rv, p, hz⟩ := I1.list hq
    refine wpAny_pyIter_list p.isList ?_
    refine ⟨s1.heap.objs.size, [s1.heap.objs.size], _, _, H1, rfl, I1.kept (t' := s1.toks) fun b o e => Heap.get?_push_of_some _ e, turn_list a _, ⟨_, Heap.get?_push_size _ rfl, rfl, rfl⟩, fun b hb => ?_, q⟩
    have e : b = s1.heap.objs.size := by simpa using hb
    subst e
    exact I1.fpOk (Nat.le_refl _) (I1.hok.fresh (Nat.le_refl _))
  · subst e
    cases r1
    obtain ⟨its, rv, p, hz⟩ := I1.tuple hq
    refine wpAny_pyIter_tuple (show s1.heap.IsTuple a its.toArray from p) ?_
    refine ⟨s1.heap.objs.size, [s1.heap.objs.size], _, _, H1, rfl, I1.kept (t' := s1.toks) fun b o e => Heap.get?_push_of_some _ e, turn_tuple a _, ⟨_, Heap.get?_push_size _ rfl, rfl, rfl⟩, fun b hb => ?_, q⟩
    have e : b = s1.heap.objs.size := by simpa using hb
    subst e
    exact I1.fpOk (Nat.le_refl _) (I1.hok.fresh (Nat.le_refl _))
  · subst e
    obtain ⟨t, rfl⟩ := r1
    cases ha : z.cps.all (· < 128)
    · exact wpAny_pyIter_wide ha (pi_one (tk := s1.toks) I1 _ (turn_str _ z t "str_iterator" (.inr rfl)) ⟨_, Heap.get?_push_size _ rfl, rfl, rfl⟩ q)
    · exact wpAny_pyIter_ascii ha (pi_one (tk := s1.toks) I1 _ (turn_str _ z t "str_ascii_iterator" (.inl rfl)) ⟨_, Heap.get?_push_size _ rfl, rfl, rfl⟩ q)
/-- a list that may change: it must stand as it was at each turn -/
def diSeq (ue : DTE) : DTI := fun δ M R => ue δ M fun d M1 => match d with
  | .tup ds => R ds (fun _ => True) M1
  | .lst ds => R ds (fun _ => True) M1
  | .src ns => R (ns.map .int) (fun _ => True) M1
  | .str cs => R (cs.map fun c => .str [c]) (fun _ => True) M1
  | .ref a => match M1 a with
    | some (.lst ds) => R ds (fun M2 => M2 a = some (.lst ds)) M1
    | _ => False
  | _ => False
theorem di_seq [Ghost] {X : Cx} {tg e : Expr} {ue : DTE} (h : DE X e ue) : DI X tg e (diSeq ue) := PI.weak (pi_seq h) fun σ H R h => by
  obtain ⟨δ, M, F, Rd, hE, s, hu, po⟩ := h
  refine ⟨δ, M, F, _, hE, s, hu, fun d M1 F1 v H1 q g s1 r => ?_⟩
  have stay : ∀ {ds : List D} {xs : List V} {a : Addr} {g' : Mu → Prop}, Rd ds g' M1 → RpL X.K F1 ds xs → (∀ H2 F2 M2, Go H1 F1 M1 H2 F2 M2 → Sv X.K H2 F2 M2 → g' M2 → SqL X.K H2 a xs) → (∀ H2 F2 M2, Go H1 F1 M1 H2 F2 M2 → Sv X.K H2 F2 M2 → g' M2 → True) → SqL X.K H1 a xs → R (Itl X.K a) H1 := fun {ds xs a g'} q r hs _ h0 => by
    refine po ds g' M1 F1 H1 (Itl X.K a) (fun H => SqL X.K H a xs) (YAt xs) q g s1 (by rw [r.len]; exact walk_list) hs fun i H2 F2 M2 x H3 hi g2 s2 _ y => ?_
    obtain ⟨e1, e2⟩ := y
    subst e1
    obtain ⟨d, e3, r3⟩ := (r.mono g2.le).getV e2
    exact ⟨F2, s2, Go.refl, d, e3, r3⟩
  cases d with
  | tup ds =>
    unfold Rp at r
    obtain ⟨a, xs, e1, h1, r1⟩ := r
    subst e1
    refine .inl ⟨a, rfl, .inr ⟨⟨xs, s1.fh.sqT h1⟩, ?_⟩⟩
    refine po ds _ M1 F1 H1 (Itt X.K a) (fun H => SqT X.K H a xs) (YAt xs) q g s1 (by rw [r1.len]; exact walk_tup) (fun H2 F2 M2 g2 s2 _ => s2.fh.sqT (g2.le.sqT h1)) fun i H2 F2 M2 x H3 hi g2 s2 _ y => ?_
    obtain ⟨e1, e2⟩ := y
    subst e1
    obtain ⟨d, e3, r3⟩ := (r1.mono g2.le).getV e2
    exact ⟨F2, s2, Go.refl, d, e3, r3⟩
  | lst ds =>
    unfold Rp at r
    obtain ⟨a, xs, e1, h1, r1⟩ := r
    subst e1
    have hl : SqL X.K F1 a xs := .inl (.inl h1)
    exact .inl ⟨a, rfl, .inl ⟨⟨xs, s1.fh.sqL hl⟩, stay q r1 (fun H2 F2 M2 g2 s2 _ => s2.fh.sqL (g2.le.sqL hl)) (fun _ _ _ _ _ _ => trivial) (s1.fh.sqL hl)⟩⟩
  | src ns =>
    unfold Rp at r
    obtain ⟨a, e1, h1⟩ := r
    subst e1
    exact .inl ⟨a, rfl, .inl ⟨⟨_, s1.fh.sqL h1⟩, stay q RpL.ints (fun H2 F2 M2 g2 s2 _ => s2.fh.sqL (g2.le.sqL h1)) (fun _ _ _ _ _ _ => trivial) (s1.fh.sqL h1)⟩⟩
  | str cs =>
    unfold Rp at r
    subst r
    refine .inr ⟨_, rfl, ?_⟩
    refine po _ _ M1 F1 H1 (Its (mkS cs)) (fun _ => True) _ q g s1 (by rw [List.length_map]; exact walk_str) (fun _ _ _ _ _ _ => trivial) fun i H2 F2 M2 x H3 hi g2 s2 _ y => ?_
    obtain ⟨e1, c, e2, e3⟩ := y
    subst e1 e3
    refine ⟨F2, s2, Go.refl, .str [c], ?_, by unfold Rp; rfl⟩
    rw [List.getElem?_map]
    have e4 : cs[i]? = some c := by simpa [mkS] using e2
    rw [e4]
    rfl
  | ref a =>
    unfold Rp at r
    subst r
    have q' : (match M1 a with | some (.lst ds) => Rd ds (fun M2 => M2 a = some (.lst ds)) M1 | _ => False) := q
    split at q'
    · rename_i ds e
      obtain ⟨ho, e2, xs, e3, r2⟩ := s1.mu a _ e
      subst e3
      refine .inl ⟨a, rfl, .inl ⟨⟨xs, .inl (.inl e2)⟩, ?_⟩⟩
      have w : Walk (Itl X.K a) ds.length (fun H => ∃ ys, SqL X.K H a ys ∧ ys.length = ds.length) (fun i H x H' => H' = H ∧ ∀ ys, SqL X.K H a ys → ys[i]? = some x) :=
        ⟨fun i _ hi ⟨ys, h1, h2⟩ => ⟨ys, ys[i]'(by omega), h1, by simp [show i < ys.length by omega]⟩, fun _ ⟨ys, h1, h2⟩ => ⟨ys, h1, by omega⟩, fun _ _ _ _ _ _ y => y⟩
      refine po ds _ M1 F1 H1 (Itl X.K a) _ _ q' g s1 w (fun H2 F2 M2 g2 s2 e4 => ?_) fun i H2 F2 M2 x H3 hi g2 s2 e4 y => ?_
      · obtain ⟨ho, e5, ys, e6, r6⟩ := s2.mu a _ e4
        subst e6
        exact ⟨ys, .inl (.inl e5), r6.len.symm⟩
      · obtain ⟨ho, e5, ys, e6, r6⟩ := s2.mu a _ e4
        subst e6
        obtain ⟨e1, e7⟩ := y
        subst e1
        obtain ⟨d, e3, r3⟩ := r6.getV (e7 ys (.inl (.inl e5)))
        exact ⟨F2, s2, Go.refl, d, e3, r3⟩
    · exact q'.elim
  | _ => exact q.elim

/-! ### for -/
def dForGo (g : Mu → Prop) (tg : DTg) (b : DTS) (E : DEnds) : List D → DEnv → Mu → Prop
  | [], δ, M => g M ∧ E.nx δ M
  | x :: xs, δ, M => g M ∧ tg x δ M fun δ' M' => b { E with nx := dForGo g tg b E xs, ct := dForGo g tg b E xs, bk := E.nx } δ' M'
def dFor (di : DTI) (tg : DTg) (b : DTS) : DTS := fun D δ M => di δ M fun ds g M1 => dForGo g tg b D ds δ M1
theorem drop_at {α : Type} {l : List α} {i : Nat} {d : α} (h : l[i]? = some d) : l.drop i = d :: l.drop (i + 1) := by
  obtain ⟨h1, h2⟩ := List.getElem?_eq_some_iff.mp h
  rw [List.drop_eq_getElem_cons h1, h2]
theorem ds_for [Ghost] {X : Cx} {tg iter : Expr} {body : List Stmt} {di : DTI} {g : TG} {dg : DTg} {tb : DTS} {vs : List Nat} {pos : Pos} (hp : PassesOwn (model X.prog X.w) X.A X.env X.xe) (hc : X.calm = true) (hi : DI X tg iter di) (hg : PG X tg g) (hr : RelG X.K vs g dg) (hb : DSs X body tb)
    (hs : ∀ x, foldedSetIterable iter X.env x = pure x := by intro _; rfl) : DS X (.For tg iter body [] pos) (dFor di dg tb) := PS.weak (ps_for hp hc hi hg hb hs) fun D σ H h => by
  obtain ⟨δ, M, F, Dd, hE, s, hu, p⟩ := h
  refine ⟨δ, M, F, _, hE, s, hu, fun ds gd M1 F1 H1 J G Y q g1 s1 w hG hY => ?_⟩
  refine for_it w (fun i σ' H' => ∃ δ' M' F', dForGo gd dg tb Dd (ds.drop i) δ' M' ∧ ERel X.K F' δ' σ' ∧ Sv X.K H' F' M' ∧ Go H1 F1 M1 H' F' M') ⟨δ, M1, F1, q, hE.mono g1.le, s1, Go.refl⟩ ?_ ?_ ?_
  · rintro i σ' H' hi ⟨δ', M', F', q', e', s', g'⟩
    refine hG H' F' M' g' s' ?_
    cases hd : ds.drop i with
    | nil => rw [hd] at q'; exact q'.1
    | cons x xs => rw [hd] at q'; exact q'.1
  · rintro i x σ' H' H2 hi ⟨δ', M', F', q', e', s', g'⟩ y
    have hgd : gd M' := by
      cases hd : ds.drop i with
      | nil => rw [hd] at q'; exact q'.1
      | cons x xs => rw [hd] at q'; exact q'.1
    obtain ⟨F2, s2, g2, d, e2, r2⟩ := hY i H' F' M' x H2 hi g' s' hgd y
    rw [drop_at e2] at q'
    refine hr d x δ' σ' σ' H2 F2 M' _ _ r2 (e'.mono g2.le) s2 q'.2 (fun δ3 M3 F3 σ3 H3 q3 g3 s3 e3 _ => ?_) rfl
    have gg := (g'.trans g2).trans g3
    refine ⟨δ3, M3, F3, _, e3, s3, q3, ⟨?_, p.rt.go (g1.trans gg), p.nx.go (g1.trans gg), ?_⟩⟩
    · intro δ4 M4 F4 σ4 H4 q4 g4 s4 e4
      exact ⟨δ4, M4, F4, q4, e4, s4, gg.trans g4⟩
    · intro δ4 M4 F4 σ4 H4 q4 g4 s4 e4
      exact ⟨δ4, M4, F4, q4, e4, s4, gg.trans g4⟩
  · rintro σ' H' ⟨δ', M', F', q', e', s', g'⟩
    rw [List.drop_length] at q'
    exact p.nx _ _ _ _ _ q'.2 (g1.trans g') s' e'

/-! ### comprehensions -/
def dwipe (δ : DEnv) : List Nat → DEnv
  | [] => δ
  | v :: vs => (dwipe δ vs).set v none
theorem ERel.setN {K : PySem.W.Frag} {F : Hp} {δ : DEnv} {σ : L2.St} {i : Nat} (h : ERel K F δ σ) : ERel K F (δ.set i none) (σ.set i none) := by
  refine ⟨by rw [List.length_set, List.length_set]; exact h.1, fun j e hj => ?_⟩
  by_cases hji : i = j
  · subst hji
    by_cases hl : i < δ.length
    · rw [List.getElem?_set_self hl] at hj; cases hj
    · rw [List.getElem?_eq_none (by rw [List.length_set]; omega)] at hj; cases hj
  · rw [List.getElem?_set_ne hji] at hj ⊢
    exact h.2 j e hj
theorem ERel.wipe {K : PySem.W.Frag} {F : Hp} {δ : DEnv} {σ : L2.St} (h : ERel K F δ σ) : ∀ vs : List Nat, ERel K F (dwipe δ vs) (L2.wipe σ vs)
  | [] => h
  | v :: vs => (ERel.wipe h vs).setN
def dLcGo (g : Mu → Prop) (tg : DTg) (tt : DTT) (te : DTE) (δw : DEnv) : List D → List D → Mu → (List D → Mu → Prop) → Prop
  | [], acc, M, Q => g M ∧ Q acc M
  | x :: xs, acc, M, Q => g M ∧ tg x δw M fun δ' M' => tt δ' M' fun b M1 => match b with
    | true => te δ' M1 fun y M2 => acc.length < sizeLine ∧ dLcGo g tg tt te δw xs (acc ++ [y]) M2 Q
    | false => dLcGo g tg tt te δw xs acc M1 Q
def dLc (mu : Bool) (di : DTI) (tg : DTg) (tt : DTT) (te : DTE) (vs : List Nat) : DTE := fun δ M Q => di δ M fun ds g M1 => dLcGo g tg tt te (dwipe δ vs) ds [] M1 fun acc M2 => dNew mu acc M2 Q
def dYes : DTT := fun _ M Q => Q true M
abbrev DPs [Ghost] (X : Cx) (ifs : List Expr) (t : DTT) : Prop := PTs X ifs (liftT X.K t)
theorem dps_nil [Ghost] {X : Cx} : DPs X [] dYes := ⟨fun pins s σ H Q I h => by
  obtain ⟨δ, M, F, Qd, hE, sv, hu, p⟩ := h
  exact pts_nil.run pins s σ H Q I (p _ _ _ _ hu Go.refl sv)⟩
theorem dps_one [Ghost] {X : Cx} {c : Expr} {t : DTT} (h : DT X c t) : DPs X [c] t := pts_one h
theorem lc_rel [Ghost] {K : PySem.W.Frag} {mu : Bool} {di : DTI} {g : TG} {dg : DTg} {tt : DTT} {te : DTE} {vs : List Nat} (hr : RelG K vs g dg) : ∀ σ H Q, lift K (dLc mu di dg tt te vs) σ H Q → tLc (liftI K di) g (liftT K tt) (lift K te) vs σ H Q := fun σ H Q h => by
  obtain ⟨δ, M, F, Qd, hE, s, hu, p⟩ := h
  refine ⟨δ, M, F, _, hE, s, hu, fun ds gd M1 F1 H1 J G Y q g1 s1 w hG hY => ?_⟩
  intro D hD
  have fr := s1.fresh hD
  -- the list that is made: hidden
  have s0' : Sv0 K (upd H1 D (.lst [])) F1 M1 := by
    refine ⟨fun b o e => ?_, s1.fm, fun a o e => ?_⟩
    · rw [upd_ne (ne_of_none e fr.1)]; exact s1.fh b o e
    · obtain ⟨ho, e2, r2⟩ := s1.mu a o e
      exact ⟨ho, by rw [upd_ne (ne_of_none e2 hD)]; exact e2, r2⟩
  have g1' : Go H1 F1 M1 (upd H1 D (.lst [])) F1 M1 := ⟨Le.refl _, fun b o e m => ⟨by rw [upd_ne (ne_of_none e hD)]; exact e, m, fun z => z⟩⟩
  have s1' : Sv K (upd H1 D (.lst [])) F1 M1 := (svgo s1 s0' g1').1
  refine lc_it w (fun i H' => ∃ M' F' acc xs, dLcGo gd dg tt te (dwipe δ vs) (ds.drop i) acc M' (fun acc M2 => dNew mu acc M2 Qd) ∧ Sv K H' F' M' ∧ Go H1 F1 M1 H' F' M' ∧ H' D = some (.lst xs) ∧ M' D = none ∧ F' D = none ∧ RpL K F' acc xs)
    ⟨M1, F1, [], [], q, s1', g1', upd_same, fr.2, fr.1, RpL.nil⟩ ?_ ?_ ?_
  · rintro i H' hi ⟨M', F', acc, xs, q', s', g', eD, mD, fD, r⟩
    refine hG H' F' M' g' s' ?_
    cases hd : ds.drop i with
    | nil => rw [hd] at q'; exact q'.1
    | cons x xs => rw [hd] at q'; exact q'.1
  · rintro i x H' H2 hi ⟨M', F', acc, xs, q', s', g', eD, mD, fD, r⟩ y
    have hgd : gd M' := by
      cases hd : ds.drop i with
      | nil => rw [hd] at q'; exact q'.1
      | cons x xs => rw [hd] at q'; exact q'.1
    obtain ⟨F2, s2, g2, d, e2, r2⟩ := hY i H' F' M' x H2 hi g' s' hgd y
    rw [drop_at e2] at q'
    have ew : ERel K F2 (dwipe δ vs) (L2.wipe σ vs) := (hE.mono (g1.le.trans (g'.le.trans g2.le))).wipe vs
    refine hr d x _ _ (L2.wipe σ vs) H2 F2 M' _ _ r2 ew s2 q'.2 (fun δ3 M3 F3 σ3 H3 q3 g3 s3 e3 w3 => ⟨?_, ?_⟩) rfl
    · rw [w3]
      clear q q' hG hY
      refine List.ext_getElem? fun j => ?_
      by_cases hj : j ∈ vs
      · by_cases hl : j < σ.length
        · rw [wipe_in hj (by rw [wipe_length]; exact hl), wipe_in hj hl]
        · rw [List.getElem?_eq_none (by rw [wipe_length, wipe_length]; omega), List.getElem?_eq_none (by rw [wipe_length]; omega)]
      · rw [wipe_out hj]
    · refine ⟨δ3, M3, F3, _, e3, s3, q3, fun b M4 F4 H4 q4 g4 s4 => ?_⟩
      cases b with
      | false =>
        rw [if_neg Bool.false_ne_true]
        have gg := (g2.trans g3).trans g4
        obtain ⟨h1, h2, h3⟩ := gg.kp D _ eD mD
        exact ⟨M4, F4, acc, xs, q4, s4, g'.trans gg, h1, h2, h3 fD, r.mono gg.le⟩
      | true =>
        rw [if_pos rfl]
        refine ⟨δ3, M4, F4, _, e3.mono g4.le, s4, q4, fun z M5 F5 v H5 q5 g5 s5 r5 => ?_⟩
        have gg := ((g2.trans g3).trans g4).trans g5
        obtain ⟨h1, h2, h3⟩ := gg.kp D _ eD mD
        have rr := r.mono gg.le
        have hD5 : H1 D = none := hD
        have g6 := g'.trans gg
        suffices zz : Sv0 K (upd H5 D (.lst (xs ++ [v]))) F5 M5 ∧ Go H1 F1 M1 (upd H5 D (.lst (xs ++ [v]))) F5 M5 from
          ⟨xs, h1, by rw [← r.len]; exact q5.1, M5, F5, acc ++ [z], xs ++ [v], q5.2, (svgo s1 zz.1 zz.2).1, zz.2, upd_same, h2, h3 fD, rr.snoc r5⟩
        refine ⟨?_, ?_⟩
        · refine ⟨fun b o e => ?_, s5.fm, fun a o e => ?_⟩
          · rw [upd_ne (fun z => by rw [z, h3 fD] at e; cases e)]; exact s5.fh b o e
          · obtain ⟨ho, e2, r2⟩ := s5.mu a o e
            exact ⟨ho, by rw [upd_ne (fun z => by rw [z, h2] at e; cases e)]; exact e2, r2⟩
        · refine ⟨g6.le, fun b o e m => ?_⟩
          obtain ⟨k1, k2, k3⟩ := g6.kp b o e m
          exact ⟨by rw [upd_ne (ne_of_none e hD5)]; exact k1, k2, k3⟩
  · rintro H' ⟨M', F', acc, xs, q', s', g', eD, mD, fD, r⟩
    rw [List.drop_length] at q'
    have po := p.go g1
    have q2 := q'.2
    have nD : ∀ b o, H1 b = some o → b ≠ D := fun b o e => ne_of_none e hD
    cases mu with
    | false =>
      have l : Le F' (upd F' D (.lst xs)) := Le.new fD
      suffices zz : Go H1 F1 M1 H' (upd F' D (.lst xs)) M' ∧ Sv0 K H' (upd F' D (.lst xs)) M' ∧ Rp K (upd F' D (.lst xs)) (.lst acc) (.ref D) from
        po _ M' (upd F' D (.lst xs)) _ _ q2 zz.1 (svgo s1 zz.2.1 zz.1).1 zz.2.2
      refine ⟨⟨g'.le.trans l, fun b o e m => ?_⟩, ⟨fun b o e => ?_, fun b o e => ?_, fun a o e => ?_⟩, ?_⟩
      · obtain ⟨k1, k2, k3⟩ := g'.kp b o e m
        exact ⟨k1, k2, fun z => by rw [upd_ne (nD b o e)]; exact k3 z⟩
      · by_cases hb : b = D
        · subst hb; rw [upd_same] at e; cases e; exact eD
        · rw [upd_ne hb] at e; exact s'.fh b o e
      · by_cases hb : b = D
        · subst hb; exact mD
        · rw [upd_ne hb] at e; exact s'.fm b o e
      · obtain ⟨ho, e2, r2⟩ := s'.mu a o e
        exact ⟨ho, e2, r2.mono l⟩
      · unfold Rp
        exact ⟨D, xs, rfl, upd_same, r.mono l⟩
    | true =>
      suffices zz : Go H1 F1 M1 H' F' (mset M' D (.lst acc)) ∧ Sv0 K H' F' (mset M' D (.lst acc)) from
        po _ (mset M' D (.lst acc)) F' _ _ (q2 D mD) zz.1 (svgo s1 zz.2 zz.1).1 (by unfold Rp; rfl)
      refine ⟨⟨g'.le, fun b o e m => ?_⟩, ⟨s'.fh, fun b o e => ?_, fun a o e => ?_⟩⟩
      · obtain ⟨k1, k2, k3⟩ := g'.kp b o e m
        exact ⟨k1, by rw [mset_ne (nD b o e)]; exact k2, k3⟩
      · rw [mset_ne (fun z => by rw [z, fD] at e; cases e)]; exact s'.fm b o e
      · by_cases ha : a = D
        · subst ha
          rw [mset_same] at e
          cases e
          exact ⟨_, eD, xs, rfl, r⟩
        · rw [mset_ne ha] at e
          exact s'.mu a o e
section
variable {X : Cx} {elt tg iter : Expr} {ifs : List Expr} {scope : Scope} {own : List (Str × Nat)} {pos : Pos} {di : DTI} {g : TG} {dg : DTg} {tt : DTT} {te : DTE}
theorem de_lc [Ghost] (mu : Bool) (hc : X.calm = true) (hN : X.N.Nodup) (hi : DI X tg iter di) (ok : BlkOk X.N X.env.scope scope own) (hr : RelG X.K (own.map (·.2)) g dg)
    (hg : ∀ (s : Shared) (H : Hp) (C : Addr) (cl : List (Str × Addr)) (fp : List Addr), PG (X.blk s H scope (compEnvC scope cl C X.env) fp) tg g) (ht : ∀ (s : Shared) (H : Hp) (C : Addr) (cl : List (Str × Addr)) (fp : List Addr), DPs (X.blk s H scope (compEnvC scope cl C X.env) fp) ifs tt)
    (he : ∀ (s : Shared) (H : Hp) (C : Addr) (cl : List (Str × Addr)) (fp : List Addr), DE (X.blk s H scope (compEnvC scope cl C X.env) fp) elt te) (hs : ∀ x, foldedSetIterable iter X.env x = pure x := by intro _; rfl) :
    DE X (.ListComp elt [⟨tg, iter, ifs, 0⟩] scope pos) (dLc mu di dg tt te (own.map (·.2))) := PE.weak (pe_lc hc hN hi ok hg ht he hs) (lc_rel hr)
theorem ds_setLc [Ghost] (mu : Bool) {i : Nat} {y : Str} {py : Pos} {spos : Pos} (hc : X.calm = true) (hN : X.N.Nodup) (hi : DI X tg iter di) (ok : BlkOk X.N X.env.scope scope own) (hr : RelG X.K (own.map (·.2)) g dg)
    (hg : ∀ (s : Shared) (H : Hp) (C : Addr) (cl : List (Str × Addr)) (fp : List Addr), PG (X.blk s H scope (compEnvC scope cl C X.env) fp) tg g) (ht : ∀ (s : Shared) (H : Hp) (C : Addr) (cl : List (Str × Addr)) (fp : List Addr), DPs (X.blk s H scope (compEnvC scope cl C X.env) fp) ifs tt)
    (he : ∀ (s : Shared) (H : Hp) (C : Addr) (cl : List (Str × Addr)) (fp : List Addr), DE (X.blk s H scope (compEnvC scope cl C X.env) fp) elt te)
    (hsw : swapsWith (.ListComp elt [⟨tg, iter, ifs, 0⟩] scope pos) (some (.Name y py)) spos.line X.env = pure true) (hy : X.N[i]? = some y := by rfl) (hyl : X.env.scope.names.lookup y = some .local := by rfl) (hs : ∀ x, foldedSetIterable iter X.env x = pure x := by intro _; rfl) :
    DS X (.Assign [.Name y py] (.ListComp elt [⟨tg, iter, ifs, 0⟩] scope pos) spos) (dAs (dLc mu di dg tt te (own.map (·.2))) (dgN i)) := PS.weak (ps_setLc hc hN hy hyl hsw hi ok hg ht he hs) fun D σ H h => by
  obtain ⟨δ, M, F, Dd, hE, s, hu, p⟩ := h
  exact lc_rel hr σ H _ ⟨δ, M, F, _, hE, s, hu, fun d M' F' v H' q g s' r => p.nx _ _ _ _ _ q g s' ((hE.mono g.le).set r)⟩
end

/-! ### defs -/
/-- an exception: the name of its class, its fields -/
structure DX where
  cls : Str
  ns : List Str
  ds : List D
abbrev DXK := DX → Mu → Prop
abbrev DSp := List D → Mu → DK → DXK → Prop
/-- a class of the module -/
def clA (K : PySem.W.Frag) (c : Str) : Addr := He.ga K c
/-- x's dict stands at d, among what stays -/
def RpX (K : PySem.W.Frag) (F : Hp) (x : DX) (d : Option Addr) : Prop := ∃ a vs, d = some a ∧ F a = some (.xd (x.ns.zip vs)) ∧ x.ns.length = vs.length ∧ RpL K F x.ds vs
def PostX [Ghost] (K : PySem.W.Frag) (H F : Hp) (M : Mu) (Ed : DXK) (E : XK) : Prop := ∀ x M' F' d H', Ed x M' → Go H F M H' F' M' → Sv K H' F' M' → RpX K F' x d → E (.ref (clA K x.cls)) d H'
theorem PostX.go [Ghost] {K : PySem.W.Frag} {H F H1 F1 : Hp} {M M1 : Mu} {Ed : DXK} {E : XK} (p : PostX K H F M Ed E) (g : Go H F M H1 F1 M1) : PostX K H1 F1 M1 Ed E := fun x M' F' d H' q g' s r => p x M' F' d H' q (g.trans g') s r
abbrev dX0 : DXK := fun _ _ => False
theorem Post.re {G G' : Ghost} {K : PySem.W.Frag} {H F : Hp} {M : Mu} {Qd : DK} {Q : VK} (s : @Sv G K H F M) (p : @Post G K H F M Qd Q) : @Post G' K H F M Qd Q := fun d M' F' v H' q g s' r => p d M' F' v H' q g (@svgo G _ _ _ _ _ _ _ s s'.toSv0 g).1 r
theorem post0 [Ghost] {K : PySem.W.Frag} {H F : Hp} {M : Mu} {E : XK} : PostX K H F M dX0 E := fun _ _ _ _ _ q _ _ _ => q.elim
def liftSpG [Ghost] (K : PySem.W.Frag) (sp : DSp) : Sp := fun vs H Q E => ∃ ds M F Qd Ed, RpL K F ds vs ∧ Sv K H F M ∧ sp ds M Qd Ed ∧ Post K H F M Qd Q ∧ PostX K H F M Ed E
/-- .. where nothing is remembered -/
abbrev liftSp (K : PySem.W.Frag) (sp : DSp) : Sp := @liftSpG gh0 K sp
/-- a call of a def whose promise is sp; ds: the defaults that fill up -/
def dCall (sp : DSp) (dds : List D) (E : DXK) (ua : DTA) : DTE := fun δ M Q => ua δ M fun ds M1 => sp (ds ++ dds) M1 Q E
section
variable {X : Cx} {CX : CXT} {k : Nat} {f : Addr} {fd : FuncData} {ps : List Str} {sp : DSp} {dvs : List V} {dds : List D} {ds : List Value} {x : Str} {p pos : Pos} {e : Expr} {es : List Expr} {ua : DTA}
theorem call_rel [Ghost] (hd : ∀ F, RpL X.K F dds dvs) : ∀ σ H Q, lift X.K (dCall sp dds dX0 ua) σ H Q → tCall (liftSp X.K sp) dvs E0 (liftA X.K ua) σ H Q := fun σ H Q h => by
  obtain ⟨δ, M, F, Qd, hE, s, hu, p⟩ := h
  exact ⟨δ, M, F, _, hE, s, hu, fun ds M1 F1 vs H1 q g s1 r => ⟨_, M1, F1, Qd, dX0, r.app (hd F1), s1.re gh0 trivial, q, (p.go g).re s1, @post0 gh0 _ _ _ _ _⟩⟩
/-- f(e, ..), nothing is raised -/
theorem de_call [Ghost] (F : FnOk X.prog X.w X.K X.mg X.base CX0 k f fd ps (liftSp X.K sp)) (hr : Room k X.A) (hm : X.mg x = some (.ref f)) (hk : PySem.W.keepIn X.K (.ref f) = true) (hb : Binds X.K fd ps ds) (hd : Vals dvs ds) (hdd : ∀ F, RpL X.K F dds dvs)
    (ha : DA X (e :: es) ua) (hg : Gl X x := by rfl) (hdb : (x == ("__debug__" : Str)) = false := by decide) (he : starEach (e :: es) X.env = (false, eval e X.env) :: starEach es X.env := by rfl) (hpl : (backTo pos (starEach es X.env)).any (·.1) = false := by rfl) :
    DE X (.Call (.Name x p) (e :: es) [] pos) (dCall sp dds dX0 ua) := PE.weak (pe_call F hr hg hm hk hb hd pass0 ha hdb he hpl) (call_rel hdd)
theorem de_call0 [Ghost] (F : FnOk X.prog X.w X.K X.mg X.base CX0 k f fd ps (liftSp X.K sp)) (hr : Room k X.A) (hm : X.mg x = some (.ref f)) (hk : PySem.W.keepIn X.K (.ref f) = true) (hb : Binds X.K fd ps ds) (hd : Vals dvs ds) (hdd : ∀ F, RpL X.K F dds dvs)
    (hg : Gl X x := by rfl) (hdb : (x == ("__debug__" : Str)) = false := by decide) :
    DE X (.Call (.Name x p) [] [] pos) (dCall sp dds dX0 dNil) := PE.weak (pe_call0 F hr hg hm hk hb hd pass0 hdb) fun σ H Q h => by
  obtain ⟨δ, M, F, Qd, hE, s, hu, p⟩ := call_rel hdd σ H Q h
  exact p _ _ _ _ _ hu Go.refl s RpL.nil
end
/-- what a def's body is to reach -/
def dEnd (Q : DK) : DEnds := { nx := fun _ M => Wq Q .non M, rt := Wq Q }
def dstart (n : Nat) (ds : List D) : DEnv := ds.map some ++ List.replicate (n - ds.length) none
/-- THE RULE: a def that raises nothing, by its body's reading t -/
theorem dfn {P : Program} {w : World} {K : PySem.W.Frag} {mg : Str → Option Value} {base : Heap} {x qual : Str} {params : Arguments} {body : List Stmt} {scope : Scope} {dvs : List V} {kws : List (Str × V)} {f : Addr} {fd : FuncData} {N ps : List Str} {k : Nat} {sp : DSp} {t : DTS}
    (Fd : FunD K x qual params body scope dvs kws f fd) (S : FnScope N ps scope) (len : ∀ ds M Q E, sp ds M Q E → ds.length = ps.length)
    (hb : ∀ (cdv : Value) (A : Around) (outer : List Env) (s : Shared) (H : Hp) (E : XK), Room k (A.deeper (envOfC qual scope s.heap.objs.size f cdv)) → @DSs gh0 (cxOf CX0 P w K mg base N qual scope f cdv A outer s H E).nox body t)
    (hs : ∀ ds M Q E, sp ds M Q E → t (dEnd Q) (dstart N.length ds) M) : FnOk P w K mg base CX0 (k + 1) f fd ps (liftSp K sp) := by
  refine Fd.ok S (fun vs H Q E h => ?_) (fun cdv A outer s H vs Q E hr h => ⟨@liftS gh0 K t, PSs.nox (hb cdv A outer s H E hr), ?_⟩)
  · obtain ⟨ds, M, F, Qd, Ed, r, _, h, _⟩ := h
    rw [← r.len]
    exact len _ _ _ _ h
  · obtain ⟨ds, M, F, Qd, Ed, r, sv, h, po, px⟩ := h
    let _i : Ghost := gh0
    have pe : PostS K H F M (dEnd Qd) { nx := fun _ H' => Q .non H', rt := Q } := ⟨fun δ' M' F' σ' H' q g s' e => po.wq _ _ _ _ _ q g s' (by unfold Rp; rfl), po.wq, fun _ _ _ _ _ q => q.elim, fun _ _ _ _ _ q => q.elim⟩
    exact ⟨dstart N.length ds, M, F, dEnd Qd, ERel.start r, sv, hs ds M Qd Ed h, pe⟩
end DL

namespace DL
open PySem PySem.Spec PyProof.Rows L2 TL

/-! ### defs and constants of the module by their names -/
/-- the def x stands there, as the text says -/
def DefAt (K : PySem.W.Frag) (mg : Str → Option Value) (x : Str) (st : Stmt) : Prop := ∃ f fd, FunD K x x (defArgs st) (defBody st) (defScope st) [] [] f fd ∧ mg x = some (.ref f)
/-- the def x may be called with this promise -/
def Cal (P : Program) (w : World) (K : PySem.W.Frag) (mg : Str → Option Value) (base : Heap) (k : Nat) (x : Str) (ps : List Str) (sp : DSp) : Prop :=
  ∃ f fd, FnOk P w K mg base CX0 k f fd ps (liftSp K sp) ∧ mg x = some (.ref f) ∧ PySem.W.keepIn K (.ref f) = true ∧ Binds K fd ps []
theorem Cal.mono {P : Program} {w : World} {K : PySem.W.Frag} {mg : Str → Option Value} {base : Heap} {j k : Nat} {x : Str} {ps : List Str} {sp : DSp} (c : Cal P w K mg base j x ps sp) (h : j ≤ k) : Cal P w K mg base k x ps sp := by
  obtain ⟨f, fd, F, m, kp, b⟩ := c
  exact ⟨f, fd, F.mono h, m, kp, b⟩
/-- a weaker promise -/
theorem Cal.imp {P : Program} {w : World} {K : PySem.W.Frag} {mg : Str → Option Value} {base : Heap} {k : Nat} {x : Str} {ps : List Str} {sp sp' : DSp} (c : Cal P w K mg base k x ps sp) (h : ∀ ds M Q E, sp' ds M Q E → sp ds M Q E) : Cal P w K mg base k x ps sp' := by
  obtain ⟨f, fd, F, m, kp, b⟩ := c
  refine ⟨f, fd, F.imp fun vs H Q E q => ?_, m, kp, b⟩
  obtain ⟨ds, M, F, Qd, Ed, r, s, q, p1, p2⟩ := q
  exact ⟨ds, M, F, Qd, Ed, r, s, h _ _ _ _ q, p1, p2⟩
section
variable {X : Cx} {k : Nat} {ps : List Str} {sp : DSp} {x : Str} {p pos : Pos} {e : Expr} {es : List Expr} {ua : DTA}
theorem de_cal [Ghost] (C : Cal X.prog X.w X.K X.mg X.base k x ps sp) (hr : Room k X.A) (ha : DA X (e :: es) ua) (hg : Gl X x := by rfl) (hdb : (x == ("__debug__" : Str)) = false := by decide)
    (he : starEach (e :: es) X.env = (false, eval e X.env) :: starEach es X.env := by rfl) (hpl : (backTo pos (starEach es X.env)).any (·.1) = false := by rfl) : DE X (.Call (.Name x p) (e :: es) [] pos) (dCall sp [] dX0 ua) := by
  obtain ⟨f, fd, F, m, kp, b⟩ := C
  exact de_call F hr m kp b .nil (fun _ => RpL.nil) ha hg hdb he hpl
theorem de_cal0 [Ghost] (C : Cal X.prog X.w X.K X.mg X.base k x ps sp) (hr : Room k X.A) (hg : Gl X x := by rfl) (hdb : (x == ("__debug__" : Str)) = false := by decide) : DE X (.Call (.Name x p) [] [] pos) (dCall sp [] dX0 dNil) := by
  obtain ⟨f, fd, F, m, kp, b⟩ := C
  exact de_call0 F hr m kp b .nil (fun _ => RpL.nil) hg hdb
end
/-- THE RULE -/
theorem cal_of {P : Program} {w : World} {K : PySem.W.Frag} {mg : Str → Option Value} {base : Heap} {x : Str} {st : Stmt} {N ps : List Str} {k : Nat} {sp : DSp} {t : DTS} (d : DefAt K mg x st) (S : FnScope N ps (defScope st))
    (len : ∀ ds M Q E, sp ds M Q E → ds.length = ps.length)
    (hbind : ∀ (kV doc pm : Value) (an : Option Addr) (cdv ct : Value) (us : List Value), us.length = ps.length → bindArgs (PySem.W.fnOf x x (defArgs st) (defBody st) (defScope st) .none kV doc pm an cdv ct) ⟨us, []⟩ = pure (ps.zip us))
    (hb : ∀ (f : Addr) (cdv : Value) (A : Around) (outer : List Env) (s : Shared) (H : Hp) (E : XK), Room k (A.deeper (envOfC x (defScope st) s.heap.objs.size f cdv)) → @DSs gh0 (cxOf CX0 P w K mg base N x (defScope st) f cdv A outer s H E).nox (defBody st) t)
    (hs : ∀ ds M Q E, sp ds M Q E → t (dEnd Q) (dstart N.length ds) M) : Cal P w K mg base (k + 1) x ps sp := by
  obtain ⟨f, fd, F, m⟩ := d
  exact ⟨f, fd, dfn F S len (hb f) hs, m, F.kp, F.bindsN hbind⟩
/-- a constant of the module -/
def GC (K : PySem.W.Frag) (mg : Str → Option Value) (x : Str) (d : D) : Prop := ∃ u v, mg x = some u ∧ RelV v u ∧ ∀ F, Rp K F d v
theorem de_gc [Ghost] {X : Cx} {x : Str} {pos : Pos} {d : D} (c : GC X.K X.mg x d) (hg : Gl X x := by rfl) (hd : (x == ("__debug__" : Str)) = false := by decide) : DE X (.Name x pos) (dC d) := by
  obtain ⟨u, v, m, r, rp⟩ := c
  exact de_glob hg m r rp hd
/-- an entry of a dict of the module -/
def GD (K : PySem.W.Frag) (mg : Str → Option Value) (w : World) (x key : Str) (d : D) : Prop := ∃ a v, mg x = some (.ref a) ∧ KDct K w a key v ∧ ∀ F, Rp K F d v
theorem de_gd [Ghost] {X : Cx} {x key : Str} {pos p kp : Pos} {j : Nat} {d : D} (c : GD X.K X.mg X.w x key d) (hg : Gl X x := by rfl) (hd : (x == ("__debug__" : Str)) = false := by decide) (hs : PlainIx (.Constant (.str key) j kp) := by intro _ _; rfl) :
    DE X (.Subscript (.Name x p) (.Constant (.str key) j kp) pos) (dC d) := by
  obtain ⟨a, v, m, kd, rp⟩ := c
  refine PE.weak (pe_ix ix_kdict (pe_glob (v := .ref a) hg m rfl hd) pe_str hs) fun σ H Q h => ?_
  obtain ⟨δ, M, F, Qd, hE, s, hu, po⟩ := h
  exact ⟨a, key, v, rfl, rfl, kd, po.fin s hu (rp F)⟩
theorem gc_str {K : PySem.W.Frag} {mg : Str → Option Value} {x z : Str} {cs : List Nat} {t : Tok} (h : mg x = some (.str z t)) (e : z = mkS cs) : GC K mg x (.str cs) := ⟨_, .str z, h, ⟨t, rfl⟩, fun F => by unfold Rp; rw [e]⟩
/-! ### bit_length -/
def dBits (uo : DTE) : DTE := fun δ M Q => uo δ M fun d M1 => match d with
  | .int i => Q (.int (Builtin.Int.intBits i : Nat)) M1
  | _ => False
theorem de_bits [Ghost] {X : Cx} {o : Expr} {uo : DTE} {apos pos : Pos} (ho : DE X o uo) (hbase : attributeBase o "bit_length" X.env (eval o X.env) = eval o X.env := by rfl) (hline : (apos.endLine == pos.line) = true := by rfl) : DE X (.Call (.Attribute o "bit_length" apos) [] [] pos) (dBits uo) := PE.weak (pe_bits ho hbase hline) fun σ H Q h => by
  obtain ⟨δ, M, F, Qd, hE, s, hu, po⟩ := h
  refine ⟨δ, M, F, _, hE, s, hu, fun d M1 F1 v H1 q g s1 r => ?_⟩
  cases d <;> first | exact False.elim q | skip
  unfold Rp at r
  subst r
  exact ⟨_, rfl, po _ _ _ _ _ q g s1 (by unfold Rp; rfl)⟩
/-! ### e.replace of written texts, where a token has been given out -/
open CwR PySem.StrLaws
def dRepl (uo : DTE) (y z : List Nat) : DTE := fun δ M Q => uo δ M fun d M1 => match d with
  | .str cs => cs.length + (cs.length + 1) * z.length ≤ 16777216 ∧ Q (.str (replL y z cs)) M1
  | _ => False
abbrev DET [Ghost] (X : Cx) (e : Expr) (u : DTE) : Prop := PET X e (lift X.K u)
abbrev DSsT [Ghost] (X : Cx) (s : List Stmt) (u : DTS) : Prop := PSsT X s (liftS X.K u)
theorem PET.weak {X : Cx} {e : Expr} {t t' : TE} (h : PET X e t) (i : ∀ σ H Q, t' σ H Q → t σ H Q) : PET X e t' := fun pins s σ H Q h0 I q => h pins s σ H Q h0 I (i _ _ _ q)
theorem PST.weak {X : Cx} {e : Stmt} {t t' : TS} (h : PST X e t) (i : ∀ D σ H, t' D σ H → t D σ H) : PST X e t' := fun pins s σ H D h0 I q => h pins s σ H D h0 I (i _ _ _ q)
theorem det_repl [Ghost] {X : Cx} {o : Expr} {uo : DTE} {j k : Nat} {c0 c1 apos pos : Pos} {y z : Str} (ys zs : List Nat) (ho : DE X o uo) (hy : y = mkS ys := by decide +kernel) (hz : z = mkS zs := by decide +kernel) (hne : 1 ≤ ys.length := by decide) (hyz : (y == z) = false := by decide +kernel)
    (hst : starEach [.Constant (.str y) j c0, .Constant (.str z) k c1] X.env = [(false, eval (.Constant (.str y) j c0) X.env), (false, eval (.Constant (.str z) k c1) X.env)] := by rfl)
    (hbase : attributeBase o "replace" X.env (eval o X.env) = eval o X.env := by rfl) (hline : (apos.endLine == pos.line) = true := by rfl) :
    DET X (.Call (.Attribute o "replace" apos) [.Constant (.str y) j c0, .Constant (.str z) k c1] [] pos) (dRepl uo ys zs) := PET.weak (pet_replC ho hyz hst hbase hline) fun σ H Q h => by
  obtain ⟨δ, M, F, Qd, hE, s, hu, po⟩ := h
  refine ⟨δ, M, F, _, hE, s, hu, fun d M1 F1 v H1 q g s1 r => ?_⟩
  cases d <;> first | exact False.elim q | skip
  unfold Rp at r
  subst r hy hz
  refine ⟨_, rfl, by rw [mkS_len, mkS_len]; exact q.1, po _ _ _ _ _ q.2 g s1 ?_⟩
  unfold Rp
  congr 1
  refine ext_tl ?_
  have e := replace_list (x := mkS (by assumption)) (y := mkS ys) (z := mkS zs) (by rw [mkS_len]; exact hne)
  exact e
theorem dst_ret [Ghost] {X : Cx} {e : Expr} {ue : DTE} {pos : Pos} (he : DET X e ue) : PST X (.Return (some e) pos) (liftS X.K (dRt ue)) := PST.weak (pst_ret he) fun D σ H h => by
  obtain ⟨δ, M, F, Dd, hE, s, hu, p⟩ := h
  exact ⟨δ, M, F, _, hE, s, hu, p.rt⟩
theorem dsst_one [Ghost] {X : Cx} {st : Stmt} {t : DTS} (h : PST X st (liftS X.K t)) : DSsT X [st] t := fun pins s σ H D h0 I q => psst_one h pins s σ H D h0 I q
/-- if a == 8: ..: behind the test a token has been given out -/
theorem ds_ifT [Ghost] {X : Cx} {a : Expr} {i : Int} {j : Nat} {cp pos pos' : Pos} {body : List Stmt} {ua : DTE} {t : DTS} (hu : X.A.units + 64 < cLine) (ha : DE X a ua) (hb : DSsT X body t) : DS X (.If (.Compare a [.Eq] [.Constant (.int i) j cp] pos') body [] pos) (dIfS (dTest (dOp dEq ua (dC (.int i)))) t dNx) := by
  have hc : DT X (.Compare a [.Eq] [.Constant (.int i) j cp] pos') (dTest (dOp dEq ua (dC (.int i)))) := dt_eq hu ha de_int
  refine ⟨fun pins s σ H D I h => ?_⟩
  obtain ⟨δ, M, F, Dd, hE, sv, hu', p⟩ := h
  have h2 : liftT X.K (dTest (dOp dEq ua (dC (.int i)))) σ H (fun b H1 => if b = true then liftS X.K t D σ H1 else liftS X.K dNx D σ H1) := by
    refine ⟨δ, M, F, _, hE, sv, hu', fun d M' F' H' q g s' => ?_⟩
    cases d with
    | true => exact ⟨δ, M', F', Dd, hE.mono g.le, s', q, p.go g⟩
    | false => exact ⟨δ, M', F', Dd, hE.mono g.le, s', q, p.go g⟩
  have h3 := bin2 rel_eq _ _ _ (lift_test h2)
  refine wpAny_If (thn (Q := fun b s1 => 1 ≤ s1.toks ∧ TP X pins σ (fun b H1 => if b = true then liftS X.K t D σ H1 else liftS X.K dNx D σ H1) b s1) ?_ fun d s1 q => ?_)
  · refine wpAny_isTrue_Compare1 (thn (ha.run pins s σ H _ I h3) fun v s1 ⟨x, H1, I1, r1, q1⟩ => ?_) (nomark _)
    obtain ⟨δ2, M2, F2, Qd2, hE2, sv2, hu2, p2⟩ := q1
    have q2 := p2.fin (d := .int i) (v := .int i) sv2 hu2 (by unfold Rp; rfl)
    refine wpAny_Constant_int ?_
    refine wpAny_mono (PySem.wpAny_toks_of (n := 1) (by show 1 ≤ s1.toks + 1; omega) (op_eqAll hu pins _ σ H1 x (.int i) v _ _ (I1.tok _) r1 ⟨_, rfl⟩ q2)) (fun c s3 ⟨hk, z, H3, I3, r3, k, e, q3⟩ => ?_) fun _ _ z => z.2
    subst e
    cases r3
    exact wpAny_truthy_bool ⟨hk, H3, I3, q3⟩
  · obtain ⟨hk, H1, I1, q1⟩ := q
    cases d with
    | true =>
      rw [if_pos rfl] at q1
      exact hb pins s1 σ H1 D hk I1 q1
    | false =>
      rw [if_neg Bool.false_ne_true] at q1
      exact dss_nil.run pins s1 σ H1 D I1 q1
end DL

namespace DL
open PySem PySem.Spec PyProof.Rows L2 TL

/-! ### for, comprehensions: by a word of what is left -/
theorem for_inv {g : Mu → Prop} {tg : DTg} {b : DTS} {E : DEnds} (I : List D → DEnv → Mu → Prop) (hg : ∀ xs δ M, I xs δ M → g M)
    (hs : ∀ x xs δ M (N : DEnv → Mu → Prop), I (x :: xs) δ M → (∀ δ' M', I xs δ' M' → N δ' M') → tg x δ M fun δ' M' => b { E with nx := N, ct := N, bk := E.nx } δ' M')
    (he : ∀ δ M, I [] δ M → E.nx δ M) : ∀ (ds : List D) (δ : DEnv) (M : Mu), I ds δ M → dForGo g tg b E ds δ M
  | [], δ, M, h => ⟨hg _ _ _ h, he _ _ h⟩
  | x :: xs, δ, M, h => ⟨hg _ _ _ h, hs x xs δ M _ h fun δ' M' h' => for_inv I hg hs he xs δ' M' h'⟩
theorem lc_inv {g : Mu → Prop} {tg : DTg} {tt : DTT} {te : DTE} {δw : DEnv} {Q : List D → Mu → Prop} (I : List D → List D → Mu → Prop) (hg : ∀ xs acc M, I xs acc M → g M)
    (hs : ∀ x xs acc M (N : List D → Mu → Prop), I (x :: xs) acc M → (∀ acc' M', I xs acc' M' → N acc' M') → tg x δw M fun δ' M' => tt δ' M' fun b M1 => match b with
      | true => te δ' M1 fun y M2 => acc.length < sizeLine ∧ N (acc ++ [y]) M2
      | false => N acc M1)
    (he : ∀ acc M, I [] acc M → Q acc M) : ∀ (ds acc : List D) (M : Mu), I ds acc M → dLcGo g tg tt te δw ds acc M Q
  | [], acc, M, h => ⟨hg _ _ _ h, he _ _ h⟩
  | x :: xs, acc, M, h => ⟨hg _ _ _ h, hs x xs acc M (fun acc M => dLcGo g tg tt te δw xs acc M Q) h fun acc' M' h' => lc_inv I hg hs he xs acc' M' h'⟩
/-- a comprehension without tests, whose element is the value f x of the item and changes nothing -/
theorem lc_map {g : Mu → Prop} {tg : DTg} {te : DTE} {δw : DEnv} {Q : List D → Mu → Prop} (f : D → D) {M : Mu} (hg : g M) : ∀ (ds acc : List D), acc.length + ds.length ≤ sizeLine →
    (∀ x ∈ ds, ∀ R : DK, R (f x) M → tg x δw M fun δ' M' => te δ' M' R) → Q (acc ++ ds.map f) M → dLcGo g tg dYes te δw ds acc M Q
  | [], acc, _, _, h => ⟨hg, by rw [List.map_nil, List.append_nil] at h; exact h⟩
  | x :: xs, acc, hl, hs, h => by
    rw [List.length_cons] at hl
    refine ⟨hg, hs x (List.mem_cons_self ..) (fun y M2 => acc.length < sizeLine ∧ dLcGo g tg dYes te δw xs (acc ++ [y]) M2 Q) ⟨by omega, ?_⟩⟩
    refine lc_map f hg xs (acc ++ [f x]) (by rw [List.length_append, List.length_singleton]; omega) (fun y hy => hs y (List.mem_cons_of_mem _ hy)) ?_
    rw [List.append_assoc]
    exact h
theorem sz1000 {n : Nat} (h : n ≤ 1000000) : n ≤ sizeLine := Nat.le_trans h (by rw [sizeLine_eq]; decide)
theorem szlt {n : Nat} (h : n < 1000000) : n < sizeLine := Nat.lt_of_lt_of_le h (by rw [sizeLine_eq]; decide)
theorem mul_fit {i j : Int} (a b : Nat) (ha : i.natAbs < 2 ^ a) (hb : j.natAbs < 2 ^ b) (h : a + b ≤ 134217728 := by decide) : CMulX i j := mulx_ok ha hb h
theorem nlt_pow {i : Int} {k : Nat} (h1 : -(2 ^ k : Nat) < i) (h2 : i < (2 ^ k : Nat)) : i.natAbs < 2 ^ k := by omega
theorem div_fit {j : Int} (k : Nat) (h0 : j ≠ 0) (h : j.natAbs < 2 ^ k) (hk : 0 < k := by decide) (h9 : k ≤ 9000 := by decide) : CDivX j := ⟨h0, Nat.lt_of_lt_of_le (PySem.Flt.log2_lt_of hk h) h9⟩
theorem fmod_pos {i j : Int} (h : 0 < j) : i.fmod j = i % j := Int.fmod_eq_emod_of_nonneg i (by omega)
theorem fdiv_pos {i j : Int} (h : 0 < j) : i.fdiv j = i / j := Int.fdiv_eq_ediv_of_nonneg i (by omega)
theorem atI_zero {α : Type} {x : α} {xs : List α} : atI (x :: xs) 0 = some x := atI_nat (xs := x :: xs) (j := 0) rfl
theorem atI_one {α : Type} {x y : α} {xs : List α} : atI (x :: y :: xs) 1 = some y := atI_nat (xs := x :: y :: xs) (j := 1) rfl
theorem atI_two {α : Type} {x y z : α} {xs : List α} : atI (x :: y :: z :: xs) 2 = some z := atI_nat (xs := x :: y :: z :: xs) (j := 2) rfl
theorem ixN_nat {n : Nat} {j : Nat} (h : j < n) : ixN n (j : Int) = some j := by
  unfold ixN
  rw [if_pos (by omega), if_pos (by omega)]
  rfl
theorem dseq_ref {M : Mu} {a : Addr} {ds : List D} (h : M a = some (.lst ds)) : dseq M (.ref a) = some ds := by
  show (match M a with | some (.lst ds) => some ds | _ => none) = some ds
  rw [h]
theorem dits_ref {M : Mu} {a : Addr} {ds : List D} (h : M a = some (.lst ds)) : dits M (.ref a) = some ds := dseq_ref h
theorem tyNm_ref {M : Mu} {a : Addr} {ds : List D} (h : M a = some (.lst ds)) : tyNm M (.ref a) = some "list" := by
  show (match M a with | some (.lst _) => some "list" | some (.dic _) => some "dict" | none => none) = some "list"
  rw [h]
end DL

namespace DL
open PySem PySem.Spec PyProof.Rows L2 TL

/-! ### stepping through readings, rule by rule (the tactic of that name stands behind them) -/
def kB (Q : Bool → Mu → Prop) : DK := fun d M => match d with
  | .bl b => Q b M
  | _ => False
def kT (Q : Bool → Mu → Prop) : DK := fun d M => dTruB M d fun b => Q b M
def kP (Q : Option Int → Mu → Prop) : DK := fun d M => match d with
  | .int i => Q (some i) M
  | _ => False
def kI (R : List D → (Mu → Prop) → Mu → Prop) : DK := fun d M1 => match d with
  | .tup ds => R ds (fun _ => True) M1
  | .lst ds => R ds (fun _ => True) M1
  | .src ns => R (ns.map .int) (fun _ => True) M1
  | .str cs => R (cs.map fun c => .str [c]) (fun _ => True) M1
  | .ref a => match M1 a with
    | some (.lst ds) => R ds (fun M2 => M2 a = some (.lst ds)) M1
    | _ => False
  | _ => False
def kR1 (R : List D → (Mu → Prop) → Mu → Prop) : List D → Mu → Prop := fun ds M1 => match ds with
  | [.int j] => -(2 ^ 62) ≤ j ∧ j < 2 ^ 62 ∧ R (rngD 0 j.toNat) (fun _ => True) M1
  | _ => False
def kR2 (R : List D → (Mu → Prop) → Mu → Prop) : List D → Mu → Prop := fun ds M1 => match ds with
  | [.int i, .int j] => (-(2 ^ 62) ≤ i ∧ i < 2 ^ 62 ∧ -(2 ^ 62) ≤ j ∧ j < 2 ^ 62) ∧ R (rngD i (j - i).toNat) (fun _ => True) M1
  | _ => False
def kS {α : Type} (b : Bool) (x y : α) (P : α → Prop) : Prop := P (if b = true then x else y)
section
variable {δ : DEnv} {M : Mu} {Q : DK} {QT : Bool → Mu → Prop} {QA : List D → Mu → Prop} {QE : DEnv → Mu → Prop} {D0 : DEnds} {d x y : D} {u ua ub ue uo ui : DTE} {us ur : DTA} {t t1 t2 : DTS} {c c1 c2 : DTT} {g : DTg} {i j : Nat} {n m : Int} {a b : Addr} {es fs : List D} {cs ds' : List Nat} {mu : Bool}
theorem r_sq (h : t1 { nx := t2 D0, rt := D0.rt, bk := D0.bk, ct := D0.ct } δ M) : dSq t1 t2 D0 δ M := h
theorem r_nx (h : D0.nx δ M) : dNx D0 δ M := h
theorem r_bk (h : D0.bk δ M) : dBk D0 δ M := h
theorem r_ct (h : D0.ct δ M) : dCt D0 δ M := h
theorem r_rt (h : u δ M D0.rt) : dRt u D0 δ M := h
theorem r_rtN (h : D0.rt .non M) : dRtN D0 δ M := h
theorem r_ex (h : u δ M fun _ M1 => D0.nx δ M1) : dEx u D0 δ M := h
theorem r_as (h : u δ M fun d M1 => g d δ M1 D0.nx) : dAs u g D0 δ M := h
theorem r_if (h : c δ M fun b M1 => (b = true → t1 D0 δ M1) ∧ (b = false → t2 D0 δ M1)) : dIfS c t1 t2 D0 δ M := by
  unfold dIfS
  revert h
  exact cast (congrArg (fun z => (c δ M z → _)) (funext fun b => funext fun M1 => by cases b <;> simp)) id
theorem r_ifT (h : c δ M fun b M1 => match b with
  | true => t1 D0 δ M1
  | false => t2 D0 δ M1) : dIfS c t1 t2 D0 δ M := h
theorem r_dgN {δ' : DEnv} (e : δ.set i (some d) = δ') (h : QE δ' M) : dgN i d δ M QE := by unfold dgN; rw [e]; exact h
theorem r_dgSub (h : uo δ M fun o M1 => ui δ M1 fun i M2 => dSetV o i d M2 fun M3 => QE δ M3) : dgSub uo ui d δ M QE := h
theorem r_dgT {ts : List DTg} (hl : es.length = ts.length) (h : dgAll ts es δ M QE) : dgT ts (.tup es) δ M QE := ⟨hl, h⟩
theorem r_dga0 (h : QE δ M) : dgAll [] [] δ M QE := h
theorem r_dga1 {ts : List DTg} (h : g d δ M fun δ' M' => dgAll ts es δ' M' QE) : dgAll (g :: ts) (d :: es) δ M QE := h
theorem r_auS {rd : DR2} (h : uo δ M fun o M1 => ui δ M1 fun i M2 => dGetM o i M2 fun x M3 => ue δ M3 fun y M4 => rd x y M4 fun z M5 => dSetV o i z M5 fun M6 => D0.nx δ M6) : dAuS uo ui ue rd D0 δ M := h
theorem r_setV {k : Int} (h : M a = some (.lst es)) (hk : ixN es.length k = some j) {Q : Mu → Prop} (q : Q (mset M a (.lst (es.set j d)))) : dSetV (.ref a) (.int k) d M Q := by
  unfold dSetV; simp only [h, hk]; exact q
theorem r_getM (h : M a = some (.lst es)) (hk : atI es n = some d) (q : Q d M) : dGetM (.ref a) (.int n) M Q := by
  unfold dGetM; simp only [h, hk]; exact q
theorem r_au {rd : DR2} (e : δ[i]? = some (some x)) (h : u δ M fun y M1 => rd x y M1 fun z M2 => D0.nx (δ.set i (some z)) M2) : dAu i rd u D0 δ M := by
  unfold dAu; rw [e]; exact h
def kPar (i j : Nat) (δ : DEnv) (D0 : DEnds) : List D → Mu → Prop := fun ds M1 => match ds with
  | [v, w] => D0.nx ((δ.set i (some v)).set j (some w)) M1
  | _ => False
theorem r_par (h : us δ M (kPar i j δ D0)) : dPar i j us D0 δ M := h
theorem r_kPar {v w : D} {δ' : DEnv} (e : (δ.set i (some v)).set j (some w) = δ') (h : D0.nx δ' M) : kPar i j δ D0 [v, w] M := by
  unfold kPar; simp only [e]; exact h
/-! expressions -/
theorem r_var (e : δ[i]? = some (some d)) (q : Q d M) : dVar i δ M Q := by unfold dVar; rw [e]; exact q
theorem r_c (q : Q d M) : dC d δ M Q := q
theorem r_op {rd : DR2} (h : ua δ M fun x M1 => ub δ M1 fun y M2 => rd x y M2 Q) : dOp rd ua ub δ M Q := h
theorem r_un {rd : DUn} (h : ua δ M fun x M1 => rd x M1 Q) : dUn rd ua δ M Q := h
theorem r_neg (q : Q (.int (-n)) M) : dNeg (.int n) M Q := q
theorem r_addI (q : Q (.int (n + m)) M) : dAdd mu (.int n) (.int m) M Q := q
theorem r_addS {p q : List Nat} (h : p.length + q.length ≤ sizeLine ∧ Q (.str (p ++ q)) M) : dAdd mu (.str p) (.str q) M Q := h
theorem r_addT {p q : List D} (h : p.length + q.length ≤ sizeLine ∧ Q (.tup (p ++ q)) M) : dAdd mu (.tup p) (.tup q) M Q := h
theorem r_addL {p q : List D} (h : p.length + q.length ≤ sizeLine ∧ dNew mu (p ++ q) M Q) : dAdd mu (.lst p) (.lst q) M Q := h
theorem r_subI (q : Q (.int (n - m)) M) : dSub (.int n) (.int m) M Q := q
theorem r_mulI (h : CMulX n m ∧ Q (.int (n * m)) M) : dMul mu (.int n) (.int m) M Q := h
theorem r_fdiv (h : CDivX m ∧ Q (.int (n.fdiv m)) M) : dFdiv (.int n) (.int m) M Q := h
theorem r_mod (h : m ≠ 0 ∧ Q (.int (n.fmod m)) M) : dMod (.int n) (.int m) M Q := h
theorem r_pow (h : CPow n m ∧ Q (.int (n ^ m.toNat)) M) : dPow (.int n) (.int m) M Q := h
theorem r_shl (h : CShl n m ∧ Q (.int (n * 2 ^ m.toNat)) M) : dShl (.int n) (.int m) M Q := h
theorem r_eqI (q : Q (.bl (decide (n = m))) M) : dEq (.int n) (.int m) M Q := q
theorem r_eqS {p q : List Nat} (h : Q (.bl (decide (p = q))) M) : dEq (.str p) (.str q) M Q := h
theorem r_eqB {p q : Bool} (h : Q (.bl (decide (p = q))) M) : dEq (.bl p) (.bl q) M Q := h
theorem r_neI (q : Q (.bl (!decide (n = m))) M) : dNe (.int n) (.int m) M Q := q
theorem r_neS {p q : List Nat} (h : Q (.bl (!decide (p = q))) M) : dNe (.str p) (.str q) M Q := h
theorem r_neB {p q : Bool} (h : Q (.bl (!decide (p = q))) M) : dNe (.bl p) (.bl q) M Q := h
theorem r_ltI (q : Q (.bl (decide (n < m))) M) : dLt (.int n) (.int m) M Q := q
theorem r_gtI (q : Q (.bl (decide (m < n))) M) : dGt (.int n) (.int m) M Q := q
theorem r_leI (q : Q (.bl (decide (n ≤ m))) M) : dLe (.int n) (.int m) M Q := q
theorem r_geI (q : Q (.bl (decide (m ≤ n))) M) : dGe (.int n) (.int m) M Q := q
theorem r_isN (q : Q (.bl (DL.isNon x)) M) : dIsN x .non M Q := ⟨rfl, q⟩
theorem r_notN (q : Q (.bl (!DL.isNon x)) M) : dNotN x .non M Q := ⟨rfl, q⟩
theorem r_inS {neg : Bool} {z : Nat} (q : Q (.bl (if neg then !decide (z ∈ cs) else decide (z ∈ cs))) M) : dInB neg (.str [z]) (.str cs) M Q := q
theorem r_idxR (h : M a = some (.lst es)) (hk : atI es n = some d) (q : Q d M) : dIdx (.ref a) (.int n) M Q := by
  unfold dIdx; simp only [dits, dseq, h, Option.bind_some, hk]; exact q
theorem r_idxL (hk : atI es n = some d) (q : Q d M) : dIdx (.lst es) (.int n) M Q := by
  unfold dIdx; simp only [dits, dseq, Option.bind_some, hk]; exact q
theorem r_idxT (hk : atI es n = some d) (q : Q d M) : dIdx (.tup es) (.int n) M Q := by
  unfold dIdx; simp only [dits, Option.bind_some, hk]; exact q
theorem r_idxSrc {ns : List Int} (hk : atI (ns.map D.int) n = some d) (q : Q d M) : dIdx (.src ns) (.int n) M Q := by
  unfold dIdx; simp only [dits, Option.bind_some, hk]; exact q
theorem r_idxS {z : Nat} (hk : atI cs n = some z) (hl : cs.length ≤ sizeLine) (q : Q (.str [z]) M) : dIdx (.str cs) (.int n) M Q := by
  unfold dIdx; simp only [hk]; exact ⟨hl, q⟩
/-! tests -/
theorem r_test (h : u δ M (kB QT)) : dTest u δ M QT := h
theorem r_kB {b : Bool} (q : QT b M) : kB QT (.bl b) M := q
theorem r_tru (h : u δ M (kT QT)) : dTru u δ M QT := h
theorem r_kTb {b : Bool} (q : QT b M) : kT QT (.bl b) M := q
theorem r_kTi (q : QT (n != 0) M) : kT QT (.int n) M := q
theorem r_kTn (q : QT false M) : kT QT .non M := q
theorem r_kTl (q : QT (!es.isEmpty) M) : kT QT (.lst es) M := q
theorem r_kTt (q : QT (!es.isEmpty) M) : kT QT (.tup es) M := q
theorem r_kTs (q : cs.length ≤ sizeLine ∧ QT (!cs.isEmpty) M) : kT QT (.str cs) M := q
theorem r_not (h : c δ M fun b M1 => QT (!b) M1) : dNot c δ M QT := h
theorem r_and (h : c1 δ M fun b M1 => (b = true → c2 δ M1 QT) ∧ (b = false → QT false M1)) : dAnd c1 c2 δ M QT := by
  unfold dAnd
  revert h
  exact cast (congrArg (fun z => (c1 δ M z → _)) (funext fun b => funext fun M1 => by cases b <;> simp)) id
theorem r_or (h : c1 δ M fun b M1 => (b = true → QT true M1) ∧ (b = false → c2 δ M1 QT)) : dOr c1 c2 δ M QT := by
  unfold dOr
  revert h
  exact cast (congrArg (fun z => (c1 δ M z → _)) (funext fun b => funext fun M1 => by cases b <;> simp)) id
theorem r_dif (h : c δ M fun b M1 => (b = true → ua δ M1 Q) ∧ (b = false → ub δ M1 Q)) : dIf c ua ub δ M Q := by
  unfold dIf
  revert h
  exact cast (congrArg (fun z => (c δ M z → _)) (funext fun b => funext fun M1 => by cases b <;> simp)) id
theorem r_andV (h : ua δ M (kB fun b M1 => (b = true → ub δ M1 Q) ∧ (b = false → Q (.bl false) M1))) : dAndV ua ub δ M Q := by
  unfold dAndV
  revert h
  refine cast (congrArg (fun z => (ua δ M z → _)) (funext fun d => funext fun M1 => ?_)) id
  cases d <;> try rfl
  rename_i b
  cases b <;> simp [kB]
theorem r_orV (h : ua δ M (kB fun b M1 => (b = true → Q (.bl true) M1) ∧ (b = false → ub δ M1 Q))) : dOrV ua ub δ M Q := by
  unfold dOrV
  revert h
  refine cast (congrArg (fun z => (ua δ M z → _)) (funext fun d => funext fun M1 => ?_)) id
  cases d <;> try rfl
  rename_i b
  cases b <;> simp [kB]
theorem r_notV (h : u δ M (kB fun b M1 => Q (.bl !b) M1)) : dNotV u δ M Q := h
theorem r_yes (h : QT true M) : dYes δ M QT := h
/-! rows -/
theorem r_nil (q : QA [] M) : dNil δ M QA := q
theorem r_cons (h : ua δ M fun d M1 => ur δ M1 fun ds M2 => QA (d :: ds) M2) : dCons ua ur δ M QA := h
theorem r_tup (h : us δ M fun ds M1 => ds.length ≤ sizeLine ∧ Q (.tup ds) M1) : dTup us δ M Q := h
theorem r_lst (h : us δ M fun ds M1 => ds.length ≤ sizeLine ∧ dNew mu ds M1 Q) : dLst mu us δ M Q := h
theorem r_newF (q : Q (.lst es) M) : dNew false es M Q := q
theorem r_newT (q : ∀ p, M p = none → Q (.ref p) (mset M p (.lst es))) : dNew true es M Q := q
theorem r_cb {rd : DRC} (h : us δ M fun ds M1 => rd ds M1 Q) : dCB rd us δ M Q := h
theorem r_lenS (h : cs.length ≤ sizeLine ∧ Q (.int cs.length) M) : dLen [.str cs] M Q := h
theorem r_lenL (h : Q (.int es.length) M) : dLen [.lst es] M Q := h
theorem r_lenT (h : Q (.int es.length) M) : dLen [.tup es] M Q := h
theorem r_lenSrc {ns : List Int} (h : Q (.int ns.length) M) : dLen [.src ns] M Q := by
  unfold dLen; simp only [dits, List.length_map]; exact h
theorem r_lenR (e : M a = some (.lst es)) (h : Q (.int es.length) M) : dLen [.ref a] M Q := by
  unfold dLen; simp only [dits, dseq, e]; exact h
theorem r_abs (h : Q (.int (n.natAbs : Int)) M) : dAbs [.int n] M Q := h
theorem r_min2 (h : Q (.int (if m < n then m else n)) M) : dMin2 [.int n, .int m] M Q := h
theorem r_max2 (h : Q (.int (if m > n then m else n)) M) : dMax2 [.int n, .int m] M Q := h
theorem r_intI (h : Q (.int n) M) : dInt [.int n] M Q := h
theorem r_str (h : n.natAbs.log2 < 1920 ∧ Q (.str (numI n)) M) : dStr [.int n] M Q := h
theorem r_tupT (h : Q (.tup es) M) : dTupOf [.tup es] M Q := h
theorem r_tupL (h : Q (.tup es) M) : dTupOf [.lst es] M Q := h
theorem r_tupR (e : M a = some (.lst es)) (h : Q (.tup es) M) : dTupOf [.ref a] M Q := by
  unfold dTupOf; simp only [dlis, dseq, e]; exact h
theorem r_divmod (h : CDivP n m ∧ Q (.tup [.int (n / m), .int (n % m)]) M) : dDivmod [.int n, .int m] M Q := h
theorem r_isi {T S : String} {b : Bool} (h : tyNm M d = some S) (hb : kitB S T = some b) (q : Q (.bl b) M) : dIsi [d, .ty T] M Q := by
  unfold dIsi; simp only [h, Option.bind_some, hb]; exact q
theorem r_sum {ns : List Int} (e : dseq M d = some es) (hi : intsOf es = some ns) (q : Q (.int ns.sum) M) : dSum [d] M Q := by
  unfold dSum; simp only [e, Option.bind_some, hi]; exact q
theorem r_all {bs : List Bool} (e : dseq M d = some es) (hi : blsOf es = some bs) (q : Q (.bl (bs.all id)) M) : dAll [d] M Q := by
  unfold dAll; simp only [e, Option.bind_some, hi]; exact q
theorem r_any {bs : List Bool} (e : dseq M d = some es) (hi : blsOf es = some bs) (q : Q (.bl (bs.any id)) M) : dAny [d] M Q := by
  unfold dAny; simp only [e, Option.bind_some, hi]; exact q
theorem r_sl {ul uh : DTO} (h : u δ M fun x M1 => ul δ M1 fun lo M2 => uh δ M2 fun hi M3 => dSlV mu x lo hi M3 Q) : dSl mu u ul uh δ M Q := h
theorem r_noP {QO : Option Int → Mu → Prop} (h : QO none M) : dNoP δ M QO := h
theorem r_part {QO : Option Int → Mu → Prop} (h : u δ M (kP QO)) : dPart u δ M QO := h
theorem r_kP {QO : Option Int → Mu → Prop} (h : QO (some n) M) : kP QO (.int n) M := h
theorem r_slS {lo hi : Option Int} (h : cs.length ≤ sizeLine ∧ Q (.str (cutL cs lo hi)) M) : dSlV mu (.str cs) lo hi M Q := h
theorem r_slT {lo hi : Option Int} (h : Q (.tup (cutL es lo hi)) M) : dSlV mu (.tup es) lo hi M Q := h
theorem r_slL {lo hi : Option Int} (h : dNew mu (cutL es lo hi) M Q) : dSlV mu (.lst es) lo hi M Q := h
theorem r_slSrc {ns : List Int} {lo hi : Option Int} (h : dNew mu (cutL (ns.map D.int) lo hi) M Q) : dSlV mu (.src ns) lo hi M Q := h
theorem r_slR {lo hi : Option Int} (e : M a = some (.lst es)) (h : dNew mu (cutL es lo hi) M Q) : dSlV mu (.ref a) lo hi M Q := by
  unfold dSlV; simp only [dlis, dseq, e]; exact h
theorem r_bm {T : String} {rd : DM} (h : uo δ M fun x M1 => tyNm M1 x = some T ∧ us δ M1 fun ds M2 => rd x ds M2 Q) : dBM T rd uo us δ M Q := h
theorem r_tyS {P : Prop} (h : P) : tyNm M (.str cs) = some "str" ∧ P := ⟨rfl, h⟩
theorem r_tyR {P : Prop} (e : M a = some (.lst es)) (h : P) : tyNm M (.ref a) = some "list" ∧ P := ⟨tyNm_ref e, h⟩
theorem r_append (e : M a = some (.lst es)) (hl : es.length < sizeLine) (h : Q .non (mset M a (.lst (es ++ [d])))) : dAppend (.ref a) [d] M Q := by
  unfold dAppend; simp only [e]; exact ⟨hl, h⟩
theorem r_split {z : List Nat} (h0 : z ≠ []) (h1 : z.all (· < 256) = true) (hl : cs.length + 2 ≤ sizeLine) (h : dNew mu ((spl z 0 [] cs).map .str) M Q) : dSplit mu (.str cs) [.str z] M Q := ⟨h0, hl, h1, h⟩
theorem r_join {ys : List (List Nat)} (e : dits M d = some es) (hs : strsOf es = some ys) (hl : (ys.map (·.length)).sum + ys.length * cs.length ≤ 16777216) (h : Q (.str (joinL cs ys)) M) : dJoin (.str cs) [d] M Q := by
  unfold dJoin; simp only [e, Option.bind_some, hs]; exact ⟨hl, h⟩
theorem r_starts {z : List Nat} (h : Q (.bl (Txt.startswith (mkS cs) (mkS z))) M) : dStarts (.str cs) [.str z] M Q := h
theorem r_count {z : List Nat} (h : Q (.int (Txt.count (mkS cs) (mkS z))) M) : dCount (.str cs) [.str z] M Q := h
theorem r_bits (h : uo δ M fun d M1 => ∃ n, d = .int n ∧ Q (.int (Builtin.Int.intBits n : Nat)) M1) : dBits uo δ M Q := by
  unfold dBits
  revert h
  refine cast (congrArg (fun z => (uo δ M z → _)) (funext fun d => funext fun M1 => ?_)) id
  cases d <;> simp
/-! calls, loops -/
theorem r_call {sp : DSp} {E : DXK} (h : us δ M fun ds M1 => sp ds M1 Q E) : dCall sp [] E us δ M Q := by
  unfold dCall
  revert h
  exact cast (congrArg (fun z => (us δ M z → _)) (funext fun ds => funext fun M1 => by rw [List.append_nil])) id
theorem r_for {di : DTI} (h : di δ M fun ds g1 M1 => dForGo g1 g t D0 ds δ M1) : dFor di g t D0 δ M := h
theorem r_seq {R : List D → (Mu → Prop) → Mu → Prop} (h : ue δ M (kI R)) : diSeq ue δ M R := h
theorem r_kIt {R : List D → (Mu → Prop) → Mu → Prop} (h : R es (fun _ => True) M) : kI R (.tup es) M := h
theorem r_kIl {R : List D → (Mu → Prop) → Mu → Prop} (h : R es (fun _ => True) M) : kI R (.lst es) M := h
theorem r_kIs {R : List D → (Mu → Prop) → Mu → Prop} (h : R (cs.map fun c => .str [c]) (fun _ => True) M) : kI R (.str cs) M := h
theorem r_kIsrc {ns : List Int} {R : List D → (Mu → Prop) → Mu → Prop} (h : R (ns.map .int) (fun _ => True) M) : kI R (.src ns) M := h
theorem r_kIr {R : List D → (Mu → Prop) → Mu → Prop} (e : M a = some (.lst es)) (h : R es (fun M2 => M2 a = some (.lst es)) M) : kI R (.ref a) M := by
  unfold kI; simp only [e]; exact h
theorem r_r1 {R : List D → (Mu → Prop) → Mu → Prop} (h : us δ M (kR1 R)) : diR1 us δ M R := h
theorem r_kR1 {R : List D → (Mu → Prop) → Mu → Prop} (h1 : -(2 ^ 62) ≤ n) (h2 : n < 2 ^ 62) (h : R (rngD 0 n.toNat) (fun _ => True) M) : kR1 R [.int n] M := ⟨h1, h2, h⟩
theorem r_r2 {R : List D → (Mu → Prop) → Mu → Prop} (h : us δ M (kR2 R)) : diR2 us δ M R := h
theorem r_kR2 {R : List D → (Mu → Prop) → Mu → Prop} (h0 : -(2 ^ 62) ≤ n ∧ n < 2 ^ 62 ∧ -(2 ^ 62) ≤ m ∧ m < 2 ^ 62) (h : R (rngD n (m - n).toNat) (fun _ => True) M) : kR2 R [.int n, .int m] M := ⟨h0, h⟩
theorem r_lc {di : DTI} {vs : List Nat} (h : di δ M fun ds g1 M1 => dLcGo g1 g c ue (dwipe δ vs) ds [] M1 fun acc M2 => dNew mu acc M2 Q) : dLc mu di g c ue vs δ M Q := h
/-! what may change -/
theorem sub_new {p : Addr} {o : DO} (h : M p = none) : Sub M (mset M p o) := fun b u e => by
  rw [mset_ne (fun z => by rw [z, h] at e; cases e)]; exact e
theorem ne_new {p q : Addr} {o : DO} (h : M p = some o) (e : M q = none) : p ≠ q := fun z => by rw [z, e] at h; cases h
theorem mset_swap {p q : Addr} {o o' : DO} (h : p ≠ q) : mset (mset M p o) q o' = mset (mset M q o') p o := by
  funext b
  unfold mset
  by_cases h1 : b = q
  · subst h1; rw [if_pos rfl, if_neg (fun z => h z.symm), if_pos rfl]
  · rw [if_neg h1]
    by_cases h2 : b = p
    · rw [if_pos h2, if_pos h2]
    · rw [if_neg h2, if_neg h2, if_neg h1]
theorem lit_len {α : Type} {xs : List α} (n : Nat) (h : xs.length = n) (hn : n ≤ 1000000) : xs.length ≤ sizeLine := sz1000 (h ▸ hn)
theorem lit0 {α : Type} {P : Prop} (h : P) : ([] : List α).length ≤ sizeLine ∧ P := ⟨lit_len 0 rfl (by decide), h⟩
theorem lit1 {α : Type} {a : α} {P : Prop} (h : P) : [a].length ≤ sizeLine ∧ P := ⟨lit_len 1 rfl (by decide), h⟩
theorem lit2 {α : Type} {a b : α} {P : Prop} (h : P) : [a, b].length ≤ sizeLine ∧ P := ⟨lit_len 2 rfl (by decide), h⟩
theorem lit3 {α : Type} {a b c : α} {P : Prop} (h : P) : [a, b, c].length ≤ sizeLine ∧ P := ⟨lit_len 3 rfl (by decide), h⟩
theorem lit4 {α : Type} {a b c d : α} {P : Prop} (h : P) : [a, b, c, d].length ≤ sizeLine ∧ P := ⟨lit_len 4 rfl (by decide), h⟩
theorem lit5 {α : Type} {a b c d e : α} {P : Prop} (h : P) : [a, b, c, d, e].length ≤ sizeLine ∧ P := ⟨lit_len 5 rfl (by decide), h⟩
theorem lit6 {α : Type} {a b c d e f : α} {P : Prop} (h : P) : [a, b, c, d, e, f].length ≤ sizeLine ∧ P := ⟨lit_len 6 rfl (by decide), h⟩
theorem lit7 {α : Type} {a b c d e f g : α} {P : Prop} (h : P) : [a, b, c, d, e, f, g].length ≤ sizeLine ∧ P := ⟨lit_len 7 rfl (by decide), h⟩
end
/-! a middle word -/
theorem via {u : DTE} {δ : DEnv} {M : Mu} {Q : DK} (P : DK) (h1 : ∀ Q' : DK, (∀ d M', P d M' → Q' d M') → u δ M Q') (h2 : ∀ d M', P d M' → Q d M') : u δ M Q := h1 Q h2
theorem viaS {t : DTS} {D0 : DEnds} {δ : DEnv} {M : Mu} (P : DEnv → Mu → Prop) (h1 : ∀ N : DEnv → Mu → Prop, (∀ δ' M', P δ' M' → N δ' M') → t { nx := N, rt := D0.rt, bk := D0.bk, ct := D0.ct } δ M) (h2 : ∀ δ' M', P δ' M' → D0.nx δ' M') : t D0 δ M := h1 D0.nx h2
end DL

namespace DL
open PySem PySem.Spec PyProof.Rows L2 TL
local macro_rules | `(tactic| walk_at "st1") => `(tactic| first
  | with_reducible refine r_sq ?_ | with_reducible refine r_nx ?_ | with_reducible refine r_rt ?_ | with_reducible refine r_rtN ?_ | with_reducible refine r_ex ?_ | with_reducible refine r_as ?_ | with_reducible refine r_bk ?_ | with_reducible refine r_ct ?_
  | ((with_reducible apply r_var); exact rfl) | with_reducible refine r_c ?_ | with_reducible refine r_op ?_ | with_reducible refine r_un ?_ | with_reducible refine r_neg ?_
  | ((with_reducible refine r_dgN rfl ?_); (try simp only [List.set]))
  | with_reducible refine r_dgSub ?_ | with_reducible refine r_dgT rfl ?_ | with_reducible refine r_dga0 ?_ | with_reducible refine r_dga1 ?_ | with_reducible refine r_auS ?_ | ((with_reducible apply r_au); exact rfl)
  | with_reducible refine r_par ?_ | ((with_reducible refine r_kPar rfl ?_); (try simp only [List.set]))
  | with_reducible refine r_addI ?_ | with_reducible refine r_addS ?_ | with_reducible refine r_addT ?_ | with_reducible refine r_addL ?_ | with_reducible refine r_subI ?_ | with_reducible refine r_mulI ?_ | with_reducible refine r_fdiv ?_ | with_reducible refine r_mod ?_ | with_reducible refine r_pow ?_ | with_reducible refine r_shl ?_
  | with_reducible refine r_eqI ?_ | with_reducible refine r_eqS ?_ | with_reducible refine r_eqB ?_ | with_reducible refine r_neI ?_ | with_reducible refine r_neS ?_ | with_reducible refine r_neB ?_ | with_reducible refine r_ltI ?_ | with_reducible refine r_gtI ?_ | with_reducible refine r_leI ?_ | with_reducible refine r_geI ?_ | with_reducible refine r_isN ?_ | with_reducible refine r_notN ?_ | with_reducible refine r_inS ?_
  | with_reducible refine r_test ?_ | with_reducible refine r_kB ?_ | with_reducible refine r_tru ?_ | with_reducible refine r_kTb ?_ | with_reducible refine r_kTi ?_ | with_reducible refine r_kTn ?_ | with_reducible refine r_kTl ?_ | with_reducible refine r_kTt ?_ | with_reducible refine r_kTs ?_ | with_reducible refine r_not ?_ | with_reducible refine r_notV ?_ | with_reducible refine r_yes ?_
  | with_reducible refine r_nil ?_ | with_reducible refine r_cons ?_ | with_reducible refine r_tup ?_ | with_reducible refine r_lst ?_ | with_reducible refine r_newF ?_ | with_reducible refine r_cb ?_
  | with_reducible refine r_lenS ?_ | with_reducible refine r_lenL ?_ | with_reducible refine r_lenT ?_ | with_reducible refine r_lenSrc ?_ | with_reducible refine r_abs ?_ | with_reducible refine r_min2 ?_ | with_reducible refine r_max2 ?_ | with_reducible refine r_intI ?_ | with_reducible refine r_str ?_ | with_reducible refine r_tupT ?_ | with_reducible refine r_tupL ?_ | with_reducible refine r_divmod ?_
  | with_reducible refine r_sl ?_ | with_reducible refine r_noP ?_ | with_reducible refine r_part ?_ | with_reducible refine r_kP ?_ | with_reducible refine r_slS ?_ | with_reducible refine r_slT ?_ | with_reducible refine r_slL ?_ | with_reducible refine r_slSrc ?_
  | with_reducible refine r_bm ?_ | with_reducible refine r_tyS ?_ | with_reducible refine r_starts ?_ | with_reducible refine r_count ?_ | with_reducible refine r_call ?_ | with_reducible refine r_for ?_ | with_reducible refine r_seq ?_ | with_reducible refine r_kIt ?_ | with_reducible refine r_kIl ?_ | with_reducible refine r_kIs ?_ | with_reducible refine r_kIsrc ?_ | with_reducible refine r_r1 ?_ | with_reducible refine r_r2 ?_ | with_reducible refine r_lc ?_
  | with_reducible refine lit0 ?_ | with_reducible refine lit1 ?_ | with_reducible refine lit2 ?_ | with_reducible refine lit3 ?_ | with_reducible refine lit4 ?_ | with_reducible refine lit5 ?_ | with_reducible refine lit6 ?_ | with_reducible refine lit7 ?_
  | fail)
local macro_rules | `(tactic| walk_at "st") => `(tactic| repeat (first | walk_at "st1" | dsimp only))
local macro_rules | `(tactic| walk_at "go") => `(tactic| (simp only [dstart, dEnd, List.map_cons, List.map_nil, List.length_cons, List.length_nil, Nat.reduceAdd, Nat.reduceSub, Nat.zero_add, List.replicate, List.cons_append, List.nil_append]; walk_at "st"))

/-! ### the law's source of numbers -/
/-- a source: k more picks may be made -/
def Src (k : Nat) (o : DO) : Prop := ∃ a b c : Int, o = .lst [.int a, .int b, .int c] ∧ 0 ≤ a ∧ a < 2 ^ 400 ∧ 0 ≤ b ∧ b < 2147483647 ∧ 0 ≤ c ∧ c + k ≤ 2 ^ 60
theorem Src.less {j k : Nat} {o : DO} (h : Src k o) (l : j ≤ k) : Src j o := by
  obtain ⟨a, b, c, e, h1, h2, h3, h4, h5, h6⟩ := h
  exact ⟨a, b, c, e, h1, h2, h3, h4, h5, by omega⟩
def sp_law_pick : DSp := fun ds M Q _ => ∃ a m o k, ds = [.ref a, .int m] ∧ M a = some o ∧ Src (k + 1) o ∧ 0 < m ∧ m < 2 ^ 1000 ∧ ∀ r o', 0 ≤ r → r < m → Src k o' → Q (.int r) (mset M a o')
def t_law_pick : DTS := (dSq (dIfS (dTest (dOp dGt (dOp dIdx (dVar 0) (dC (.int 0))) (dC (.int 0)))) (dSq (dAs (dOp dMod (dCB dInt (dCons (dOp dIdx (dVar 0) (dC (.int 0))) dNil)) (dVar 1)) (dgN 2)) (dSq (dAs (dOp dFdiv (dOp dIdx (dVar 0) (dC (.int 0))) (dVar 1)) (dgSub (dVar 0) (dC (.int 0)))) (dRt (dVar 2)))) dNx) (dSq (dAuS (dVar 0) (dC (.int 2)) (dC (.int 1)) dIAdd) (dSq (dAs (dOp dMod (dCB dInt (dCons (dOp (dAdd false) (dOp (dMul false) (dOp dIdx (dVar 0) (dC (.int 1))) (dC (.int 48271))) (dOp (dMul false) (dOp dIdx (dVar 0) (dC (.int 2))) (dC (.int 90001)))) dNil)) (dC (.int 2147483647))) (dgSub (dVar 0) (dC (.int 1)))) (dRt (dOp dMod (dOp dFdiv (dOp dMod (dCB dInt (dCons (dOp (dAdd false) (dOp (dMul false) (dOp dIdx (dVar 0) (dC (.int 1))) (dC (.int 16807))) (dOp (dMul false) (dOp dIdx (dVar 0) (dC (.int 2))) (dC (.int 5701)))) dNil)) (dC (.int 2147483629))) (dC (.int 8))) (dVar 1))))))
theorem len_law_pick : ∀ ds M Q E, sp_law_pick ds M Q E → ds.length = 2 := by
  intro ds M Q E h
  obtain ⟨a, m, o, k, rfl, _⟩ := h
  rfl
theorem sem_law_pick (ds : List D) (M : Mu) (Q : DK) (E : DXK) (h : sp_law_pick ds M Q E) : t_law_pick (dEnd Q) (dstart 3 ds) M := by
  obtain ⟨p, m, o, k, rfl, hM, ⟨a, b, c, rfl, a0, a1, b0, b1, c0, c1⟩, m0, m1, h⟩ := h
  unfold t_law_pick
  walk_at "go"
  refine r_if ?_
  walk_at "st"
  refine r_idxR hM atI_zero ?_
  walk_at "st"
  refine ⟨fun ha => ?_, fun ha => ?_⟩
  · have ha := of_decide_eq_true ha
    walk_at "st"
    refine r_idxR hM atI_zero ?_
    walk_at "st"
    refine ⟨by omega, ?_⟩
    walk_at "st"
    refine r_idxR hM atI_zero ?_
    walk_at "st"
    refine ⟨div_fit 1000 (by omega) (by omega), ?_⟩
    walk_at "st"
    refine r_setV hM (j := 0) rfl ?_
    walk_at "st"
    refine Wq.now (h _ _ ?_ ?_ ⟨_, b, c, rfl, ?_, ?_, b0, b1, c0, by omega⟩)
    · rw [fmod_pos m0]; exact Int.emod_nonneg _ (by omega)
    · rw [fmod_pos m0]; exact Int.emod_lt_of_pos _ m0
    · rw [fdiv_pos m0]; exact Int.ediv_nonneg a0 (by omega)
    · rw [fdiv_pos m0]; exact Int.lt_of_le_of_lt (Int.ediv_le_self _ a0) a1
  · clear ha
    walk_at "st"
    refine r_getM hM atI_two ?_
    walk_at "st"
    refine r_setV hM (j := 2) rfl ?_
    walk_at "st"
    refine r_idxR mset_same atI_one ?_
    walk_at "st"
    refine ⟨mul_fit 32 32 (by omega) (by decide), ?_⟩
    walk_at "st"
    refine r_idxR mset_same atI_two ?_
    walk_at "st"
    refine ⟨mul_fit 64 32 (by omega) (by decide), ?_⟩
    walk_at "st"
    refine ⟨by decide, ?_⟩
    have p1 : (0 : Int) < 2147483647 := by decide
    have p2 : (0 : Int) < 2147483629 := by decide
    have p3 : (0 : Int) < 8 := by decide
    rw [fmod_pos p1]
    walk_at "st"
    refine r_setV mset_same (j := 1) rfl ?_
    rw [mset_mset]
    walk_at "st"
    refine r_idxR mset_same atI_one ?_
    walk_at "st"
    refine ⟨mul_fit 32 32 (by omega) (by decide), ?_⟩
    walk_at "st"
    refine r_idxR mset_same atI_two ?_
    walk_at "st"
    refine ⟨mul_fit 64 32 (by omega) (by decide), ?_⟩
    walk_at "st"
    refine ⟨by decide, ?_⟩
    rw [fmod_pos p2]
    walk_at "st"
    refine ⟨div_fit 4 (by decide) (by decide), ?_⟩
    walk_at "st"
    refine ⟨by omega, ?_⟩
    rw [fmod_pos m0]
    refine Wq.now (h _ _ (Int.emod_nonneg _ (by omega)) (Int.emod_lt_of_pos _ m0) ⟨a, _, _, rfl, a0, a1, Int.emod_nonneg _ (by omega), Int.emod_lt_of_pos _ p1, by omega, by omega⟩)
/-! one of a list of things -/
def sp_law_one : DSp := fun ds M Q _ => ∃ a xs o k, ds = [.ref a, .lst xs] ∧ M a = some o ∧ Src (k + 1) o ∧ 0 < xs.length ∧ xs.length < 2 ^ 60 ∧ ∀ x o', x ∈ xs → Src k o' → Q x (mset M a o')
def t_law_one : DTS := (dRt (dOp dIdx (dVar 1) (dCall sp_law_pick [] dX0 (dCons (dVar 0) (dCons (dCB dLen (dCons (dVar 1) dNil)) dNil)))))
theorem len_law_one : ∀ ds M Q E, sp_law_one ds M Q E → ds.length = 2 := by
  intro ds M Q E h
  obtain ⟨a, m, o, k, rfl, _⟩ := h
  rfl
theorem sem_law_one (ds : List D) (M : Mu) (Q : DK) (E : DXK) (h : sp_law_one ds M Q E) : t_law_one (dEnd Q) (dstart 2 ds) M := by
  obtain ⟨p, xs, o, k, rfl, hM, hS, l0, l1, h⟩ := h
  unfold t_law_one
  walk_at "go"
  refine ⟨p, _, o, k, rfl, hM, hS, by omega, by omega, fun r o' r0 r1 s' => ?_⟩
  obtain ⟨j, rfl⟩ := Int.eq_ofNat_of_zero_le r0
  have hj : j < xs.length := by omega
  refine r_idxL (atI_nat (xs := xs) (j := j) (List.getElem?_eq_getElem hj)) ?_
  exact Wq.now (h _ _ (List.getElem_mem hj) s')
/-! the source -/
def sp_law_source : DSp := fun ds M Q _ => ∃ ns at', ds = [.src ns, .int at'] ∧ 0 ≤ at' ∧ at' < 1000000 ∧ ∀ p o, M p = none → Src (2 ^ 59) o → Q (.ref p) (mset M p o)
def t_law_source : DTS := (dSq (dAs (dIf (dTest (dOp dLt (dVar 1) (dCB dLen (dCons (dVar 0) dNil)))) (dCB dInt (dCons (dOp dIdx (dVar 0) (dVar 1)) dNil)) (dOp (dAdd false) (dOp (dMul false) (dC (.int 41)) (dCB dSum (dCons (dLc false (diSeq (dSl false (dVar 0) dNoP (dPart (dC (.int 6))))) (dgN 5) dYes (dOp dMod (dCB dInt (dCons (dVar 5) dNil)) (dC (.int 999979))) [5]) dNil))) (dC (.int 29)))) (dgN 2)) (dSq (dAs (dOp dMod (dCB dAbs (dCons (dVar 2) dNil)) (dOp (dMul false) (dOp dPow (dC (.int 10)) (dC (.int 60))) (dOp dPow (dC (.int 10)) (dC (.int 60))))) (dgN 3)) (dSq (dAs (dOp dMod (dCB dInt (dCons (dOp (dAdd false) (dOp (dAdd false) (dOp (dAdd false) (dOp (dMul false) (dC (.int 2)) (dVar 3)) (dIf (dTest (dOp dLt (dVar 2) (dC (.int 0)))) (dC (.int 1)) (dC (.int 0)))) (dOp (dMul false) (dVar 1) (dC (.int 130043)))) (dC (.int 70099))) dNil)) (dC (.int 2147483629))) (dgN 4)) (dRt (dLst true (dCons (dIf (dTest (dOp dGe (dVar 3) (dOp dPow (dC (.int 10)) (dC (.int 18))))) (dVar 3) (dC (.int 0))) (dCons (dOp dMod (dCB dInt (dCons (dOp (dMul false) (dOp (dAdd false) (dVar 4) (dC (.int 7019))) (dOp (dAdd false) (dVar 4) (dC (.int 80021)))) dNil)) (dC (.int 2147483629))) (dCons (dVar 1) dNil))))))))
theorem len_law_source : ∀ ds M Q E, sp_law_source ds M Q E → ds.length = 2 := by
  intro ds M Q E h
  obtain ⟨a, m, rfl, _⟩ := h
  rfl
theorem cutL_none_nat {α : Type} {xs : List α} {n : Nat} : cutL xs none (some (n : Int)) = xs.take n := by
  unfold cutL
  rw [HT.sIx_none, HT.sIx_nat, List.drop_zero, Nat.sub_zero]
  by_cases h : n ≤ xs.length
  · rw [Nat.min_eq_left h]
  · rw [Nat.min_eq_right (by omega), List.take_of_length_le (Nat.le_refl _), List.take_of_length_le (by omega)]
theorem sum_bd {B : Nat} : ∀ ns : List Int, (∀ n ∈ ns, 0 ≤ n ∧ n < B) → 0 ≤ ns.sum ∧ ns.sum ≤ (ns.length * B : Nat)
  | [], _ => by simp
  | n :: ns, h => by
    obtain ⟨h1, h2⟩ := sum_bd ns fun m hm => h m (List.mem_cons_of_mem _ hm)
    obtain ⟨h3, h4⟩ := h n (List.mem_cons_self ..)
    rw [List.sum_cons, List.length_cons, Nat.succ_mul]
    omega
theorem sem_law_source (ds : List D) (M : Mu) (Q : DK) (E : DXK) (h : sp_law_source ds M Q E) : t_law_source (dEnd Q) (dstart 6 ds) M := by
  obtain ⟨ns, at', rfl, a0, a1, h⟩ := h
  unfold t_law_source
  walk_at "go"
  have tail : ∀ cell : Int, (dSq (dAs (dOp dMod (dCB dAbs (dCons (dVar 2) dNil)) (dOp (dMul false) (dOp dPow (dC (.int 10)) (dC (.int 60))) (dOp dPow (dC (.int 10)) (dC (.int 60))))) (dgN 3)) (dSq (dAs (dOp dMod (dCB dInt (dCons (dOp (dAdd false) (dOp (dAdd false) (dOp (dAdd false) (dOp (dMul false) (dC (.int 2)) (dVar 3)) (dIf (dTest (dOp dLt (dVar 2) (dC (.int 0)))) (dC (.int 1)) (dC (.int 0)))) (dOp (dMul false) (dVar 1) (dC (.int 130043)))) (dC (.int 70099))) dNil)) (dC (.int 2147483629))) (dgN 4)) (dRt (dLst true (dCons (dIf (dTest (dOp dGe (dVar 3) (dOp dPow (dC (.int 10)) (dC (.int 18))))) (dVar 3) (dC (.int 0))) (dCons (dOp dMod (dCB dInt (dCons (dOp (dMul false) (dOp (dAdd false) (dVar 4) (dC (.int 7019))) (dOp (dAdd false) (dVar 4) (dC (.int 80021)))) dNil)) (dC (.int 2147483629))) (dCons (dVar 1) dNil))))))) { nx := fun x M => Wq Q D.non M, rt := Wq Q } [some (.src ns), some (.int at'), some (.int cell), none, none, none] M := by
    intro cell
    walk_at "st"
    refine ⟨⟨by decide, by decide, by decide⟩, ?_⟩
    walk_at "st"
    refine ⟨⟨by decide, by decide, by decide⟩, ?_⟩
    walk_at "st"
    refine ⟨mul_fit 200 200 (by decide +kernel) (by decide +kernel), ?_⟩
    walk_at "st"
    refine ⟨by decide +kernel, ?_⟩
    have hs0 : 0 ≤ Int.fmod (cell.natAbs : Int) (10 ^ Int.toNat 60 * 10 ^ Int.toNat 60) := by
      rw [fmod_pos (by decide +kernel)]; exact Int.emod_nonneg _ (by decide +kernel)
    have hs1 : Int.fmod (cell.natAbs : Int) (10 ^ Int.toNat 60 * 10 ^ Int.toNat 60) < 2 ^ 400 := by
      rw [fmod_pos (by decide +kernel)]; exact Int.lt_trans (Int.emod_lt_of_pos _ (by decide +kernel)) (by decide +kernel)
    generalize Int.fmod (cell.natAbs : Int) (10 ^ Int.toNat 60 * 10 ^ Int.toNat 60) = size at hs0 hs1 ⊢
    walk_at "st"
    refine ⟨mul_fit 2 400 (by decide) (by omega), ?_⟩
    walk_at "st"
    refine r_dif ?_
    walk_at "st"
    have rest : ∀ e : Int, (dSq (dAs (dOp dMod (dCB dInt (dCons (dOp (dAdd false) (dOp (dAdd false) (dC (.int (2 * size + e))) (dOp (dMul false) (dVar 1) (dC (.int 130043)))) (dC (.int 70099))) dNil)) (dC (.int 2147483629))) (dgN 4)) (dRt (dLst true (dCons (dIf (dTest (dOp dGe (dVar 3) (dOp dPow (dC (.int 10)) (dC (.int 18))))) (dVar 3) (dC (.int 0))) (dCons (dOp dMod (dCB dInt (dCons (dOp (dMul false) (dOp (dAdd false) (dVar 4) (dC (.int 7019))) (dOp (dAdd false) (dVar 4) (dC (.int 80021)))) dNil)) (dC (.int 2147483629))) (dCons (dVar 1) dNil)))))) { nx := fun x M => Wq Q D.non M, rt := Wq Q } [some (.src ns), some (.int at'), some (.int cell), some (.int size), none, none] M := by
      intro e
      walk_at "st"
      refine ⟨mul_fit 32 32 (by omega) (by decide), ?_⟩
      walk_at "st"
      refine ⟨by decide, ?_⟩
      rw [fmod_pos (j := 2147483629) (by decide)]
      have hz0 : 0 ≤ (2 * size + e + at' * 130043 + 70099) % 2147483629 := Int.emod_nonneg _ (by decide)
      have hz1 : (2 * size + e + at' * 130043 + 70099) % 2147483629 < 2147483629 := Int.emod_lt_of_pos _ (by decide)
      generalize (2 * size + e + at' * 130043 + 70099) % 2147483629 = small at hz0 hz1 ⊢
      walk_at "st"
      refine r_dif ?_
      walk_at "st"
      refine ⟨⟨by decide, by decide, by decide⟩, ?_⟩
      walk_at "st"
      have fin : ∀ a : Int, 0 ≤ a → a < 2 ^ 400 → (dCons (dOp dMod (dCB dInt (dCons (dOp (dMul false) (dOp (dAdd false) (dVar 4) (dC (.int 7019))) (dOp (dAdd false) (dVar 4) (dC (.int 80021)))) dNil)) (dC (.int 2147483629))) (dCons (dVar 1) dNil)) [some (.src ns), some (.int at'), some (.int cell), some (.int size), some (.int small), none] M fun ds M2 => (D.int a :: ds).length ≤ sizeLine ∧ dNew true (D.int a :: ds) M2 (Wq Q) := by
        intro a h0 h1
        walk_at "st"
        refine ⟨mul_fit 40 40 (by omega) (by omega), ?_⟩
        walk_at "st"
        refine ⟨by decide, ?_⟩
        walk_at "st"
        refine r_newT fun p hp => Wq.now (h p _ hp ⟨a, _, at', rfl, h0, h1, ?_, ?_, a0, by omega⟩)
        · rw [fmod_pos (by decide)]; exact Int.emod_nonneg _ (by decide)
        · rw [fmod_pos (by decide)]; exact Int.lt_trans (Int.emod_lt_of_pos _ (by decide)) (by decide)
      refine ⟨fun _ => ?_, fun _ => ?_⟩
      · walk_at "st1"
        exact fin _ hs0 hs1
      · walk_at "st1"
        exact fin _ (by decide) (by decide +kernel)
    refine ⟨fun _ => ?_, fun _ => ?_⟩
    · exact rest 1
    · exact rest 0
  refine r_dif ?_
  walk_at "st"
  refine ⟨fun hl => ?_, fun hl => ?_⟩
  · have hl := of_decide_eq_true hl
    obtain ⟨j, rfl⟩ := Int.eq_ofNat_of_zero_le a0
    have hj : j < ns.length := by omega
    walk_at "st"
    refine r_idxSrc (atI_nat (xs := ns.map D.int) (j := j) (by rw [List.getElem?_map, List.getElem?_eq_getElem hj]; rfl)) ?_
    walk_at "st1"
    walk_at "st1"
    exact tail _
  · clear hl
    walk_at "st"
    rw [show (6 : Int) = ((6 : Nat) : Int) from rfl, cutL_none_nat]
    have hl6 : ((ns.map D.int).take 6).length ≤ 6 := by rw [List.length_take]; omega
    refine lc_map (fun d => match d with
      | .int i => .int (i.fmod 999979)
      | d => d) trivial _ _ (by rw [List.length_nil, Nat.zero_add]; exact sz1000 (by omega)) (fun x hx R hR => ?_) ?_
    · obtain ⟨n, _, rfl⟩ := List.mem_map.mp (List.mem_of_mem_take hx)
      simp only [dwipe, List.set]
      walk_at "st"
      exact ⟨by decide, hR⟩
    · rw [List.nil_append, ← List.map_take, List.map_map]
      walk_at "st"
      refine r_sum (es := ((ns.take 6).map fun i => i.fmod 999979).map D.int) (by rw [List.map_map]; rfl) (intsOf_map _) ?_
      have hb := sum_bd (B := 999979) ((ns.take 6).map fun i => i.fmod 999979) (fun n hn => by
        obtain ⟨m, _, rfl⟩ := List.mem_map.mp hn
        rw [fmod_pos (by decide)]
        exact ⟨Int.emod_nonneg _ (by decide), Int.emod_lt_of_pos _ (by decide)⟩)
      have hl7 : ((ns.take 6).map fun i => i.fmod 999979).length ≤ 6 := by rw [List.length_map, List.length_take]; omega
      have hl8 := Nat.mul_le_mul_right 999979 hl7
      walk_at "st"
      refine ⟨mul_fit 32 64 (by decide) (by omega), ?_⟩
      walk_at "st1"
      walk_at "st1"
      walk_at "st1"
      exact tail _
/-! sameness -/
/-- x looks as the data d does -/
def Vw (M : Mu) (x d : D) : Prop := x = d ∨ ∃ a es, x = .ref a ∧ d = .lst es ∧ M a = some (.lst es)
/-- plain data, not deeper than n -/
def Pl : Nat → D → Prop
  | _, .non => True
  | _, .bl _ => True
  | _, .int _ => True
  | _, .str _ => True
  | n + 1, .tup ds => ds.length ≤ 1000000 ∧ ∀ d ∈ ds, Pl n d
  | n + 1, .lst ds => ds.length ≤ 1000000 ∧ ∀ d ∈ ds, Pl n d
  | _, _ => False
def spS : Nat → DSp
  | 0 => fun _ _ _ _ => False
  | n + 1 => fun ds M Q _ => ∃ x y d, ds = [x, y] ∧ Vw M x d ∧ Vw M y d ∧ Pl n d ∧ Q (.bl true) M
def t_law_same (n : Nat) : DTS := (dSq (dIfS (dOr (dTest (dOp dIsN (dVar 1) (dC .non))) (dTest (dOp dIsN (dVar 0) (dC .non)))) (dRt (dAndV (dOp dIsN (dVar 1) (dC .non)) (dOp dIsN (dVar 0) (dC .non)))) dNx) (dSq (dIfS (dOr (dTru (dCB dIsi (dCons (dVar 1) (dCons (dC (.ty "bool")) dNil)))) (dTru (dCB dIsi (dCons (dVar 0) (dCons (dC (.ty "bool")) dNil))))) (dRt (dAndV (dCB dIsi (dCons (dVar 1) (dCons (dC (.ty "bool")) dNil))) (dAndV (dCB dIsi (dCons (dVar 0) (dCons (dC (.ty "bool")) dNil))) (dOp dEq (dVar 0) (dVar 1))))) dNx) (dSq (dIfS (dTru (dCB dIsi (dCons (dVar 1) (dCons (dC (.ty "int")) dNil)))) (dRt (dAndV (dCB dIsi (dCons (dVar 0) (dCons (dC (.ty "int")) dNil))) (dOp dEq (dVar 0) (dVar 1)))) dNx) (dSq (dIfS (dTru (dCB dIsi (dCons (dVar 1) (dCons (dC (.ty "str")) dNil)))) (dRt (dAndV (dCB dIsi (dCons (dVar 0) (dCons (dC (.ty "str")) dNil))) (dOp dEq (dVar 0) (dVar 1)))) dNx) (dSq (dIfS (dAnd (dTru (dCB dIsi (dCons (dVar 1) (dCons (dC (.ty "tuple")) dNil)))) (dNot (dTru (dCB dIsi (dCons (dVar 0) (dCons (dC (.ty "tuple")) dNil)))))) (dRt (dC (.bl false))) dNx) (dSq (dIfS (dAnd (dTru (dCB dIsi (dCons (dVar 1) (dCons (dC (.ty "list")) dNil)))) (dNot (dTru (dCB dIsi (dCons (dVar 0) (dCons (dC (.ty "list")) dNil)))))) (dRt (dC (.bl false))) dNx) (dSq (dIfS (dTest (dOp dNe (dCB dLen (dCons (dVar 0) dNil)) (dCB dLen (dCons (dVar 1) dNil)))) (dRt (dC (.bl false))) dNx) (dRt (dCB dAll (dCons (dLc false (diR1 (dCons (dCB dLen (dCons (dVar 1) dNil)) dNil)) (dgN 2) dYes (dCall (spS n) [] dX0 (dCons (dOp dIdx (dVar 0) (dVar 2)) (dCons (dOp dIdx (dVar 1) (dVar 2)) dNil))) [2]) dNil))))))))))
theorem len_law_same : ∀ n ds M Q E, spS n ds M Q E → ds.length = 2
  | 0, _, _, _, _, h => h.elim
  | n + 1, ds, M, Q, E, h => by
    obtain ⟨x, y, d, rfl, _⟩ := h
    rfl
theorem r_lenG {M : Mu} {d : D} {es : List D} {Q : DK} (e : dits M d = some es) (q : Q (.int es.length) M) : dLen [d] M Q := by
  unfold dLen
  cases d with
  | str cs => cases e
  | _ => simp only [e]; exact q
theorem r_idxG {M : Mu} {d z : D} {es : List D} {n : Int} {Q : DK} (e : dits M d = some es) (hk : atI es n = some z) (q : Q z M) : dIdx d (.int n) M Q := by
  unfold dIdx
  cases d with
  | str cs => cases e
  | _ => simp only [e, Option.bind_some, hk]; exact q
theorem same_seq {n : Nat} {M : Mu} {Q : DK} {x y : D} {ds : List D} {S : String} (hx : dits M x = some ds) (hy : dits M y = some ds) (nx : DL.isNon x = false) (ny : DL.isNon y = false) (tx : tyNm M x = some S) (ty : tyNm M y = some S) (hS : S = "tuple" ∨ S = "list")
    (hl : ds.length ≤ 1000000) (hp : ∀ d ∈ ds, ∀ Q E, Q (.bl true) M → spS n [d, d] M Q E) (h : Q (.bl true) M) : t_law_same n (dEnd Q) (dstart 3 [x, y]) M := by
  have k1 : kitB S "bool" = some false := by rcases hS with rfl | rfl <;> decide +kernel
  have k2 : kitB S "int" = some false := by rcases hS with rfl | rfl <;> decide +kernel
  have k3 : kitB S "str" = some false := by rcases hS with rfl | rfl <;> decide +kernel
  obtain ⟨k4, e4⟩ : ∃ b, kitB S "tuple" = some b := by rcases hS with rfl | rfl <;> exact ⟨_, rfl⟩
  obtain ⟨k5, e5⟩ : ∃ b, kitB S "list" = some b := by rcases hS with rfl | rfl <;> exact ⟨_, rfl⟩
  unfold t_law_same
  walk_at "go"
  refine r_if (r_or ?_)
  walk_at "st"
  rw [ny]
  refine ⟨fun z => (Bool.noConfusion z), fun _ => ?_⟩
  walk_at "st"
  rw [nx]
  refine ⟨fun z => (Bool.noConfusion z), fun _ => ?_⟩
  walk_at "st"
  refine r_if (r_or ?_)
  walk_at "st"
  refine r_isi ty k1 ?_
  walk_at "st"
  refine ⟨fun z => (Bool.noConfusion z), fun _ => ?_⟩
  walk_at "st"
  refine r_isi tx k1 ?_
  walk_at "st"
  refine ⟨fun z => (Bool.noConfusion z), fun _ => ?_⟩
  walk_at "st"
  refine r_if ?_
  walk_at "st"
  refine r_isi ty k2 ?_
  walk_at "st"
  refine ⟨fun z => (Bool.noConfusion z), fun _ => ?_⟩
  walk_at "st"
  refine r_if ?_
  walk_at "st"
  refine r_isi ty k3 ?_
  walk_at "st"
  refine ⟨fun z => (Bool.noConfusion z), fun _ => ?_⟩
  walk_at "st"
  refine r_if (r_and ?_)
  walk_at "st"
  refine r_isi ty e4 ?_
  walk_at "st"
  have rest : (dSq (dIfS (dAnd (dTru (dCB dIsi (dCons (dVar 1) (dCons (dC (.ty "list")) dNil)))) (dNot (dTru (dCB dIsi (dCons (dVar 0) (dCons (dC (.ty "list")) dNil)))))) (dRt (dC (.bl false))) dNx) (dSq (dIfS (dTest (dOp dNe (dCB dLen (dCons (dVar 0) dNil)) (dCB dLen (dCons (dVar 1) dNil)))) (dRt (dC (.bl false))) dNx) (dRt (dCB dAll (dCons (dLc false (diR1 (dCons (dCB dLen (dCons (dVar 1) dNil)) dNil)) (dgN 2) dYes (dCall (spS n) [] dX0 (dCons (dOp dIdx (dVar 0) (dVar 2)) (dCons (dOp dIdx (dVar 1) (dVar 2)) dNil))) [2]) dNil))))) { nx := fun x M => Wq Q D.non M, rt := Wq Q } [some x, some y, none] M := by
    walk_at "st"
    have rest2 : (dSq (dIfS (dTest (dOp dNe (dCB dLen (dCons (dVar 0) dNil)) (dCB dLen (dCons (dVar 1) dNil)))) (dRt (dC (.bl false))) dNx) (dRt (dCB dAll (dCons (dLc false (diR1 (dCons (dCB dLen (dCons (dVar 1) dNil)) dNil)) (dgN 2) dYes (dCall (spS n) [] dX0 (dCons (dOp dIdx (dVar 0) (dVar 2)) (dCons (dOp dIdx (dVar 1) (dVar 2)) dNil))) [2]) dNil)))) { nx := fun x M => Wq Q D.non M, rt := Wq Q } [some x, some y, none] M := by
      walk_at "st"
      refine r_if ?_
      walk_at "st"
      refine r_lenG hx ?_
      walk_at "st"
      refine r_lenG hy ?_
      walk_at "st"
      refine ⟨fun z => by simp at z, fun _ => ?_⟩
      walk_at "st"
      refine r_lenG hy ?_
      walk_at "st"
      refine r_kR1 (by omega) (by omega) ?_
      rw [Int.toNat_natCast]
      refine lc_map (fun _ => .bl true) trivial _ _ (by rw [rngD_len, List.length_nil, Nat.zero_add]; exact sz1000 hl) (fun z hz R hR => ?_) ?_
      · obtain ⟨j, hj, rfl⟩ := List.mem_map.mp hz
        rw [List.mem_range] at hj
        rw [Int.zero_add]
        simp only [dwipe, List.set]
        walk_at "st"
        have hg := atI_nat (xs := ds) (j := j) (List.getElem?_eq_getElem hj)
        refine r_idxG hx hg ?_
        walk_at "st"
        refine r_idxG hy hg ?_
        walk_at "st"
        exact hp _ (List.getElem_mem hj) _ _ hR
      · walk_at "st"
        refine r_all (bs := List.replicate ds.length true) (es := List.replicate ds.length (.bl true)) ?_ ?_ ?_
        · rw [List.nil_append, List.map_const', rngD_len]; rfl
        · rw [← List.map_replicate, blsOf_map]
        · refine Wq.now ?_
          have : (List.replicate ds.length true).all id = true := by
            rw [List.all_eq_true]
            intro b hb
            exact (List.eq_of_mem_replicate hb)
          rw [this]
          exact h
    refine r_if (r_and ?_)
    walk_at "st"
    refine r_isi ty e5 ?_
    walk_at "st"
    refine ⟨fun z => ?_, fun z => ?_⟩
    · subst z
      walk_at "st"
      refine r_isi tx e5 ?_
      walk_at "st"
      refine ⟨fun z => (Bool.noConfusion z), fun _ => ?_⟩
      exact rest2
    · exact ⟨fun z => (Bool.noConfusion z), fun _ => rest2⟩
  refine ⟨fun z => ?_, fun z => ?_⟩
  · subst z
    walk_at "st"
    refine r_isi tx e4 ?_
    walk_at "st"
    refine ⟨fun z => (Bool.noConfusion z), fun _ => ?_⟩
    exact rest
  · exact ⟨fun z => (Bool.noConfusion z), fun _ => rest⟩
theorem sem_law_same (n : Nat) (ds : List D) (M : Mu) (Q : DK) (E : DXK) (h : spS (n + 1) ds M Q E) : t_law_same n (dEnd Q) (dstart 3 ds) M := by
  obtain ⟨x, y, d, rfl, hx, hy, hp, h⟩ := h
  have seq : ∀ es : List D, (d = .tup es ∨ d = .lst es) → es.length ≤ 1000000 → (∀ e ∈ es, ∀ Q E, Q (.bl true) M → spS n [e, e] M Q E) → t_law_same n (dEnd Q) (dstart 3 [x, y]) M := by
    intro es hd hl hq
    rcases hd with rfl | rfl
    · rcases hx with rfl | ⟨a, fs, _, hz, _⟩
      · rcases hy with rfl | ⟨a, fs, _, hz, _⟩
        · exact same_seq rfl rfl rfl rfl rfl rfl (.inl rfl) hl hq h
        · cases hz
      · cases hz
    · have two : ∀ z, Vw M z (.lst es) → dits M z = some es ∧ DL.isNon z = false ∧ tyNm M z = some "list" := by
        intro z hz
        rcases hz with rfl | ⟨a, fs, rfl, hz, e⟩
        · exact ⟨rfl, rfl, rfl⟩
        · cases hz
          exact ⟨dits_ref e, rfl, tyNm_ref e⟩
      obtain ⟨a1, a2, a3⟩ := two x hx
      obtain ⟨b1, b2, b3⟩ := two y hy
      exact same_seq a1 b1 a2 b2 a3 b3 (.inr rfl) hl hq h
  have atom : (∀ ds, d ≠ .lst ds) → x = d ∧ y = d := fun hd => by
    refine ⟨?_, ?_⟩
    · rcases hx with rfl | ⟨a, fs, _, hz, _⟩
      · rfl
      · exact absurd hz (hd _)
    · rcases hy with rfl | ⟨a, fs, _, hz, _⟩
      · rfl
      · exact absurd hz (hd _)
  cases d with
  | non =>
    obtain ⟨rfl, rfl⟩ := atom (fun _ z => by cases z)
    unfold t_law_same
    walk_at "go"
    refine r_if (r_or ?_)
    walk_at "st"
    refine ⟨fun _ => ?_, fun z => (Bool.noConfusion z)⟩
    refine ⟨fun _ => ?_, fun z => (Bool.noConfusion z)⟩
    walk_at "st"
    refine r_andV ?_
    walk_at "st"
    refine ⟨fun _ => ?_, fun z => (Bool.noConfusion z)⟩
    walk_at "st"
    exact Wq.now h
  | bl b =>
    obtain ⟨rfl, rfl⟩ := atom (fun _ z => by cases z)
    unfold t_law_same
    walk_at "go"
    refine r_if (r_or ?_)
    walk_at "st"
    refine ⟨fun z => (Bool.noConfusion z), fun _ => ?_⟩
    walk_at "st"
    refine ⟨fun z => (Bool.noConfusion z), fun _ => ?_⟩
    walk_at "st"
    refine r_if (r_or ?_)
    walk_at "st"
    refine r_isi (S := "bool") (b := true) rfl (by decide +kernel) ?_
    walk_at "st"
    refine ⟨fun _ => ?_, fun z => (Bool.noConfusion z)⟩
    refine ⟨fun _ => ?_, fun z => (Bool.noConfusion z)⟩
    walk_at "st"
    refine r_andV ?_
    walk_at "st"
    refine r_isi (S := "bool") (b := true) rfl (by decide +kernel) ?_
    walk_at "st"
    refine ⟨fun _ => ?_, fun z => (Bool.noConfusion z)⟩
    refine r_andV ?_
    walk_at "st"
    refine r_isi (S := "bool") (b := true) rfl (by decide +kernel) ?_
    walk_at "st"
    refine ⟨fun _ => ?_, fun z => (Bool.noConfusion z)⟩
    walk_at "st"
    rw [decide_eq_true rfl]
    exact Wq.now h
  | int i =>
    obtain ⟨rfl, rfl⟩ := atom (fun _ z => by cases z)
    unfold t_law_same
    walk_at "go"
    refine r_if (r_or ?_)
    walk_at "st"
    refine ⟨fun z => (Bool.noConfusion z), fun _ => ?_⟩
    walk_at "st"
    refine ⟨fun z => (Bool.noConfusion z), fun _ => ?_⟩
    walk_at "st"
    refine r_if (r_or ?_)
    walk_at "st"
    refine r_isi (S := "int") (b := false) rfl (by decide +kernel) ?_
    walk_at "st"
    refine ⟨fun z => (Bool.noConfusion z), fun _ => ?_⟩
    walk_at "st"
    refine r_isi (S := "int") (b := false) rfl (by decide +kernel) ?_
    walk_at "st"
    refine ⟨fun z => (Bool.noConfusion z), fun _ => ?_⟩
    walk_at "st"
    refine r_if ?_
    walk_at "st"
    refine r_isi (S := "int") (b := true) rfl (by decide +kernel) ?_
    walk_at "st"
    refine ⟨fun _ => ?_, fun z => (Bool.noConfusion z)⟩
    walk_at "st"
    refine r_andV ?_
    walk_at "st"
    refine r_isi (S := "int") (b := true) rfl (by decide +kernel) ?_
    walk_at "st"
    refine ⟨fun _ => ?_, fun z => (Bool.noConfusion z)⟩
    walk_at "st"
    rw [decide_eq_true rfl]
    exact Wq.now h
  | str i =>
    obtain ⟨rfl, rfl⟩ := atom (fun _ z => by cases z)
    unfold t_law_same
    walk_at "go"
    refine r_if (r_or ?_)
    walk_at "st"
    refine ⟨fun z => (Bool.noConfusion z), fun _ => ?_⟩
    walk_at "st"
    refine ⟨fun z => (Bool.noConfusion z), fun _ => ?_⟩
    walk_at "st"
    refine r_if (r_or ?_)
    walk_at "st"
    refine r_isi (S := "str") (b := false) rfl (by decide +kernel) ?_
    walk_at "st"
    refine ⟨fun z => (Bool.noConfusion z), fun _ => ?_⟩
    walk_at "st"
    refine r_isi (S := "str") (b := false) rfl (by decide +kernel) ?_
    walk_at "st"
    refine ⟨fun z => (Bool.noConfusion z), fun _ => ?_⟩
    walk_at "st"
    refine r_if ?_
    walk_at "st"
    refine r_isi (S := "str") (b := false) rfl (by decide +kernel) ?_
    walk_at "st"
    refine ⟨fun z => (Bool.noConfusion z), fun _ => ?_⟩
    walk_at "st"
    refine r_if ?_
    walk_at "st"
    refine r_isi (S := "str") (b := true) rfl (by decide +kernel) ?_
    walk_at "st"
    refine ⟨fun _ => ?_, fun z => (Bool.noConfusion z)⟩
    walk_at "st"
    refine r_andV ?_
    walk_at "st"
    refine r_isi (S := "str") (b := true) rfl (by decide +kernel) ?_
    walk_at "st"
    refine ⟨fun _ => ?_, fun z => (Bool.noConfusion z)⟩
    walk_at "st"
    rw [decide_eq_true rfl]
    exact Wq.now h
  | tup es =>
    cases n with
    | zero => exact hp.elim
    | succ m => exact seq es (.inl rfl) hp.1 fun e he Q E q => ⟨e, e, e, rfl, .inl rfl, .inl rfl, hp.2 e he, q⟩
  | lst es =>
    cases n with
    | zero => exact hp.elim
    | succ m => exact seq es (.inr rfl) hp.1 fun e he Q E q => ⟨e, e, e, rfl, .inl rfl, .inl rfl, hp.2 e he, q⟩
  | src _ => cases n <;> exact hp.elim
  | ref _ => cases n <;> exact hp.elim
  | ty _ => cases n <;> exact hp.elim
  | exc _ _ _ _ _ => cases n <;> exact hp.elim
def sp_law_same : DSp := spS 9
/-! a def that promises nothing -/
theorem cal_no {P : Program} {w : World} {K : PySem.W.Frag} {mg : Str → Option Value} {base : Heap} {x : Str} {st : Stmt} {N ps : List Str} (d : DefAt K mg x st) (S : FnScope N ps (defScope st))
    (hbind : ∀ (kV doc pm : Value) (an : Option Addr) (cdv ct : Value) (us : List Value), us.length = ps.length → bindArgs (PySem.W.fnOf x x (defArgs st) (defBody st) (defScope st) .none kV doc pm an cdv ct) ⟨us, []⟩ = pure (ps.zip us)) :
    Cal P w K mg base 0 x ps (fun _ _ _ _ => False) := by
  obtain ⟨f, fd, F, m⟩ := d
  refine ⟨f, fd, ⟨fun vs H Q E h => ?_, fun A outer s H args us vs Q E hr he hb hv h => ?_⟩, m, F.kp, ?_⟩
  · obtain ⟨ds, M, F, Qd, Ed, r, s, h, _⟩ := h
    exact h.elim
  · obtain ⟨ds, M, F, Qd, Ed, r, s, h, _⟩ := h
    exact h.elim
  · exact F.bindsN hbind
end DL

namespace DL
open PySem PySem.Spec PyProof.Rows L2 TL

/-! ### from the head's facts to the data layer -/
def mkD (x : Str) (st : Stmt) : He.DefD := ⟨(x, none), x, x, defArgs st, defBody st, defScope st, [], []⟩
section
variable {K : PySem.W.Frag} {h : Heap} {mg : Str → Option Value} {w : World} {fa : List He.Fa} {fn : List He.DefD} {x : Str}
theorem defAt_of (X : K.In h) (G : h.Ns mainGlobals mg) (c : He.SaysD fa fn K) {st : Stmt} (i j : Nat) (h1 : fn[i]? = some (mkD x st)) (h2 : fa[j]? = some (.glo x)) : DefAt K mg x st := by
  obtain ⟨fd, F⟩ := c.def_ i h1
  exact ⟨_, fd, F, He.glo_ok X G (c.fact j h2)⟩
theorem free_of (X : K.In h) (G : h.Ns mainGlobals mg) (c : He.SaysD fa fn K) (j : Nat) (h2 : fa[j]? = some (.free x)) : mg x = none := He.free_ok X G (c.fact j h2)
theorem gcS_of (X : K.In h) (G : h.Ns mainGlobals mg) (c : He.SaysD fa fn K) (j : Nat) {z : Str} {cs : List Nat} (h2 : fa[j]? = some (.str x z)) (e : z = mkS cs) : GC K mg x (.str cs) := by
  obtain ⟨t, e2⟩ := He.str_ok X G (c.fact j h2)
  exact gc_str e2 e
theorem gcI_of (X : K.In h) (G : h.Ns mainGlobals mg) (c : He.SaysD fa fn K) (j : Nat) {i : Int} (h2 : fa[j]? = some (.int x i)) : GC K mg x (.int i) := by
  obtain ⟨t, e2⟩ := He.int_ok X G (c.fact j h2)
  exact ⟨_, .int i, e2, ⟨t, rfl⟩, fun F => by unfold Rp; rfl⟩
theorem gdI_of (X : K.In h) (G : h.Ns mainGlobals mg) {ts : List He.Tab} (c : He.SaysT fa fn ts w K) (j i : Nat) {key : Str} {n : Int} {t : He.Tab} (h2 : fa[j]? = some (.glo x)) (h3 : ts[i]? = some t) (ht : t.1 K = He.ga K x) {kvs : List (Str × He.Dv)} (hv : He.valsB K (He.ga K x) kvs = true) (hm : (key, He.Dv.int n) ∈ kvs) : GD K mg w x key (.int n) := by
  obtain ⟨es, m, hd⟩ := c.tab i h3
  rw [ht] at hd
  obtain ⟨u, e, r⟩ := He.valsB_ok hv hm
  refine ⟨_, .int n, He.glo_ok X G (c.d.fact j h2), ⟨es, m, u, hd.at_, hd.lit, e, r⟩, fun F => by unfold Rp; rfl⟩
end
/-- the law's own def: from its script to True -/
theorem law_sp {K : PySem.W.Frag} {sp : DSp} (h : ∀ ns M Q E, Q (.bl true) M → sp [.src ns] M Q E) (H : Hp) (a : Addr) (ns : List Int) (hS : SqL K H a (ns.map V.int)) : liftSp K sp [.ref a] H (fun v _ => v = .bl true) fun _ _ _ => False := by
  refine ⟨[.src ns], fun _ => none, H, fun d _ => d = .bl true, fun _ _ => False, ?_, @Sv.mk gh0 _ _ _ _ ⟨Le.refl H, fun _ _ _ => rfl, fun _ _ e => by cases e⟩ trivial, h _ _ _ _ rfl, ?_, fun _ _ _ _ _ q _ _ _ => q.elim⟩
  · refine RpL.cons ?_ RpL.nil
    unfold Rp
    exact ⟨a, rfl, hS⟩
  · intro d M' F' v H' q g s r
    subst q
    unfold Rp at r
    exact r
/-- sameness, to a depth -/
theorem cal_same {P : Program} {w : World} {K : PySem.W.Frag} {mg : Str → Option Value} {base : Heap} {st : Stmt} {N : List Str} (d : DefAt K mg "_law_same" st) (S : FnScope N ["answer", "due"] (defScope st)) (hN : N.length = 3)
    (hb : ∀ (n k : Nat), Cal P w K mg base k "_law_same" ["answer", "due"] (spS n) → ∀ (f : Addr) (cdv : Value) (A : Around) (outer : List Env) (s : Shared) (H : Hp) (E : XK), Room k (A.deeper (envOfC "_law_same" (defScope st) s.heap.objs.size f cdv)) → @DSs gh0 (cxOf CX0 P w K mg base N "_law_same" (defScope st) f cdv A outer s H E).nox (defBody st) (t_law_same n))
    (hbind : ∀ (kV doc pm : Value) (an : Option Addr) (cdv ct : Value) (us : List Value), us.length = 2 → bindArgs (PySem.W.fnOf "_law_same" "_law_same" (defArgs st) (defBody st) (defScope st) .none kV doc pm an cdv ct) ⟨us, []⟩ = pure ((["answer", "due"] : List Str).zip us)) :
    ∀ n, Cal P w K mg base n "_law_same" ["answer", "due"] (spS n)
  | 0 => cal_no d S hbind
  | n + 1 => cal_of d S (len_law_same (n + 1)) hbind (hb n n (cal_same d S hN hb hbind n)) fun ds M Q E h => by
    rw [hN]
    exact sem_law_same n ds M Q E h
end DL

namespace DL
open PySem PySem.Spec PyProof.Rows L2 TL
/-! ### a tuple of texts of the module -/
def strsB : List Value → List Str → Bool
  | [], [] => true
  | .str a _ :: vs, b :: bs => decide (a = b) && strsB vs bs
  | _, _ => false
def tupB (K : PySem.W.Frag) (a : Addr) (zs : List Str) : Bool := match K.lookup a with
  | some ⟨.type c, _, .seq its _, _⟩ => decide (c = "tuple") && (decide (its.size ≤ 1000) && strsB its.toList zs)
  | _ => false
theorem strsB_ok : ∀ {vs : List Value} {zs : List Str}, strsB vs zs = true → Vals (zs.map V.str) vs
  | [], [], _ => .nil
  | v :: vs, [], h => by cases v <;> cases h
  | [], z :: zs, h => by cases h
  | v :: vs, z :: zs, h => by
    cases v with
    | str a t =>
      obtain ⟨h1, h2⟩ := He.ba h
      have h1 : a = z := of_decide_eq_true h1
      subst h1
      exact .cons ⟨t, rfl⟩ (strsB_ok h2)
    | _ => cases h
theorem rpl_strs {K : PySem.W.Frag} {F : Hp} : ∀ {zs : List Str} {cs : List (List Nat)}, zs = cs.map mkS → RpL K F (cs.map D.str) (zs.map V.str)
  | _, [], e => by subst e; exact RpL.nil
  | _, c :: cs, e => by
    subst e
    exact RpL.cons (by unfold Rp; rfl) (rpl_strs rfl)
theorem gcT_of {K : PySem.W.Frag} {h : Heap} {mg : Str → Option Value} {fa : List He.Fa} {fn : List He.DefD} {x : Str} (X : K.In h) (G : h.Ns mainGlobals mg) (c : He.SaysD fa fn K) (j : Nat) {zs : List Str} {cs : List (List Nat)} (h2 : fa[j]? = some (.glo x)) (ht : tupB K (He.ga K x) zs = true) (e : zs = cs.map mkS) : GC K mg x (.tup (cs.map D.str)) := by
  refine ⟨_, .ref (He.ga K x), He.glo_ok X G (c.fact j h2), rfl, fun F => ?_⟩
  unfold Rp
  refine ⟨_, zs.map V.str, rfl, .inr ?_, rpl_strs e⟩
  unfold tupB at ht
  split at ht
  · next cl _ its n _ e2 =>
    obtain ⟨h3, h4⟩ := He.ba ht
    obtain ⟨h5, h6⟩ := He.ba h4
    have h3 : cl = "tuple" := of_decide_eq_true h3
    subst h3
    exact ⟨_, its, _, e2, rfl, rfl, sz1000 (Nat.le_trans (of_decide_eq_true h5) (by decide)), strsB_ok h6⟩
  · cases ht
end DL

namespace DL
open PySem PySem.Spec PyProof.Rows L2 TL
/-! ### texts: slices, joined texts, lines -/
theorem cutL_nat_none {α : Type} {xs : List α} {n : Nat} : cutL xs (some (n : Int)) none = xs.drop n := by
  unfold cutL
  rw [HT.sIx_none, HT.sIx_nat]
  by_cases h : n ≤ xs.length
  · rw [Nat.min_eq_left h, List.take_of_length_le (by rw [List.length_drop]; omega)]
  · rw [Nat.min_eq_right (by omega), List.drop_of_length_le (Nat.le_refl _), List.drop_of_length_le (by omega), List.take_nil]
theorem cutL_none_neg1 {α : Type} {xs : List α} : cutL xs none (some (-1)) = xs.dropLast := by
  unfold cutL
  rw [HT.sIx_none, List.drop_zero, Nat.sub_zero, List.dropLast_eq_take]
  congr 1
  show (if (-1 : Int) < 0 then ((-1 : Int) + (xs.length : Int)).toNat else min (-1 : Int).toNat xs.length) = _
  rw [if_pos (by decide)]
  omega
theorem join_flat (p : List Nat) : ∀ ps : List (List Nat), joinL [32] (p :: ps) = p ++ (ps.map (32 :: ·)).flatten := by
  intro ps
  induction ps generalizing p with
  | nil => simp [joinL]
  | cons q r ih =>
    show p ++ ([32] ++ joinL [32] (q :: r)) = _
    rw [ih q]
    simp
theorem join_nil : ∀ ps : List (List Nat), joinL [] ps = ps.flatten := by
  intro ps
  induction ps with
  | nil => rfl
  | cons p r ih =>
    cases r with
    | nil => simp [joinL]
    | cons q r =>
      show p ++ ([] ++ joinL [] (q :: r)) = _
      rw [ih]
      simp
theorem join_snoc {S : List Nat} : ∀ {ps : List (List Nat)} {q : List Nat}, ps ≠ [] → joinL S (ps ++ [q]) = joinL S ps ++ (S ++ q)
  | [], _, h => absurd rfl h
  | [p], q, _ => rfl
  | p :: p2 :: r, q, _ => by
    show p ++ (S ++ joinL S ((p2 :: r) ++ [q])) = p ++ (S ++ joinL S (p2 :: r)) ++ (S ++ q)
    rw [join_snoc (by simp)]
    simp
theorem join_free {c : Nat} {S : List Nat} (hS : c ∉ S) : ∀ {ps : List (List Nat)}, (∀ w ∈ ps, c ∉ w) → c ∉ joinL S ps
  | [], _ => by simp [joinL]
  | [p], h => h p (List.mem_cons_self ..)
  | p :: q :: r, h => by
    show c ∉ p ++ (S ++ joinL S (q :: r))
    have i := join_free hS (ps := q :: r) fun w hw => h w (List.mem_cons_of_mem _ hw)
    have j := h p (List.mem_cons_self ..)
    simp [List.mem_append, hS, i, j]
def textOf (ls : List (List Nat)) : List Nat := (ls.map (· ++ [10])).flatten
theorem textOf_cons (l : List Nat) (ls : List (List Nat)) : textOf (l :: ls) = l ++ (10 :: textOf ls) := by
  unfold textOf
  rw [List.map_cons, List.flatten_cons]
  simp
theorem textOf_app (a b : List (List Nat)) : textOf (a ++ b) = textOf a ++ textOf b := by
  unfold textOf
  rw [List.map_append, List.flatten_append]
theorem spl_text : ∀ (ls : List (List Nat)) (r : List Nat), (∀ l ∈ ls, 10 ∉ l) → spl [10] 0 [] (textOf ls ++ r) = ls ++ spl [10] 0 [] r
  | [], r, _ => rfl
  | l :: ls, r, h => by
    rw [textOf_cons, List.append_assoc]
    have := spl_part1 (s := 10) (S := []) (acc := []) (rest := textOf ls ++ r) (h l (List.mem_cons_self ..))
    rw [show l ++ (10 :: textOf ls ++ r) = l ++ ([10] ++ (textOf ls ++ r)) by simp]
    rw [this, List.nil_append, spl_text ls r fun z hz => h z (List.mem_cons_of_mem _ hz)]
    rfl
theorem spl_text0 (ls : List (List Nat)) (h : ∀ l ∈ ls, 10 ∉ l) : spl [10] 0 [] (textOf ls) = ls ++ [[]] := by
  have := spl_text ls [] h
  rw [List.append_nil, spl_nil] at this
  exact this
theorem text_len {B : Nat} : ∀ ls : List (List Nat), (∀ l ∈ ls, l.length ≤ B) → (textOf ls).length ≤ (B + 1) * ls.length
  | [], _ => by simp [textOf]
  | l :: ls, h => by
    rw [textOf_cons, List.length_append, List.length_cons, List.length_cons, Nat.mul_succ]
    have := text_len ls fun z hz => h z (List.mem_cons_of_mem _ hz)
    have := h l (List.mem_cons_self ..)
    omega
theorem sum_lens (L : List (List Nat)) : (L.map (·.length)).sum = L.flatten.length := List.length_flatten.symm
theorem sum_len {B : Nat} : ∀ ps : List (List Nat), (∀ p ∈ ps, p.length ≤ B) → (ps.map (·.length)).sum ≤ B * ps.length
  | [], _ => by simp
  | p :: r, h => by
    rw [List.map_cons, List.sum_cons, List.length_cons, Nat.mul_succ]
    have := sum_len r fun q hq => h q (List.mem_cons_of_mem _ hq)
    have := h p (List.mem_cons_self ..)
    omega
theorem spl_bd (S : List Nat) : ∀ (l : List Nat) (k : Nat) (acc : List Nat), (∀ p ∈ spl S k acc l, p.length ≤ acc.length + l.length) ∧ (spl S k acc l).length ≤ l.length + 1
  | [], k, acc => by rw [spl_nil]; simp
  | c :: r, k + 1, acc => by
    obtain ⟨h1, h2⟩ := spl_bd S r k acc
    show (∀ p ∈ spl S k acc r, _) ∧ (spl S k acc r).length ≤ _
    refine ⟨fun p hp => ?_, ?_⟩
    · have := h1 p hp; rw [List.length_cons]; omega
    · rw [List.length_cons]; omega
  | c :: r, 0, acc => by
    cases h : pre S (c :: r) with
    | true =>
      rw [spl_hit h]
      obtain ⟨h1, h2⟩ := spl_bd S r (S.length - 1) []
      refine ⟨fun p hp => ?_, ?_⟩
      · rcases List.mem_cons.mp hp with rfl | hp
        · omega
        · have := h1 p hp; rw [List.length_cons]; simp at this; omega
      · rw [List.length_cons, List.length_cons]; omega
    | false =>
      rw [spl_miss h]
      obtain ⟨h1, h2⟩ := spl_bd S r 0 (acc ++ [c])
      refine ⟨fun p hp => ?_, ?_⟩
      · have := h1 p hp; rw [List.length_append] at this; simp at this ⊢; omega
      · rw [List.length_cons]; omega
/-- the first of the parts stands at the head -/
theorem spl_first {s : Nat} : ∀ (l acc : List Nat), (∃ w, spl [s] 0 acc l = [acc ++ w] ∧ l = w ∧ s ∉ w) ∨ ∃ w r, l = w ++ (s :: r) ∧ s ∉ w ∧ spl [s] 0 acc l = (acc ++ w) :: spl [s] 0 [] r
  | [], acc => .inl ⟨[], by rw [spl_nil, List.append_nil], rfl, by simp⟩
  | c :: r, acc => by
    by_cases h : c = s
    · subst h
      refine .inr ⟨[], r, rfl, by simp, ?_⟩
      rw [spl_hit (by unfold pre; simp), List.append_nil, show [c].length - 1 = 0 from rfl]
    · have hm : pre [s] (c :: r) = false := pre_of_head [] r h
      rw [spl_miss hm]
      rcases spl_first r (acc ++ [c]) with ⟨w, e, e2, e3⟩ | ⟨w, q, e, e2, e3⟩
      · exact .inl ⟨c :: w, by rw [e]; simp, by rw [e2], by simp [e3]; exact fun z => h z.symm⟩
      · exact .inr ⟨c :: w, q, by rw [e]; rfl, by simp [e2]; exact fun z => h z.symm, by rw [e3]; simp⟩
theorem spl_ne (S : List Nat) (l acc : List Nat) (k : Nat) : spl S k acc l ≠ [] := by
  induction l generalizing k acc with
  | nil => rw [spl_nil]; simp
  | cons c r ih =>
    cases k with
    | zero =>
      cases h : pre S (c :: r) with
      | true => rw [spl_hit h]; simp
      | false => rw [spl_miss h]; exact ih _ _
    | succ k => exact ih _ _
theorem starts_pre {a b : List Nat} (hb : b ≠ []) : Txt.startswith (mkS a) (mkS b) = decide (a.take b.length = b) := by
  have h := at_iff (x := mkS a) (y := mkS b) hb 0
  have e : PySem.StrLaws.At (mkS a) (mkS b) (mkS a).length 0 ↔ Txt.startswith (mkS a) (mkS b) = true := by
    unfold Txt.startswith
    rw [Bool.and_eq_true, decide_eq_true_iff]
    exact Iff.rfl
  rw [Bool.eq_iff_iff, ← e, h, decide_eq_true_iff]
  unfold pre
  rw [beq_iff_eq]
  exact Iff.rfl
theorem numI_nat (n : Nat) : numI (n : Int) = numL n := tl_num n
theorem numI_free {c : Nat} (h : c ≠ 45 ∧ (c < 48 ∨ 57 < c)) (i : Int) : c ∉ numI i := int_text_free' c h i
theorem numI_len {n k : Nat} (hk : 0 < k) (h : n < 10 ^ k) : (numI (n : Int)).length ≤ k := by rw [numI_nat]; exact numL_len hk h
theorem rng_mem {n : Nat} {x : D} (h : x ∈ rngD 0 n) : ∃ j : Nat, j < n ∧ x = .int (j : Int) := by
  obtain ⟨j, hj, rfl⟩ := List.mem_map.mp h
  rw [List.mem_range] at hj
  exact ⟨j, hj, by rw [Int.zero_add]⟩
theorem rng_map (n : Nat) (f : D → D) : (rngD 0 n).map f = (List.range n).map fun j => f (.int ((j : Nat) : Int)) := by
  unfold rngD
  rw [List.map_map]
  refine List.map_congr_left fun j _ => ?_
  show f (.int (0 + (j : Int))) = _
  rw [Int.zero_add]
/-! ### plain data -/
theorem pl_up : ∀ (n : Nat) (d : D), Pl n d → Pl (n + 1) d
  | _, .non, _ => True.intro
  | _, .bl _, _ => True.intro
  | _, .int _, _ => True.intro
  | _, .str _, _ => True.intro
  | 0, .tup _, h => h.elim
  | 0, .lst _, h => h.elim
  | n + 1, .tup ds, h => ⟨h.1, fun d hd => pl_up n d (h.2 d hd)⟩
  | n + 1, .lst ds, h => ⟨h.1, fun d hd => pl_up n d (h.2 d hd)⟩
  | n, .src _, h => by cases n <;> exact h.elim
  | n, .exc _ _ _ _ _, h => by cases n <;> exact h.elim
  | n, .ref _, h => by cases n <;> exact h.elim
  | n, .ty _, h => by cases n <;> exact h.elim
theorem pl_le {m n : Nat} {d : D} (h : Pl m d) (l : m ≤ n) : Pl n d := by
  induction l with
  | refl => exact h
  | step _ ih => exact pl_up _ _ ih
theorem same_of {M : Mu} {x y : D} {Q : DK} {E : DXK} (d : D) (hx : Vw M x d) (hy : Vw M y d) (hp : Pl 8 d) (h : Q (.bl true) M) : sp_law_same [x, y] M Q E := ⟨x, y, d, rfl, hx, hy, hp, h⟩
/-! ### more rules -/
section
variable {δ : DEnv} {M : Mu} {Q : DK} {D0 : DEnds} {c : DTT} {b : DTS} {mu : Bool} {x y : D} {as bs : List D} {a : Addr} {cs : List Nat}
theorem r_while (W : Nat → DEnv → Mu → Prop) (m : Nat) (h0 : W m δ M) (h : ∀ m δ M, W m δ M → c δ M fun k M1 => (k = true → b { nx := fun δ' M' => ∃ m', m' < m ∧ W m' δ' M', rt := D0.rt, ct := fun δ' M' => ∃ m', m' < m ∧ W m' δ' M', bk := D0.nx } δ M1) ∧ (k = false → D0.nx δ M1)) : dWhile c b D0 δ M := by
  refine ⟨W, ⟨m, h0⟩, fun m δ M hw => ?_⟩
  refine cast (congrArg (fun z => c δ M z) (funext fun k => funext fun M1 => ?_)) (h m δ M hw)
  cases k <;> simp
theorem r_addG (hx : dseq M x = some as) (hy : dseq M y = some bs) (hl : as.length + bs.length ≤ sizeLine) (q : dNew mu (as ++ bs) M Q) : dAdd mu x y M Q := by
  unfold dAdd
  cases x <;> first | cases hx; done | skip
  all_goals cases y <;> first | cases hy; done | skip
  all_goals simp only [hx, hy]; exact ⟨hl, q⟩
theorem dseq_sub {M' : Mu} (s : Sub M M') (h : dseq M x = some as) : dseq M' x = some as := by
  cases x with
  | ref a =>
    have h : (match M a with
      | some (.lst ds) => some ds
      | _ => none) = some as := h
    show (match M' a with
      | some (.lst ds) => some ds
      | _ => none) = some as
    cases e : M a with
    | none => rw [e] at h; cases h
    | some o =>
      rw [e] at h
      rw [s a o e]
      exact h
  | lst ds => exact h
  | _ => cases h
theorem r_inT {neg : Bool} (q : Q (.bl (if neg then !inD (.str cs) as else inD (.str cs) as)) M) (h : as.all flatD = true) : dInB neg (.str cs) (.tup as) M Q := by
  unfold dInB
  match cs with
  | [] => exact ⟨rfl, h, q⟩
  | [c] => exact ⟨rfl, h, q⟩
  | c :: d :: r => exact ⟨rfl, h, q⟩
theorem inD_strs (w : List Nat) (ks : List (List Nat)) : inD (.str w) (ks.map .str) = decide (w ∈ ks) := by
  unfold inD
  rw [List.any_map, Bool.eq_iff_iff, List.any_eq_true, decide_eq_true_iff]
  constructor
  · rintro ⟨k, hk, e⟩
    have : k = w := of_decide_eq_true e
    exact this ▸ hk
  · intro h
    exact ⟨w, h, decide_eq_true rfl⟩
theorem r_extend {d : D} (e : M a = some (.lst as)) (h : dseq M d = some bs) (hl : as.length + bs.length ≤ sizeLine) (q : Q .non (mset M a (.lst (as ++ bs)))) : dExtend (.ref a) [d] M Q := by
  unfold dExtend
  simp only [e, h]
  exact ⟨hl, q⟩
theorem r_lenQ {d : D} (e : dseq M d = some as) (q : Q (.int as.length) M) : dLen [d] M Q := r_lenG (by cases d <;> first | exact e | cases e) q
theorem r_idxQ {d z : D} {n : Int} (e : dseq M d = some as) (hk : atI as n = some z) (q : Q z M) : dIdx d (.int n) M Q := r_idxG (by cases d <;> first | exact e | cases e) hk q
theorem r_tupQ {d : D} (e : dseq M d = some as) (q : Q (.tup as) M) : dTupOf [d] M Q := by
  unfold dTupOf
  cases d with
  | tup _ => cases e
  | ref a => simp only [dlis, e]; exact q
  | lst _ => simp only [dlis, e]; exact q
  | _ => cases e
theorem r_kIQ {R : List D → (Mu → Prop) → Mu → Prop} (h : dseq M x = some as) (q : ∀ g : Mu → Prop, g M → R as g M) : kI R x M := by
  cases x with
  | lst ds =>
    cases h
    exact q _ trivial
  | ref a =>
    have h : (match M a with
      | some (.lst ds) => some ds
      | _ => none) = some as := h
    cases e : M a with
    | none => rw [e] at h; cases h
    | some o =>
      rw [e] at h
      cases o with
      | lst ds =>
        cases h
        exact r_kIr e (q _ e)
      | dic _ => cases h
  | _ => cases h
theorem atI_str {L : List (List Nat)} {j : Nat} (h : j < L.length) : atI (L.map D.str) (j : Int) = some (.str (L[j]'h)) := atI_nat (by rw [List.getElem?_map, List.getElem?_eq_getElem h]; rfl)
theorem atI_last {α : Type} {xs : List α} {x : α} (h : xs.getLast? = some x) : atI xs (-1) = some x := by
  have hl : 0 < xs.length := by
    cases xs with
    | nil => cases h
    | cons _ _ => simp
  have e : ixN xs.length (-1) = some (xs.length - 1) := by
    unfold ixN
    rw [if_neg (by decide), if_pos (by omega)]
    congr 1
    omega
  unfold atI
  rw [e, Option.bind_some, ← List.getLast?_eq_getElem?]
  exact h
end
end DL

namespace DL
open PySem PySem.Spec PyProof.Rows L2 TL
/-! ### a - b of two bools -/
def b2I (p : Bool) : Int := if p = true then 1 else 0
def dSubB : DR2
  | .bl p, .bl q, M, Q => Q (.int (b2I p - b2I q)) M
  | _, _, _, _ => False
def rSubB : R2 := fun x y H Q => ∃ p q, x = .bl p ∧ y = .bl q ∧ Q (.int (b2I p - b2I q)) H
theorem op_subB {X : Cx} : OpR X (binaryOp .Sub) rSubB := by
  intro pins s σ H x y v u Q I rx ry h
  obtain ⟨p, q, rfl, rfl, h⟩ := h
  obtain rfl : v = Value.bool p := rx
  obtain rfl : u = Value.bool q := ry
  exact PyProof.Rows.sub_bool ⟨.int (b2I p - b2I q), H, I.tok _, ⟨_, rfl⟩, h⟩
theorem rel_subB [Ghost] {K : PySem.W.Frag} : Rel2 K rSubB dSubB := by
  intro x y vx vy H F M Qd Q rx ry s q po
  cases x <;> first | exact False.elim q | skip
  cases y <;> first | exact False.elim q | skip
  unfold Rp at rx ry
  subst rx ry
  exact ⟨_, _, rfl, rfl, po _ _ _ _ _ q Go.refl s (by unfold Rp; rfl)⟩
theorem de_subB [Ghost] {X : Cx} {a b : Expr} {ua ub : DTE} {pos : Pos} (ha : DE X a ua) (hb : DE X b ub) : DE X (.BinOp a .Sub b pos) (dOp dSubB ua ub) := de_op op_subB rel_subB ha hb
theorem r_subB {p q : Bool} {M : Mu} {Q : DK} (h : Q (.int (b2I p - b2I q)) M) : dSubB (.bl p) (.bl q) M Q := h
/-! ### range(i, j, -1) -/
def rngDn (hi : Int) (n : Nat) : List D := (List.range n).map fun k => .int (hi + (k : Nat) * (-1))
def kR3 (R : List D → (Mu → Prop) → Mu → Prop) : List D → Mu → Prop := fun ds M1 => match ds with
  | [.int i, .int j, .int (-1)] => (-(2 ^ 62) ≤ i ∧ i < 2 ^ 62 ∧ -(2 ^ 62) ≤ j ∧ j < 2 ^ 62) ∧ R (rngDn i (i - j).toNat) (fun _ => True) M1
  | _ => False
def diR3 (ua : DTA) : DTI := fun δ M R => ua δ M (kR3 R)
theorem rngDn_len (lo : Int) (n : Nat) : (rngDn lo n).length = n := by unfold rngDn; rw [List.length_map, List.length_range]
theorem rngDn_at {lo : Int} {n i : Nat} (h : i < n) : (rngDn lo n)[i]? = some (.int (lo + (i : Nat) * (-1))) := by
  unfold rngDn
  rw [List.getElem?_map, List.getElem?_range h]
  rfl
theorem di_r3 [Ghost] {X : Cx} {tg a b c : Expr} {ua : DTA} {p pos : Pos} (hg : Gl X "range") (hm : X.mg "range" = none) (ha : DA X [a, b, c] ua)
    (hs : starEach [a, b, c] X.env = (false, eval a X.env) :: starEach [b, c] X.env := by rfl) (hpl : (backTo pos (starEach [b, c] X.env)).any (·.1) = false := by rfl) :
    DI X tg (.Call (.Name "range" p) [a, b, c] [] pos) (diR3 ua) := PI.weak (pi_range3 hg hm ha hs hpl) fun σ H R h => by
  obtain ⟨δ, M, F, Rd, hE, s, hu, po⟩ := h
  refine ⟨δ, M, F, _, hE, s, hu, fun ds M1 F1 vs H1 q g s1 r => ?_⟩
  unfold kR3 at q
  split at q
  · next i j =>
    obtain ⟨⟨b1, b2, b3, b4⟩, q⟩ := q
    unfold RpL at r
    obtain ⟨x1, r1, rfl, h1, r⟩ := r
    unfold RpL at r
    obtain ⟨x2, r2, rfl, h2, r⟩ := r
    unfold RpL at r
    obtain ⟨x3, r3, rfl, h3, r⟩ := r
    unfold RpL at r
    subst r
    unfold Rp at h1 h2 h3
    subst h1 h2 h3
    refine ⟨i, j, -1, (i - j).toNat, rfl, RgC.neg b1 b2 b3 b4, ?_⟩
    refine po (rngDn i (i - j).toNat) _ M1 F1 H1 (Itc i (-1) (i - j).toNat) (fun _ => True) (YFn fun k => .int (i + (k : Nat) * (-1))) q g s1 (by rw [rngDn_len]; exact walk_rangeC) (fun _ _ _ _ _ _ => trivial) fun k H2 F2 M2 x H3 hi g2 s2 _ y => ?_
    rw [rngDn_len] at hi
    obtain ⟨e1, e2⟩ := y
    subst e1 e2
    exact ⟨F2, s2, Go.refl, _, rngDn_at hi, by unfold Rp; rfl⟩
  · exact q.elim
theorem r_r3 {δ : DEnv} {M : Mu} {us : DTA} {R : List D → (Mu → Prop) → Mu → Prop} (h : us δ M (kR3 R)) : diR3 us δ M R := h
theorem r_kR3 {n m : Int} {M : Mu} {R : List D → (Mu → Prop) → Mu → Prop} (h0 : -(2 ^ 62) ≤ n ∧ n < 2 ^ 62 ∧ -(2 ^ 62) ≤ m ∧ m < 2 ^ 62) (h : R (rngDn n (n - m).toNat) (fun _ => True) M) : kR3 R [.int n, .int m, .int (-1)] M := ⟨h0, h⟩
/-! ### reversed(x), x a tuple -/
def kRv (R : List D → (Mu → Prop) → Mu → Prop) : DK := fun d M1 => match d with
  | .tup ds => R ds.reverse (fun _ => True) M1
  | _ => False
def diRev (ue : DTE) : DTI := fun δ M R => ue δ M (kRv R)
theorem walk_revT {K : PySem.W.Frag} {a : Addr} {xs : List V} : Walk (RT.ItvT K a xs.length) xs.length (fun H => SqT K H a xs) (fun i H x H' => H' = H ∧ xs[xs.length - 1 - i]? = some x) :=
  ⟨fun i _ hi q => ⟨hi, xs, xs[xs.length - 1 - i]'(by omega), q, by simp [show xs.length - 1 - i < xs.length by omega]⟩, fun _ _ => Nat.le_refl _, fun _ _ _ _ _ q y => ⟨y.1, y.2 xs q⟩⟩
theorem di_rev [Ghost] {X : Cx} {tg e : Expr} {ue : DTE} {p pos : Pos} (hg : Gl X "reversed") (hm : X.mg "reversed" = none) (he : DE X e ue) (hs : starEach [e] X.env = (false, eval e X.env) :: starEach [] X.env := by rfl) : DI X tg (.Call (.Name "reversed" p) [e] [] pos) (diRev ue) := PI.weak (RT.pi_revA hg hm he hs) fun σ H R h => by
  obtain ⟨δ, M, F, Rd, hE, s, hu, po⟩ := h
  refine ⟨δ, M, F, _, hE, s, hu, fun d M1 F1 v H1 q g s1 r => ?_⟩
  unfold kRv at q
  cases d with
  | tup ds =>
    unfold Rp at r
    obtain ⟨a, xs, rfl, h1, r1⟩ := r
    refine ⟨a, xs, rfl, .inr ⟨s1.fh.sqT h1, ?_⟩⟩
    refine po ds.reverse _ M1 F1 H1 (RT.ItvT X.K a xs.length) (fun H => SqT X.K H a xs) (fun i H x H' => H' = H ∧ xs[xs.length - 1 - i]? = some x) q g s1 (by rw [List.length_reverse, r1.len]; exact walk_revT) (fun H2 F2 M2 g2 s2 _ => s2.fh.sqT (g2.le.sqT h1)) fun i H2 F2 M2 x H3 hi g2 s2 _ y => ?_
    obtain ⟨e1, e2⟩ := y
    subst e1
    rw [List.length_reverse, r1.len] at hi
    obtain ⟨d, e3, r3⟩ := (r1.mono g2.le).getV e2
    refine ⟨F2, s2, Go.refl, d, ?_, r3⟩
    rw [List.getElem?_reverse (by rw [r1.len]; exact hi), r1.len]
    exact e3
  | _ => exact False.elim q
theorem r_rev {δ : DEnv} {M : Mu} {ue : DTE} {R : List D → (Mu → Prop) → Mu → Prop} (h : ue δ M (kRv R)) : diRev ue δ M R := h
theorem r_kRv {es : List D} {M : Mu} {R : List D → (Mu → Prop) → Mu → Prop} (h : R es.reverse (fun _ => True) M) : kRv R (.tup es) M := h
/-! ### sizes -/
def Bt (k : Nat) (i : Int) : Prop := i.natAbs < 2 ^ k
theorem bt_mul {a b : Nat} {i j : Int} (h1 : Bt a i) (h2 : Bt b j) : Bt (a + b) (i * j) := by
  unfold Bt at *
  rw [Int.natAbs_mul, Nat.pow_add]
  exact Nat.mul_lt_mul'' h1 h2
theorem bt_up {a b : Nat} {i : Int} (h : Bt a i) (l : a ≤ b) : Bt b i := Nat.lt_of_lt_of_le h (Nat.pow_le_pow_right (by decide) l)
theorem bt_add {a b : Nat} {i j : Int} (h1 : Bt a i) (h2 : Bt b j) : Bt (a + b + 1) (i + j) := by
  have h3 := bt_up h1 (Nat.le_add_right a b)
  have h4 := bt_up h2 (Nat.le_add_left b a)
  unfold Bt at *
  rw [Nat.pow_succ]
  omega
theorem bt_neg {a : Nat} {i : Int} (h : Bt a i) : Bt a (-i) := by unfold Bt at *; rw [Int.natAbs_neg]; exact h
theorem bt_sub {a b : Nat} {i j : Int} (h1 : Bt a i) (h2 : Bt b j) : Bt (a + b + 1) (i - j) := by rw [Int.sub_eq_add_neg]; exact bt_add h1 (bt_neg h2)
theorem bt_abs {a : Nat} {i : Int} (h : Bt a i) : Bt a (i.natAbs : Int) := by unfold Bt at *; exact h
theorem bt_lit {i : Int} (k : Nat) (h : i.natAbs < 2 ^ k) : Bt k i := h
theorem bt_fdiv {a : Nat} {i j : Int} (h : Bt a i) : Bt a (i.fdiv j) := Nat.lt_of_le_of_lt (PySem.natAbs_fdiv_le i j) h
theorem cm_ok {a b : Nat} {i j : Int} (h1 : Bt a i) (h2 : Bt b j) (h : a + b ≤ 134217728) : CMulX i j := mulx_ok h1 h2 h
theorem cd_ok {a : Nat} {j : Int} (h0 : j ≠ 0) (h : Bt a j) (hk : a ≤ 8999) : CDivX j := ⟨h0, Nat.lt_of_lt_of_le (PySem.Flt.log2_lt_of (k := a + 1) (by omega) (bt_up h (Nat.le_succ a))) (by omega)⟩
end DL

/-! DLX: exceptions over the data layer. -/
namespace DL
open PySem PySem.Spec PyProof.Rows L2 TL

/-! ### what is wished of an exception -/
abbrev DWX := DX → DEnv → Mu → Prop
def liftW [Ghost] (K : PySem.W.Frag) (W : DWX) : WX := fun cls d σ H => ∃ x δ M F, cls = .ref (clA K x.cls) ∧ Sv K H F M ∧ ERel K F δ σ ∧ RpX K F x d ∧ W x δ M

/-! ### making one -/
/-- what __init__ does: the fields are put, the last one ahead -/
def spInit (K : PySem.W.Frag) (ns : List Str) : Sp := fun vs H Q _ => ∃ (a C : Addr) (ys : List V), vs = .ref a :: ys ∧ ys.length = ns.length ∧ OexC K C ∧ (∀ n ∈ ns, PySem.W.findIn K (.ref C) n = some none) ∧ H a = some (exo a C none) ∧
  ∀ dx, H dx = none → dx ≠ a → Q .non (upd (upd H dx (exd dx (ns.zip ys).reverse)) a (exo a C (some dx)))
/-- a class of exceptions: its own __init__ stores its arguments under these names -/
structure XC (P : Program) (w : World) (K : PySem.W.Frag) (mg : Str → Option Value) (base : Heap) (k : Nat) (c : Str) (ns : List Str) : Prop where
  oex : OexC K (clA K c)
  noat : ∀ n ∈ ns, PySem.W.findIn K (.ref (clA K c)) n = some none
  mgc : mg c = some (.ref (clA K c))
  short : ns.length ≤ 100
  init : ∃ fI fd, PySem.W.findIn K (.ref (clA K c)) "__init__" = some (some (.ref fI)) ∧ PySem.W.typeIn K (.ref fI) = some (.type "function") ∧ FnOk P w K mg base CX0 k fI fd ("self" :: ns) (spInit K ns) ∧ Binds K fd ("self" :: ns) []
def dRaise (c : Str) (ns : List Str) (W : DWX) (ua : DTA) : DTS := fun _ δ M => ua δ M fun ds M1 => ds.length = ns.length ∧ W ⟨c, ns.reverse, ds.reverse⟩ δ M1
theorem heap_made {H : Hp} {a dx C : Addr} {fs : List (Str × V)} (ha : H a = none) (hne : dx ≠ a) : upd (del (upd (upd (upd H a (exo a C none)) dx (exd dx fs)) a (exo a C (some dx))) a) dx (.xd fs) = upd H dx (.xd fs) := by
  funext b
  by_cases h1 : b = dx
  · subst h1; rw [upd_same, upd_same]
  · rw [upd_ne h1, upd_ne h1]
    by_cases h2 : b = a
    · subst h2; rw [del_same, ha]
    · rw [del_ne h2, upd_ne h2, upd_ne h1, upd_ne h2]
theorem zip_app {α β : Type} : ∀ {a a' : List α} {b b' : List β}, a.length = b.length → (a ++ a').zip (b ++ b') = a.zip b ++ a'.zip b'
  | [], _, [], _, _ => rfl
  | x :: a, _, y :: b, _, h => by
    have h' : a.length = b.length := by simpa using h
    rw [List.cons_append, List.cons_append, List.zip_cons_cons, List.zip_cons_cons, zip_app h', List.cons_append]
theorem zip_rev {α β : Type} : ∀ {a : List α} {b : List β}, a.length = b.length → (a.zip b).reverse = a.reverse.zip b.reverse
  | [], [], _ => rfl
  | x :: a, y :: b, h => by
    have h' : a.length = b.length := by simpa using h
    rw [List.zip_cons_cons, List.reverse_cons, List.reverse_cons, List.reverse_cons, zip_rev h', zip_app (by rw [List.length_reverse, List.length_reverse]; exact h')]
    rfl
theorem ds_raise [Ghost] {X : Cx} {W : DWX} {c : Str} {ns : List Str} {k : Nat} {e : Expr} {es : List Expr} {ua : DTA} {p pos pos2 : Pos} (C : XC X.prog X.w X.K X.mg X.base k c ns) (hc : X.calm = true) (tk : Takes X (liftW X.K W)) (hr : Room (k + 1) X.A)
    (ha : DA X (e :: es) ua) (hg : Gl X c := by rfl) (hdb : (c == ("__debug__" : Str)) = false := by decide) (he : starEach (e :: es) X.env = (false, eval e X.env) :: starEach es X.env := by rfl) (hpl : (backTo pos (starEach es X.env)).any (·.1) = false := by rfl) :
    DS X (.Raise (some (.Call (.Name c p) (e :: es) [] pos)) none pos2) (dRaise c ns W ua) := by
  obtain ⟨fI, fd, iC, tI, F1, hb⟩ := C.init
  refine PS.weak (ps_raise hc tk (pmk_oex C.oex iC tI F1 hr hb .nil (fun _ _ _ _ _ _ _ z => z.elim) hg C.mgc ha hdb he hpl)) fun D σ H h => ?_
  obtain ⟨δ, M, F, Dd, hE, s, hu, po⟩ := h
  refine ⟨δ, M, F, _, hE, s, hu, fun ds M1 F1 vs H1 q g s1 r => ?_⟩
  obtain ⟨hl, q⟩ := q
  have hv : vs.length = ns.length := by rw [← r.len]; exact hl
  refine ⟨by have := C.short; omega, fun a ha => ⟨a, clA X.K c, vs ++ [], rfl, by rw [List.append_nil]; exact hv, C.oex, C.noat, upd_same, fun dx hdx hne => ⟨rfl, dx, (ns.zip (vs ++ [])).reverse, upd_same, ?_, ?_, ?_⟩⟩⟩
  · rw [upd_ne hne, upd_same]
  · rw [upd_ne hne] at hdx
    exact hdx
  · rw [upd_ne hne] at hdx
    rw [heap_made ha hne, List.append_nil]
    obtain ⟨s2, g2⟩ := s1.newF (o := .xd (ns.zip vs).reverse) hdx
    refine ⟨⟨c, ns.reverse, ds.reverse⟩, δ, M1, _, rfl, s2, hE.mono (g.le.trans g2.le), ⟨dx, vs.reverse, rfl, ?_, ?_, ?_⟩, q⟩
    · rw [upd_same, zip_rev hv.symm]
    · rw [List.length_reverse, List.length_reverse, hv]
    · exact (r.mono g2.le).rev

/-! ### defs that raise -/
/-- the def x may be called with this promise; what it raises is told -/
def CalX (P : Program) (w : World) (K : PySem.W.Frag) (mg : Str → Option Value) (base : Heap) (k : Nat) (x : Str) (ps : List Str) (sp : DSp) : Prop :=
  ∃ f fd, FnOk P w K mg base (L2.CX P w) k f fd ps (liftSp K sp) ∧ mg x = some (.ref f) ∧ PySem.W.keepIn K (.ref f) = true ∧ Binds K fd ps []
theorem CalX.mono {P : Program} {w : World} {K : PySem.W.Frag} {mg : Str → Option Value} {base : Heap} {j k : Nat} {x : Str} {ps : List Str} {sp : DSp} (c : CalX P w K mg base j x ps sp) (h : j ≤ k) : CalX P w K mg base k x ps sp := by
  obtain ⟨f, fd, F, m, kp, b⟩ := c
  exact ⟨f, fd, F.mono h, m, kp, b⟩
def dCallX (sp : DSp) (W : DWX) (ua : DTA) : DTE := fun δ M Q => ua δ M fun ds M1 => sp ds M1 Q fun x M2 => W x δ M2
theorem de_calX [Ghost] {X : Cx} {W : DWX} {k : Nat} {x : Str} {ps : List Str} {sp : DSp} {e : Expr} {es : List Expr} {ua : DTA} {p pos : Pos} (C : CalX X.prog X.w X.K X.mg X.base k x ps sp) (hr : Room k X.A) (tk : Takes X (liftW X.K W)) (ha : DA X (e :: es) ua) (hg : Gl X x := by rfl)
    (hdb : (x == ("__debug__" : Str)) = false := by decide) (he : starEach (e :: es) X.env = (false, eval e X.env) :: starEach es X.env := by rfl) (hpl : (backTo pos (starEach es X.env)).any (·.1) = false := by rfl) : DE X (.Call (.Name x p) (e :: es) [] pos) (dCallX sp W ua) := by
  obtain ⟨f, fd, F, m, kp, b⟩ := C
  refine PE.weak (pe_callS F hr hg m kp b (fun σ => passAt tk σ) ha hdb he hpl) fun σ H Q h => ?_
  obtain ⟨δ, M, F, Qd, hE, s, hu, po⟩ := h
  refine ⟨δ, M, F, _, hE, s, hu, fun ds M1 F1 vs H1 q g s1 r => ?_⟩
  exact ⟨_, M1, F1, Qd, _, r, s1.re gh0 trivial, q, (po.go g).re s1, fun x M' F' d H' q' g' s' r' => ⟨x, δ, M', F', rfl, (svgo s1 (@Sv.toSv0 gh0 _ _ _ _ s') g').1, hE.mono (g.le.trans g'.le), r', q'⟩⟩
/-- the way from here is remembered, too -/
abbrev ghGo (G : Ghost) (H F : Hp) (M : Mu) : Ghost := ⟨fun H' F' M' => G.Z H' F' M' ∧ Go H F M H' F' M', fun z g => ⟨G.go z.1 g, z.2.trans g⟩⟩
/-- THE RULE: a def that may raise, by its body's reading t, W what is wished of what it raises -/
theorem dfnX {P : Program} {w : World} {K : PySem.W.Frag} {mg : Str → Option Value} {base : Heap} {x qual : Str} {params : Arguments} {body : List Stmt} {scope : Scope} {dvs : List V} {kws : List (Str × V)} {f : Addr} {fd : FuncData} {N ps : List Str} {k : Nat} {sp : DSp} {t : DWX → DTS}
    (Fd : FunD K x qual params body scope dvs kws f fd) (S : FnScope N ps scope) (len : ∀ ds M Q E, sp ds M Q E → ds.length = ps.length)
    (hb : ∀ (G : Ghost) (W : DWX) (cdv : Value) (A : Around) (outer : List Env) (s : Shared) (H : Hp) (E : XK), Room k (A.deeper (envOfC qual scope s.heap.objs.size f cdv)) → Takes (cxOf (L2.CX P w) P w K mg base N qual scope f cdv A outer s H E) (@liftW G K W) →
      @DSs G (cxOf (L2.CX P w) P w K mg base N qual scope f cdv A outer s H E) body (t W))
    (hs : ∀ ds M Q E, sp ds M Q E → t (fun x _ M' => E x M') (dEnd Q) (dstart N.length ds) M) : FnOk P w K mg base (L2.CX P w) (k + 1) f fd ps (liftSp K sp) := by
  refine Fd.ok S (fun vs H Q E h => ?_) (fun cdv A outer s H vs Q E hr h => ?_)
  · obtain ⟨ds, M, F, Qd, Ed, r, _, h, _⟩ := h
    rw [← r.len]
    exact len _ _ _ _ h
  · obtain ⟨ds, M, F, Qd, Ed, r, sv, h, po, px⟩ := h
    let G : Ghost := ghGo gh0 H F M
    have sv' : @Sv G K H F M := @Sv.re gh0 G K H F M sv ⟨trivial, Go.refl⟩
    have po' : @Post G K H F M Qd Q := @Post.re gh0 G _ _ _ _ _ _ sv po
    have pe : PostS K H F M (dEnd Qd) { nx := fun _ H' => Q .non H', rt := Q } := ⟨fun δ' M' F' σ' H' q g s' e => po'.wq _ _ _ _ _ q g s' (by unfold Rp; rfl), po'.wq, fun _ _ _ _ _ q => q.elim, fun _ _ _ _ _ q => q.elim⟩
    refine ⟨@liftS G K (t fun x _ M' => Ed x M'), hb G (fun x _ M' => Ed x M') cdv A outer s H E hr ?_, dstart N.length ds, M, F, dEnd Qd, ERel.start r, sv', hs ds M Qd Ed h, pe⟩
    refine Takes.imp (takes_of rfl rfl rfl rfl) fun cls d σ H' z => ?_
    obtain ⟨x, δ, M', F', e, s', _, rx, q⟩ := z
    subst e
    exact px x M' F' d H' q s'.gh.2 (@Sv.re G gh0 K H' F' M' s' trivial) rx
theorem calX_of {P : Program} {w : World} {K : PySem.W.Frag} {mg : Str → Option Value} {base : Heap} {x : Str} {st : Stmt} {N ps : List Str} {k : Nat} {sp : DSp} {t : DWX → DTS} (d : DefAt K mg x st) (S : FnScope N ps (defScope st))
    (len : ∀ ds M Q E, sp ds M Q E → ds.length = ps.length)
    (hbind : ∀ (kV doc pm : Value) (an : Option Addr) (cdv ct : Value) (us : List Value), us.length = ps.length → bindArgs (PySem.W.fnOf x x (defArgs st) (defBody st) (defScope st) .none kV doc pm an cdv ct) ⟨us, []⟩ = pure (ps.zip us))
    (hb : ∀ (f : Addr) (G : Ghost) (W : DWX) (cdv : Value) (A : Around) (outer : List Env) (s : Shared) (H : Hp) (E : XK), Room k (A.deeper (envOfC x (defScope st) s.heap.objs.size f cdv)) → Takes (cxOf (L2.CX P w) P w K mg base N x (defScope st) f cdv A outer s H E) (@liftW G K W) →
      @DSs G (cxOf (L2.CX P w) P w K mg base N x (defScope st) f cdv A outer s H E) (defBody st) (t W))
    (hs : ∀ ds M Q E, sp ds M Q E → t (fun x _ M' => E x M') (dEnd Q) (dstart N.length ds) M) : CalX P w K mg base (k + 1) x ps sp := by
  obtain ⟨f, fd, F, m⟩ := d
  exact ⟨f, fd, dfnX F S len (hb f) hs, m, F.kp, F.bindsN hbind⟩

/-! ### try: .. except C as e: .. -/
abbrev DSuite := Addr → Addr → Str → DTS
def endsNo (i : Nat) (D : DEnds) : DEnds := { nx := fun δ M => D.nx (δ.set i none) M, rt := D.rt, bk := fun δ M => D.bk (δ.set i none) M, ct := fun δ M => D.ct (δ.set i none) M }
/-- what the clause wishes: isx tells of a class's name if the clause takes it (none: no such class may come) -/
def dwTry (i : Nat) (isx : Str → Option Bool) (Wout : DWX) (us : DSuite) (D : DEnds) : DWX := fun x δ M => match isx x.cls with
  | some true => ∀ a d, us a d x.cls (endsNo i D) (δ.set i (some (.exc a d x.cls x.ns x.ds))) M
  | some false => Wout x δ M
  | none => False
def dTry (i : Nat) (isx : Str → Option Bool) (Wout : DWX) (ub : DWX → DTS) (us : DSuite) : DTS := fun D δ M => ub (dwTry i isx Wout us D) D δ M
theorem PostS.re {G G' : Ghost} {K : PySem.W.Frag} {H F : Hp} {M : Mu} {Dd : DEnds} {Dv : Ends} (i : ∀ H' F' M', @Sv G' K H' F' M' → @Sv G K H' F' M') (po : @PostS G K H F M Dd Dv) : @PostS G' K H F M Dd Dv :=
  @PostS.mk G' K H F M Dd Dv (fun δ M' F' σ H' q g s e => @PostS.nx G K H F M Dd Dv po δ M' F' σ H' q g (i _ _ _ s) e) (fun d M' F' v H' q g s e => @PostS.rt G K H F M Dd Dv po d M' F' v H' q g (i _ _ _ s) e)
    (fun δ M' F' σ H' q g s e => @PostS.bk G K H F M Dd Dv po δ M' F' σ H' q g (i _ _ _ s) e) (fun δ M' F' σ H' q g s e => @PostS.ct G K H F M Dd Dv po δ M' F' σ H' q g (i _ _ _ s) e)
theorem ds_try [G0 : Ghost] {X : Cx} {x n : Str} {c : Str} {i : Nat} {isx : Str → Option Bool} {body suite : List Stmt} {b₀ : Stmt} {np pos pos' : Pos} {ub : DWX → DTS} {us : DSuite} {Wout : DWX} (hs : X.stack = X.env :: X.outer) (hf : X.env.frame = some X.env.locals)
    (hN : X.N.Nodup) (hi : X.N[i]? = some n) (hln : X.env.kindOf n = some .local) (hc : Names X x (.ref (clA X.K c))) (tk : Takes X (liftW X.K Wout))
    (hx : ∀ cn b, isx cn = some b → PySem.W.exmOne X.K (.ref (clA X.K cn)) (.ref (clA X.K c)) = some b)
    (hb : ∀ (G : Ghost) (W : DWX) (pn : List (Addr × Obj)) (xe : Value → Shared → Prop), Takes (X.tr pn xe) (@liftW G X.K W) → PassesOwn (model X.prog X.w) X.A X.env xe → @DSs G (X.tr pn xe) body (ub W))
    (hsu : ∀ (a : Addr) (oe : Obj) (cn : Str) (d : Addr) (pn : List (Addr × Obj)), isx cn = some true → Zc (.ref (clA X.K cn)) (some d) oe → (∃ vs, oe.data = .fields vs) → DSs (X.suite a ((a, oe) :: pn)) (b₀ :: suite) (us a d cn)) :
    DS X (.Try body [.ExceptHandler (some (.Name x np)) (some n) (b₀ :: suite) pos'] [] [] pos) (dTry i isx Wout ub us) := by
  refine PS.weak (ps_try_as (tb := fun W Dv σ H => ∃ (G : Ghost) (WD : DWX), (∀ cls d σ H, @liftW G X.K WD cls d σ H → W cls d σ H) ∧ @liftS G X.K (ub WD) Dv σ H)
    (ts := fun a cls d Dv σ H => ∃ cn dd, isx cn = some true ∧ cls = .ref (clA X.K cn) ∧ d = some dd ∧ liftS X.K (us a dd cn) Dv σ H) (Wout := liftW X.K Wout) hs hf hN hi hln hc tk ?_ ?_) fun Dv σ H h => ?_
  · intro W pn xe tkW pa
    refine ⟨fun pins s σ H D I h => ?_⟩
    obtain ⟨G, WD, hW, h⟩ := h
    exact (hb G WD pn xe (tkW.imp hW) pa).run pins s σ H D I h
  · intro a oe cls d pn hz hv
    refine ⟨fun pins s σ H D I h => ?_⟩
    obtain ⟨cn, dd, e0, e1, e2, h⟩ := h
    subst e1 e2
    exact (hsu a oe cn dd pn e0 hz hv).run pins s σ H D I h
  · obtain ⟨δ, M, F, Dd, hE, s, hu, po⟩ := h
    suffices hw : ∀ cls d σ H', @liftW (ghGo G0 H F M) X.K (dwTry i isx Wout us Dd) cls d σ H' → wAs X.K (.ref (clA X.K c)) i (fun a cls d Dv σ H => ∃ cn dd, isx cn = some true ∧ cls = .ref (clA X.K cn) ∧ d = some dd ∧ liftS X.K (us a dd cn) Dv σ H) (liftW X.K Wout) Dv cls d σ H' from
      ⟨ghGo G0 H F M, dwTry i isx Wout us Dd, hw, δ, M, F, Dd, hE, @Sv.re G0 (ghGo G0 H F M) _ _ _ _ s ⟨s.gh, Go.refl⟩, hu, @PostS.re G0 (ghGo G0 H F M) _ _ _ _ _ _ (fun H' F' M' s' => @Sv.re (ghGo G0 H F M) G0 _ _ _ _ s' (@Sv.gh (ghGo G0 H F M) _ _ _ _ s').1) po⟩
    intro cls d σ' H' z
    obtain ⟨x', δ', M', F', e, s', hE', r, q⟩ := z
    subst e
    have sG := @Sv.re (ghGo G0 H F M) G0 _ _ _ _ s' (@Sv.gh (ghGo G0 H F M) _ _ _ _ s').1
    have g := (@Sv.gh (ghGo G0 H F M) _ _ _ _ s').2
    have q' : (match isx x'.cls with
      | some true => ∀ a d, us a d x'.cls (endsNo i Dd) (δ'.set i (some (.exc a d x'.cls x'.ns x'.ds))) M'
      | some false => Wout x' δ' M'
      | none => False) := q
    cases e : isx x'.cls with
    | none => rw [e] at q'; exact q'.elim
    | some b =>
      rw [e] at q'
      refine ⟨b, hx _ _ e, fun hb a _ => ?_, fun hb => ?_⟩
      · subst hb
        obtain ⟨dd, vs, e2, hF, hl, hR⟩ := r
        subst e2
        have p2 := po.go g
        refine ⟨x'.cls, dd, e, rfl, rfl, _, M', F', endsNo i Dd, hE'.set (d := .exc a dd x'.cls x'.ns x'.ds) (v := .ref a) ?_, sG, q' a dd, ⟨fun δ2 M2 F2 σ2 H2 q2 g2 s2 e2 => p2.nx _ _ _ _ _ q2 g2 s2 e2.setN, p2.rt, fun δ2 M2 F2 σ2 H2 q2 g2 s2 e2 => p2.bk _ _ _ _ _ q2 g2 s2 e2.setN, fun δ2 M2 F2 σ2 H2 q2 g2 s2 e2 => p2.ct _ _ _ _ _ q2 g2 s2 e2.setN⟩⟩
        unfold Rp
        exact ⟨rfl, vs, hF, hl, hR⟩
      · subst hb
        exact ⟨x', δ', M', F', rfl, sG, hE', r, q'⟩
end DL

/-! DLX2: a held exception is asked. -/
namespace DL
open PySem PySem.Spec PyProof.Rows L2 TL
/-- the context bears the exception at a, its dict at d, of the class cn -/
def HotE (X : Cx) (a d : Addr) (cn : Str) : Prop := ∃ oe, (a, oe) ∈ X.pn ∧ Zc (.ref (clA X.K cn)) (some d) oe ∧ ∃ vs, oe.data = .fields vs
theorem hotE_suite {X : Cx} {a d : Addr} {cn : Str} {oe : Obj} {pn : List (Addr × Obj)} (hz : Zc (.ref (clA X.K cn)) (some d) oe) (hv : ∃ vs, oe.data = .fields vs) : HotE (X.suite a ((a, oe) :: pn)) a d cn := ⟨oe, List.mem_cons_self, hz, hv⟩
theorem HotE.at {X : Cx} {a d : Addr} {cn : Str} {pins : List (Addr × Obj)} {σ : L2.St} {H : Hp} {s : Shared} {fs : List (Str × V)} (h : HotE X a d cn) (I : Inv X pins σ H s) (hd : H d = some (.xd fs)) :
    ∃ (oe od : Obj) (mA : Str → Option Value), PySem.W.InstAt s.heap a oe (clA X.K cn) (some od) ∧ (∀ n, PySem.W.lookIn n od = some (mA n)) ∧ ∀ f, RelO (fs.lookup f) (mA f) := by
  obtain ⟨oe, hp, hz, vs, hv⟩ := h
  have P := (I.pin (a, oe) (List.mem_append_left _ hp)).1
  have O : ObjOk X.prog X.w H s.heap d (.xd fs) := I.hok d _ hd
  obtain ⟨mA, hns, hr⟩ := O
  obtain ⟨od, ho, hl⟩ := lookIn_ns hns
  refine ⟨oe, od, mA, ⟨P, hz.1, ?_, ?_⟩, hl, hr⟩
  · unfold PySem.W.notCls
    rw [hv] <;> rfl
  · rw [hz.2]
    exact ho
/-- isinstance(e, C) of the held exception -/
def rIsX (K : PySem.W.Frag) (a d : Addr) (cn : Str) : List V → Hp → VK → Prop := fun xs H Q => ∃ (c : V) (cv : Value) (b : Bool) (fs : List (Str × V)), xs = [.ref a, c] ∧ (∀ u, RelV c u → u = cv) ∧ H d = some (.xd fs) ∧ PySem.W.kitOne K (.ref (clA K cn)) cv = some b ∧ Q (.bl b) H
theorem call_isX {X : Cx} {a d : Addr} {cn : Str} (C : ExcC X.K (clA X.K cn)) (hot : HotE X a d cn) : CallR X (.builtin "isinstance") (rIsX X.K a d cn) := fun pins s σ H xs us Q I r h => by
  obtain ⟨c, cv, b, fs, e1, hcv, hd, hk, q⟩ := h
  subst e1
  obtain ⟨oe, od, mA, J, _, _⟩ := hot.at I hd
  obtain ⟨u1, u2, eu, r1, r2⟩ := vals2 r
  subst eu
  have e2 : u1 = Value.ref a := r1
  have e3 := hcv _ r2
  subst e2 e3
  have hcl : (PySem.W.clsIn X.K (clA X.K cn)).isSome = true := by
    obtain ⟨cd, hc, _⟩ := PySem.W.any_some C.hd
    rw [hc]; rfl
  exact PySem.W.kia_one (PySem.W.kitx_exc hcl C.hg C.hk C.hs C.ha C.hn C.ht C.hm) I.kIn J hk (fun z => nomatch z) fun tk => ⟨.bl b, H, I.kept (t' := tk) fun _ _ z => z, rfl, q⟩
def dIsE (a d : Addr) (cn : Str) (b : Bool) (ue : DTE) : DTE := fun δ M Q => ue δ M fun v M1 => (∃ ns fs, v = .exc a d cn ns fs) ∧ Q (.bl b) M1
theorem isE_rel [Ghost] {X : Cx} {a d : Addr} {cn : Str} {b : Bool} {ue : DTE} {c : V} {cv : Value} (hcv : ∀ u, RelV c u → u = cv) (hk : PySem.W.kitOne X.K (.ref (clA X.K cn)) cv = some b) : ∀ σ H Q, lift X.K (dIsE a d cn b ue) σ H Q → tCB (rIsX X.K a d cn) (tCons (lift X.K ue) (tCons (tC c) tNil)) σ H Q := fun σ H Q h => by
  obtain ⟨δ, M, F, Qd, hE, s, hu, po⟩ := h
  refine ⟨δ, M, F, _, hE, s, hu, fun v M1 F1 x H1 q g s1 r => ?_⟩
  obtain ⟨⟨ns, fs, e⟩, q⟩ := q
  subst e
  unfold Rp at r
  obtain ⟨e, xs, hF, _, _⟩ := r
  subst e
  exact ⟨c, cv, b, _, rfl, hcv, s1.fh _ _ hF, hk, po _ _ _ _ _ q g s1 (by unfold Rp; rfl)⟩
/-- isinstance(e, C), C a class of the module -/
theorem de_isE [Ghost] {X : Cx} {a d : Addr} {cn m : Str} {b : Bool} {e : Expr} {ue : DTE} {p p2 pos : Pos} (C : ExcC X.K (clA X.K cn)) (hot : HotE X a d cn) (hk : PySem.W.kitOne X.K (.ref (clA X.K cn)) (.ref (clA X.K m)) = some b) (hm : X.mg m = some (.ref (clA X.K m)))
    (hi : X.mg "isinstance" = none) (he : DE X e ue) (hg : Gl X "isinstance" := by rfl) (hgm : Gl X m := by rfl) (hdb : (m == ("__debug__" : Str)) = false := by decide)
    (hs : starEach [e, .Name m p2] X.env = (false, eval e X.env) :: starEach [.Name m p2] X.env := by rfl) (hpl : (backTo pos (starEach [.Name m p2] X.env)).any (·.1) = false := by rfl) : DE X (.Call (.Name "isinstance" p) [e, .Name m p2] [] pos) (dIsE a d cn b ue) :=
  PE.weak (pe_callB (call_isX C hot) hg hi (by rfl) (pa_cons he (pa_cons (pe_glob (v := .ref (clA X.K m)) hgm hm rfl hdb) pa_nil) hs) (by decide) (by decide) hs hpl) (isE_rel (fun u r => r) hk)
/-- .. a built-in class -/
theorem de_isEB [Ghost] {X : Cx} {a d : Addr} {cn m : Str} {n : String} {b : Bool} {e : Expr} {ue : DTE} {p p2 pos : Pos} (C : ExcC X.K (clA X.K cn)) (hot : HotE X a d cn) (hk : PySem.W.kitOne X.K (.ref (clA X.K cn)) (.type n) = some b) (hm : X.mg m = none) (hv : bootBuiltins m = some (.type n))
    (hi : X.mg "isinstance" = none) (he : DE X e ue) (hg : Gl X "isinstance" := by rfl) (hgm : Gl X m := by rfl) (hn : m ≠ "__name__" := by decide) (hdb : (m == ("__debug__" : Str)) = false := by decide)
    (hs : starEach [e, .Name m p2] X.env = (false, eval e X.env) :: starEach [.Name m p2] X.env := by rfl) (hpl : (backTo pos (starEach [.Name m p2] X.env)).any (·.1) = false := by rfl) : DE X (.Call (.Name "isinstance" p) [e, .Name m p2] [] pos) (dIsE a d cn b ue) :=
  PE.weak (pe_callB (call_isX C hot) hg hi (by rfl) (pa_cons he (pa_cons (pe_bltn (v := .ty n) hgm hm hv rfl hn hdb) pa_nil) hs) (by decide) (by decide) hs hpl) (isE_rel (fun u r => r) hk)
/-- e.f -/
def dFld (a d : Addr) (cn f : Str) (ue : DTE) : DTE := fun δ M Q => ue δ M fun v M1 => ∃ ns fs y, v = .exc a d cn ns fs ∧ (ns.zip fs).lookup f = some y ∧ Q y M1
theorem lookup_rp {K : PySem.W.Frag} {F : Hp} {f : Str} {y : D} : ∀ {ns : List Str} {fs : List D} {xs : List V}, RpL K F fs xs → (ns.zip fs).lookup f = some y → ∃ v, (ns.zip xs).lookup f = some v ∧ Rp K F y v
  | [], _, _, _, h => by simp at h
  | n :: ns, [], _, _, h => by simp at h
  | n :: ns, d :: fs, xs, r, h => by
    unfold RpL at r
    obtain ⟨x, r', e, r1, r2⟩ := r
    subst e
    rw [List.zip_cons_cons, List.lookup_cons] at h
    rw [List.zip_cons_cons, List.lookup_cons]
    by_cases q : (f == n) = true
    · rw [q] at h ⊢
      cases h
      exact ⟨x, rfl, r1⟩
    · have q' : (f == n) = false := by simpa using q
      rw [q'] at h ⊢
      exact lookup_rp r2 h
theorem de_fld [Ghost] {X : Cx} {a d : Addr} {cn f : Str} {e : Expr} {ue : DTE} {pos : Pos} (T : XfC X.K (clA X.K cn)) (hot : HotE X a d cn) (hno : PySem.W.findIn X.K (.ref (clA X.K cn)) f = some none) (he : DE X e ue)
    (hb : attributeBase e f X.env (eval e X.env) = eval e X.env := by rfl) : DE X (.Attribute e f pos) (dFld a d cn f ue) := by
  refine ⟨fun pins s σ H Q I h => ?_⟩
  obtain ⟨δ, M, F, Qd, hE, sv, hu, po⟩ := h
  have h2 : lift X.K ue σ H fun x H1 => ∃ (fs : List (Str × V)) (v : V), x = .ref a ∧ H1 d = some (.xd fs) ∧ fs.lookup f = some v ∧ Q v H1 := by
    refine ⟨δ, M, F, _, hE, sv, hu, fun v M1 F1 x H1 q g s1 r => ?_⟩
    obtain ⟨ns, fs, y, e, hl, q⟩ := q
    subst e
    unfold Rp at r
    obtain ⟨e, xs, hF, _, hR⟩ := r
    subst e
    obtain ⟨u, hu, ru⟩ := lookup_rp hR hl
    exact ⟨_, u, rfl, s1.fh _ _ hF, hu, po _ _ _ _ _ q g s1 ru⟩
  refine attr_of hb (thn (he.run pins s σ H _ I h2) fun u s1 hh => ?_)
  obtain ⟨x, H1, I1, rx, fs, v, ex, hd, l, q⟩ := hh
  subst ex
  have eu : u = Value.ref a := rx
  subst eu
  obtain ⟨oe, od, mA, J, hl, hr⟩ := hot.at I1 hd
  obtain ⟨u, hu, ru⟩ := RelO.some_of (v := v) (o := mA f) (by rw [← l]; exact hr f)
  exact HandSPX.exc_get I1.kIn J T.ga T.gg T.exC (PySem.W.findObj_own T.hdC hno rfl (by rw [hl, hu])) (handed_of ru) ⟨v, H1, I1.tok _, ru, q⟩
end DL

/-! DLX3: a def is called in a suite, the held exception is its argument. -/
namespace DL
open PySem PySem.Spec PyProof.Rows L2 TL L2H
/-- such a def's promise, by the exception's address, its dict's address, its class -/
abbrev ESp := Addr → Addr → Str → DSp
def CalE (P : Program) (w : World) (K : PySem.W.Frag) (mg : Str → Option Value) (base : Heap) (k : Nat) (x : Str) (ps : List Str) (kn : Str → Prop) (sp : ESp) : Prop :=
  ∃ f fd, (∀ a d cn ds M Q E, sp a d cn ds M Q E → ds.length = ps.length) ∧
    (∀ (B : Around) (out : List Env) (st : Shared) (Hh : Hp) (ar : Args) (ul : List Value) (vl : List V) (Qv : VK) (q : Addr × Obj) (d : Addr) (cn : Str), kn cn → RoomH k B → PinOk out Hh st q → Zc (.ref (clA K cn)) (some d) q.2 → (∃ vs, q.2.data = .fields vs) →
      Env0 P w K mg base B out st Hh → BindsTo st fd ar (ps.zip ul) → Vals vl ul → liftSp K (sp q.1 d cn) vl Hh Qv E0 → codeAny (model P w) B (.call (.ref f) ar) (CR CX0 out P w Hh st Qv E0) st) ∧
    mg x = some (.ref f) ∧ PySem.W.keepIn K (.ref f) = true ∧ Binds K fd ps []
theorem calE_of {P : Program} {w : World} {K : PySem.W.Frag} {mg : Str → Option Value} {base : Heap} {x : Str} {st : Stmt} {N ps : List Str} {k : Nat} {kn : Str → Prop} {sp : ESp} {t : Addr → Addr → Str → DTS} (d : DefAt K mg x st) (S : FnScope N ps (defScope st))
    (len : ∀ a d cn ds M Q E, sp a d cn ds M Q E → ds.length = ps.length)
    (hbind : ∀ (kV doc pm : Value) (an : Option Addr) (cdv ct : Value) (us : List Value), us.length = ps.length → bindArgs (PySem.W.fnOf x x (defArgs st) (defBody st) (defScope st) .none kV doc pm an cdv ct) ⟨us, []⟩ = pure (ps.zip us))
    (hb : ∀ (f : Addr) (cdv : Value) (A : Around) (outer : List Env) (s : Shared) (H : Hp) (p : Addr × Obj) (d : Addr) (cn : Str), kn cn → RoomH k (A.deeper (envOfC x (defScope st) s.heap.objs.size f cdv)) → HotE (cxH CX0 P w K mg base N x (defScope st) f cdv A outer s H E0 p) p.1 d cn →
      @DSs gh0 (cxH CX0 P w K mg base N x (defScope st) f cdv A outer s H E0 p) (defBody st) (t p.1 d cn))
    (hs : ∀ a d cn ds M Q E, sp a d cn ds M Q E → t a d cn (dEnd Q) (dstart N.length ds) M) : CalE P w K mg base (k + 1) x ps kn sp := by
  obtain ⟨f, fd, FD, hm⟩ := d
  refine ⟨f, fd, len, fun B out st' Hh ar ul vl Qv q d cn kc rm pin hz hv en bi rl hsp => ?_, hm, FD.kp, FD.bindsN hbind⟩
  obtain ⟨oc, od, dV, kV, doc, pm, an, cdv, ct, osl, efd, lkf, hcode, _, _⟩ := FD.ex
  subst efd
  obtain ⟨ds, M, F, Qd, Ed, rds, sv, hq, po, px⟩ := hsp
  have lenv : vl.length = ps.length := rds.len.symm.trans (len _ _ _ _ _ _ _ hq)
  have inK : K.In st'.heap := PySem.W.Frag.In.keeps en.mod.kin (fun b o z => (en.bs b o z).1)
  have nol : st'.heap.NoLimit := Heap.NoLimit.keeps en.mod.nolimit (fun b o z => (en.bs b o z).1)
  have kinds : ∀ y ∈ ps.zip ul, (defScope st).names.lookup y.1 = some .local ∨ ((defScope st).names.lookup y.1 = some .cell ∧ ((cellsFrom (st'.heap.objs.size + 1) (defScope st).names []).lookup y.1).isSome = true) := by
    intro y hy
    cases S.par y.1 (List.of_mem_zip (show (y.1, y.2) ∈ ps.zip ul from hy)).1 with
    | inl z => exact .inl z
    | inr z => exact .inr ⟨z, PySem.W.cellsFrom_some _ _ _ (.inl z)⟩
  refine codeAny_call_function (RoomH.depth rm) (inK _ _ lkf) rfl S.co S.gen rfl (PySem.W.codeRec_of inK hcode) (bi _ _ _ _ (wpAny_newFunctionEnv_cells S.kind kinds fun env he s1 ic => ?_))
  subst he
  refine ⟨Heap.NoLimit.keeps nol ic.toInCall.keep, codeAny_func ?_⟩
  have start : Inv (cxH CX0 P w K mg base N x (defScope st) f cdv B out st' Hh E0 q) [] (L2.start N vl) Hh s1 := inv_startH S pin en lenv rl ic
  have body := hb f cdv B out st' Hh q d cn kc (RoomH.deeper rm _) ⟨q.2, List.mem_singleton.mpr rfl, hz, hv⟩
  let _i : Ghost := gh0
  have ends : PostS K Hh F M (dEnd Qd) { nx := fun _ H' => Qv .non H', rt := Qv } := ⟨fun δ' M' F' σ' H' z g s' e => po.wq _ _ _ _ _ z g s' (by unfold Rp; rfl), po.wq, fun _ _ _ _ _ z => z.elim, fun _ _ _ _ _ z => z.elim⟩
  refine wpAny_mono (body.run [] s1 _ Hh _ start ⟨dstart N.length ds, M, F, dEnd Qd, ERel.start rds, sv, hs _ _ _ ds M Qd Ed hq, ends⟩) (fun fl s' z => ?_) fun _ _ z => z
  match fl, z with
  | .ret u, z =>
    obtain ⟨v, σ', H', J, rv, y⟩ := z
    exact ⟨v, H', J.os, J.bare, J.base, J.hok, rv, y⟩
  | .next, z =>
    obtain ⟨σ', H', J, y⟩ := z
    exact ⟨V.non, H', J.os, J.bare, J.base, J.hok, rfl, y⟩
  | .brk, z => obtain ⟨_, _, _, y⟩ := z; exact y.elim
  | .cont, z => obtain ⟨_, _, _, y⟩ := z; exact y.elim
def dCallE (sp : ESp) (a d : Addr) (cn : Str) (ua : DTA) : DTE := fun δ M Q => ua δ M fun ds M1 => sp a d cn ds M1 Q fun _ _ => False
theorem de_calE [Ghost] {X : Cx} {k : Nat} {x : Str} {ps : List Str} {kn : Str → Prop} {sp : ESp} {a d : Addr} {cn : Str} {e : Expr} {es : List Expr} {ua : DTA} {p pos : Pos} (C : CalE X.prog X.w X.K X.mg X.base k x ps kn sp) (hk : kn cn) (hr : RoomH k X.A) (hot : HotE X a d cn) (ha : DA X (e :: es) ua) (hg : Gl X x := by rfl)
    (hdb : (x == ("__debug__" : Str)) = false := by decide) (he : starEach (e :: es) X.env = (false, eval e X.env) :: starEach es X.env := by rfl) (hpl : (backTo pos (starEach es X.env)).any (·.1) = false := by rfl) : DE X (.Call (.Name x p) (e :: es) [] pos) (dCallE sp a d cn ua) := by
  obtain ⟨f, fd, len, run, hm, kp, bi⟩ := C
  obtain ⟨oe, hp, hz, hv⟩ := hot
  refine ⟨fun pins s σ H Q I h => wpAny_Call_Name_kw (ld_glob I hg hm ?_ hdb)⟩
  obtain ⟨δ, M, F, Qd, hE, sv, hu, po⟩ := h
  have h2 : liftA X.K ua σ H fun vs H1 => liftSp X.K (sp a d cn) vs H1 Q E0 ∧ vs.length = ps.length :=
    ⟨δ, M, F, _, hE, sv, hu, fun ds M1 F1 vs H1 q g s1 r => ⟨⟨ds, M1, F1, Qd, _, r, s1.re gh0 trivial, q, (po.go g).re s1, @post0 gh0 _ _ _ _ _⟩, r.len.symm.trans (len _ _ _ _ _ _ _ q)⟩⟩
  refine PySem.W.callWith_K (h₀ := X.base) I.ok.mod.kin kp (thn (ha.run pos pins s σ H _ I h2) fun us s1 hh => ?_) he hpl
  obtain ⟨vs, H1, I1, r1, q, hl⟩ := hh
  refine ⟨I1.kIn, ?_⟩
  have bnd := bi s1 us I1.kIn (by rw [List.append_nil, ← r1.length]; exact hl)
  rw [List.append_nil] at bnd
  have pn := I1.pin (a, oe) (List.mem_append_left _ hp)
  have pk : PinOk X.stack H1 s1 (a, oe) := ⟨pn.1, pn.2.1, fun hmem => (List.mem_cons.mp (I1.stkSub a hmem)).elim pn.2.2.1 pn.2.2.2.1, pn.2.2.2.2⟩
  refine wpAny_call (codeAny_mono (run X.A X.stack s1 H1 ⟨us, []⟩ us vs Q (a, oe) d cn hk hr pk hz hv I1.env0 bnd r1 q) fun r s' z => ?_)
  match r, z with
  | .ok (.ret u), z => exact I1.after z
  | .error _, z => exact z.elim
end DL

/-! DLX4: the __init__ of the classes of exceptions. -/
namespace DL
open PySem PySem.Spec PyProof.Rows L2 TL
section
variable {P : Program} {w : World} {K : PySem.W.Frag} {mg : Str → Option Value} {base : Heap} {qual : Str} {params : Arguments} {body : List Stmt} {scope : Scope} {f : Addr} {fd : FuncData}
theorem init1 {n : Str} (F : FunD K "__init__" qual params body scope [] [] f fd) (S : FnScope ["self", n] ["self", n] scope)
    (hb : ∀ (cdv : Value) (A : Around) (outer : List Env) (s : Shared) (H : Hp) (E : XK), PSs (cxOf CX0 P w K mg base ["self", n] qual scope f cdv A outer s H E).nox body (tOst K n (tVar 0) (tVar 1))) : FnOk P w K mg base CX0 1 f fd ["self", n] (spInit K [n]) := by
  refine F.ok S (fun vs H Q E h => ?_) (fun cdv A outer s H vs Q E hr h => ⟨tOst K n (tVar 0) (tVar 1), PSs.nox (hb cdv A outer s H E), ?_⟩)
  · obtain ⟨a, C, ys, rfl, hl, _⟩ := h
    rw [List.length_cons, hl]; rfl
  · obtain ⟨a, C, ys, rfl, hl, T, hno, ha, kk⟩ := h
    match ys, hl with
    | [y], _ => exact ⟨_, rfl, _, rfl, a, C, rfl, T, hno n (by simp), .inl ⟨ha, fun dx h1 h2 => kk dx h1 h2⟩⟩
theorem init2 {n m : Str} (F : FunD K "__init__" qual params body scope [] [] f fd) (S : FnScope ["self", n, m] ["self", n, m] scope)
    (hb : ∀ (cdv : Value) (A : Around) (outer : List Env) (s : Shared) (H : Hp) (E : XK), PSs (cxOf CX0 P w K mg base ["self", n, m] qual scope f cdv A outer s H E).nox body (tSeq (tOst K n (tVar 0) (tVar 1)) (tOst K m (tVar 0) (tVar 2)))) : FnOk P w K mg base CX0 1 f fd ["self", n, m] (spInit K [n, m]) := by
  refine F.ok S (fun vs H Q E h => ?_) (fun cdv A outer s H vs Q E hr h => ⟨tSeq (tOst K n (tVar 0) (tVar 1)) (tOst K m (tVar 0) (tVar 2)), PSs.nox (hb cdv A outer s H E), ?_⟩)
  · obtain ⟨a, C, ys, rfl, hl, _⟩ := h
    rw [List.length_cons, hl]; rfl
  · obtain ⟨a, C, ys, rfl, hl, T, hno, ha, kk⟩ := h
    match ys, hl with
    | [y, z], _ =>
      refine ⟨_, rfl, _, rfl, a, C, rfl, T, hno n (by simp), .inl ⟨ha, fun dx h1 h2 => ?_⟩⟩
      refine ⟨_, rfl, _, rfl, a, C, rfl, T, hno m (by simp), .inr ⟨dx, [(n, y)], upd_same, ?_, by show 1 ≤ 900; omega, ?_⟩⟩
      · rw [upd_ne h2, upd_same]
      · have e : upd (upd (upd H dx (exd dx [(n, y)])) a (exo a C (some dx))) dx (exd dx [(m, z), (n, y)]) = upd (upd H dx (exd dx [(m, z), (n, y)])) a (exo a C (some dx)) := by
          funext b
          by_cases h3 : b = dx
          · subst h3; rw [upd_same, upd_ne h2, upd_same]
          · rw [upd_ne h3]
            by_cases h4 : b = a
            · subst h4; rw [upd_same, upd_same]
            · rw [upd_ne h4, upd_ne h4, upd_ne h3, upd_ne h3]
        have q := kk dx h1 h2
        show Q .non (upd (upd (upd H dx (exd dx [(n, y)])) a (exo a C (some dx))) dx (exd dx [(m, z), (n, y)]))
        rw [e]
        exact q
end
/-! ### the classes' facts, as one Bool -/
def clsOf (K : PySem.W.Frag) (C : Addr) : Bool := match K.lookup C with
  | some ⟨.type t, _, .cls cd, ⟨[_, _, _, _, some (.builtin n), _]⟩⟩ => decide (t = "type") && (decide (n = "ValueError.__new__") && (!cd.hasDel && (cd.hasDict && (match cd.mro with
    | .ref c :: bm => decide (c = C) && PySem.HandSPX.refsVE bm
    | _ => false))))
  | _ => false
theorem clsOf_ok {K : PySem.W.Frag} {C : Addr} (h : clsOf K C = true) : ∃ nm q N bs bm sn sub ab col dd k0 k1 k2 k3 k5, K.lookup C = some (excClassObj nm q C N bs bm true sn sub ab col dd k0 k1 k2 k3 k5 "ValueError.__new__") ∧ PySem.HandSPX.refsVE bm = true := by
  unfold clsOf at h
  split at h
  · rename_i t dd cd k0 k1 k2 k3 n k5 e
    obtain ⟨h1, h⟩ := He.ba h
    obtain ⟨h2, h⟩ := He.ba h
    obtain ⟨h3, h⟩ := He.ba h
    obtain ⟨h4, h⟩ := He.ba h
    obtain ⟨nm, bs, mro, ns, qn, hd, sn, sub, ab, col, del⟩ := cd
    dsimp only at h3 h4 h
    have e1 : t = "type" := of_decide_eq_true h1
    have e2 : n = "ValueError.__new__" := of_decide_eq_true h2
    have e3 : del = false := by simpa using h3
    have e4 : hd = true := h4
    subst e1 e2 e3 e4
    cases mro with
    | nil => cases h
    | cons v bm =>
      cases v with
      | ref c =>
        obtain ⟨h5, h6⟩ := He.ba (show (decide (c = C) && PySem.HandSPX.refsVE bm) = true from h)
        have e5 : c = C := of_decide_eq_true h5
        subst e5
        exact ⟨nm, qn, ns, bs, bm, sn, sub, ab, col, dd, k0, k1, k2, k3, k5, e, h6⟩
      | _ => cases h
  · cases h
end DL

/-! DLX5: what the text says of a class of exceptions, as one Bool. -/
namespace DL
open PySem PySem.Spec PyProof.Rows L2 TL
def excB (K : PySem.W.Frag) (c : Str) (ns : List Str) : Bool :=
  clsOf K (clA K c) && (He.eqO (PySem.W.findIn K (.ref (clA K c)) "__setattr__") (some (some (.builtin "object.__setattr__"))) && (decide (PySem.W.subIn K (.ref (clA K c)) (.type "BaseException") = some true) && (decide (PySem.W.typeIn K (.ref (clA K c)) = some (.type "type")) &&
  (PySem.W.keepIn K (.ref (clA K c)) && ((ns.all fun n => He.eqO (PySem.W.findIn K (.ref (clA K c)) n) (some none)) && (He.eqO (PySem.W.findIn K (.ref (clA K c)) "__getattribute__") (some (some (.builtin "BaseException.__getattribute__"))) &&
  (He.eqO (PySem.W.findIn K (.ref (clA K c)) "__getattr__") (some none) && (PySem.W.hasDictIn K (clA K c) && (He.eqO (PySem.W.findIn K (.ref (clA K c)) "__class__") (some (some (.builtin "object.__class__"))) &&
  (He.eqO (PySem.W.specialIn K (.builtin "object.__class__") "__get__") (some (some (.builtin "getset_descriptor.__get__"))) && (decide (PySem.W.takesIn K (.builtin "object.__class__") = some true) && (decide (PySem.W.mroIn K (clA K c) (.type "object") = some true) &&
  (He.eqO (PySem.W.findIn K (.ref (clA K c)) "__init__") (some (some (.ref (He.fAd K (c, some "__init__"))))) && decide (PySem.W.typeIn K (.ref (He.fAd K (c, some "__init__"))) = some (.type "function")))))))))))))))
structure ExF (K : PySem.W.Frag) (c : Str) (ns : List Str) : Prop where
  oex : OexC K (clA K c)
  noat : ∀ n ∈ ns, PySem.W.findIn K (.ref (clA K c)) n = some none
  exc : ExcC K (clA K c)
  xf : XfC K (clA K c)
  iC : PySem.W.findIn K (.ref (clA K c)) "__init__" = some (some (.ref (He.fAd K (c, some "__init__"))))
  tI : PySem.W.typeIn K (.ref (He.fAd K (c, some "__init__"))) = some (.type "function")
theorem excB_ok {K : PySem.W.Frag} {c : Str} {ns : List Str} (h : excB K c ns = true) : ExF K c ns := by
  obtain ⟨h1, h⟩ := He.ba h
  obtain ⟨h2, h⟩ := He.ba h
  obtain ⟨h3, h⟩ := He.ba h
  obtain ⟨h4, h⟩ := He.ba h
  obtain ⟨h5, h⟩ := He.ba h
  obtain ⟨h6, h⟩ := He.ba h
  obtain ⟨h7, h⟩ := He.ba h
  obtain ⟨h8, h⟩ := He.ba h
  obtain ⟨h9, h⟩ := He.ba h
  obtain ⟨h10, h⟩ := He.ba h
  obtain ⟨h11, h⟩ := He.ba h
  obtain ⟨h12, h⟩ := He.ba h
  obtain ⟨h13, h⟩ := He.ba h
  obtain ⟨h14, h15⟩ := He.ba h
  have d3 := of_decide_eq_true h3
  exact { oex := ⟨clsOf_ok h1, He.eqO_ok h2, d3, of_decide_eq_true h4, h5⟩, noat := fun n hn => He.eqO_ok (List.all_eq_true.mp h6 n hn), exc := ⟨He.eqO_ok h7, He.eqO_ok h8, d3, h9, He.eqO_ok h10, He.eqO_ok h11, of_decide_eq_true h12, of_decide_eq_true h13⟩,
          xf := ⟨He.eqO_ok h7, He.eqO_ok h8, d3, h9⟩, iC := He.eqO_ok h14, tI := of_decide_eq_true h15 }
/-- isinstance of an exception of the class cn: the answers -/
def kisB (K : PySem.W.Frag) (cn : Str) (l : List (Str × Bool)) : Bool := l.all fun q => decide (PySem.W.kitOne K (.ref (clA K cn)) (.ref (clA K q.1)) = some q.2)
theorem kisB_ok {K : PySem.W.Frag} {cn : Str} {l : List (Str × Bool)} (h : kisB K cn l = true) {m : Str} {b : Bool} (hm : (m, b) ∈ l) : PySem.W.kitOne K (.ref (clA K cn)) (.ref (clA K m)) = some b := of_decide_eq_true (List.all_eq_true.mp h (m, b) hm)
def exmB (K : PySem.W.Frag) (cn m : Str) (b : Bool) : Bool := decide (PySem.W.exmOne K (.ref (clA K cn)) (.ref (clA K m)) = some b)
theorem exmB_ok {K : PySem.W.Frag} {cn m : Str} {b : Bool} (h : exmB K cn m b = true) : PySem.W.exmOne K (.ref (clA K cn)) (.ref (clA K m)) = some b := of_decide_eq_true h
def kitB1 (K : PySem.W.Frag) (cn : Str) (n : String) (b : Bool) : Bool := decide (PySem.W.kitOne K (.ref (clA K cn)) (.type n) = some b)
theorem kitB1_ok {K : PySem.W.Frag} {cn : Str} {n : String} {b : Bool} (h : kitB1 K cn n b = true) : PySem.W.kitOne K (.ref (clA K cn)) (.type n) = some b := of_decide_eq_true h
theorem xc_of {P : Program} {w : World} {K : PySem.W.Frag} {mg : Str → Option Value} {base : Heap} {k : Nat} {c : Str} {ns : List Str} {fd : FuncData} (h : ExF K c ns) (hm : mg c = some (.ref (clA K c))) (hs : ns.length ≤ 100)
    (F : FnOk P w K mg base CX0 k (He.fAd K (c, some "__init__")) fd ("self" :: ns) (spInit K ns)) (b : Binds K fd ("self" :: ns) []) : XC P w K mg base k c ns := ⟨h.oex, h.noat, hm, hs, _, fd, h.iC, h.tI, F, b⟩
/-- what an exception of the class cn answers: isinstance by the table kl, its fields -/
structure FX (K : PySem.W.Frag) (cn : Str) (kl : List (Str × Bool)) : Prop where
  exc : ExcC K (clA K cn)
  xf : XfC K (clA K cn)
  noat : ∀ f ∈ (["what", "line", "unknown", "place"] : List Str), PySem.W.findIn K (.ref (clA K cn)) f = some none
  kit : ∀ m b, (m, b) ∈ kl → PySem.W.kitOne K (.ref (clA K cn)) (.ref (clA K m)) = some b
  kitV : PySem.W.kitOne K (.ref (clA K cn)) (.type "ValueError") = some true
theorem unitsH {k : Nat} {A : Around} (r : L2H.RoomH k A) : A.units + 64 < cLine := by
  have := r.un
  omega
theorem roomHs {k : Nat} {A : Around} (r : Room k A) (h : Option Value) : L2H.RoomH k (A.mark h) := ⟨r.dp, r.un⟩
abbrev dw0 : DWX := fun _ _ _ => False
theorem takesD0 [Ghost] {X : Cx} : Takes X (liftW X.K dw0) := Takes.imp takes0 fun _ _ _ _ h => by
  obtain ⟨_, _, _, _, _, _, _, _, q⟩ := h
  exact q
end DL

/-! DLX6: stepping through raise, try, the held exception. -/
namespace DL
open PySem PySem.Spec PyProof.Rows L2 TL
section
variable {δ : DEnv} {M : Mu} {Q : DK} {D0 : DEnds} {u ua ue : DTE} {us : DTA} {a d : Addr} {cn c f : Str} {W Wout : DWX}
theorem r_raise {ns : List Str} (h : us δ M fun ds M1 => ds.length = ns.length ∧ W ⟨c, ns.reverse, ds.reverse⟩ δ M1) : dRaise c ns W us D0 δ M := h
theorem r_callX {sp : DSp} (h : us δ M fun ds M1 => sp ds M1 Q fun x M2 => W x δ M2) : dCallX sp W us δ M Q := h
theorem r_callE {sp : ESp} (h : us δ M fun ds M1 => sp a d cn ds M1 Q fun _ _ => False) : dCallE sp a d cn us δ M Q := h
theorem r_try {i : Nat} {isx : Str → Option Bool} {ub : DWX → DTS} {uh : DSuite} (h : ub (dwTry i isx Wout uh D0) D0 δ M) : dTry i isx Wout ub uh D0 δ M := h
theorem r_caught {i : Nat} {isx : Str → Option Bool} {uh : DSuite} {x : DX} (e : isx x.cls = some true) (h : ∀ a d, uh a d x.cls (endsNo i D0) (δ.set i (some (.exc a d x.cls x.ns x.ds))) M) : dwTry i isx Wout uh D0 x δ M := by
  unfold dwTry
  rw [e]
  exact h
theorem r_isE {b : Bool} (h : ue δ M fun v M1 => (∃ ns fs, v = .exc a d cn ns fs) ∧ Q (.bl b) M1) : dIsE a d cn b ue δ M Q := h
theorem r_excK {ns : List Str} {fs : List D} {P : Prop} (h : P) : (∃ ns' fs', D.exc a d cn ns fs = .exc a d cn ns' fs') ∧ P := ⟨⟨ns, fs, rfl⟩, h⟩
theorem r_fld (h : ue δ M fun v M1 => ∃ ns fs y, v = .exc a d cn ns fs ∧ (ns.zip fs).lookup f = some y ∧ Q y M1) : dFld a d cn f ue δ M Q := h
end
end DL

/-! DLX7: the classes of this program's exceptions. -/
namespace DL
open PySem PySem.Spec PyProof.Rows L2 TL
/-- the first statement of a class's body -/
def inOf : Stmt → Stmt
  | .ClassDef _ _ _ body _ _ _ _ _ _ pos => body.getD 0 (.Pass pos)
  | s => s
def isB (cn m : Str) : Bool := decide (cn = m) || decide (m = ("ApartError" : Str))
def isL (cn : Str) : List (Str × Bool) := [("TooMany", isB cn "TooMany"), ("BadText", isB cn "BadText"), ("BadMeaning", isB cn "BadMeaning"), ("BadPolynomial", isB cn "BadPolynomial"), ("BadNumber", isB cn "BadNumber"), ("BadMove", isB cn "BadMove"), ("BadBox", isB cn "BadBox"),
  ("BadAsk", isB cn "BadAsk"), ("BadReading", isB cn "BadReading"), ("BadCode", isB cn "BadCode"), ("BadPaper", isB cn "BadPaper"), ("BadCourse", isB cn "BadCourse"), ("BadDesk", isB cn "BadDesk"), ("ApartError", isB cn "ApartError")]
def fxB (K : PySem.W.Frag) (cn : Str) (ns : List Str) : Bool :=
  excB K cn ns && ((["what", "line", "unknown", "place"] : List Str).all (fun n => He.eqO (PySem.W.findIn K (.ref (clA K cn)) n) (some none)) && (kisB K cn (isL cn) && (kitB1 K cn "ValueError" true && exmB K cn "ApartError" true)))
structure Gx (K : PySem.W.Frag) (cn : Str) (ns : List Str) : Prop where
  ef : ExF K cn ns
  fx : FX K cn (isL cn)
  exm : PySem.W.exmOne K (.ref (clA K cn)) (.ref (clA K "ApartError")) = some true
theorem fxB_ok {K : PySem.W.Frag} {cn : Str} {ns : List Str} (h : fxB K cn ns = true) : Gx K cn ns := by
  obtain ⟨h1, h⟩ := He.ba h
  obtain ⟨h2, h⟩ := He.ba h
  obtain ⟨h3, h⟩ := He.ba h
  obtain ⟨h4, h5⟩ := He.ba h
  have e := excB_ok h1
  exact ⟨e, ⟨e.exc, e.xf, fun f hf => He.eqO_ok (List.all_eq_true.mp h2 f hf), fun m b hm => kisB_ok h3 hm, kitB1_ok h4⟩, exmB_ok h5⟩
/-- which classes may come -/
def isxOf (l : List Str) (c : Str) : Option Bool := if c ∈ l then some true else none
theorem isxOf_mem {l : List Str} {c : Str} (h : isxOf l c = some true) : c ∈ l := by
  unfold isxOf at h
  split at h
  · assumption
  · cases h
theorem isxOf_true {l : List Str} {c : Str} {b : Bool} (h : isxOf l c = some b) : b = true := by
  unfold isxOf at h
  split at h
  · cases h; rfl
  · cases h
theorem isxOf_in {l : List Str} {c : Str} (h : c ∈ l) : isxOf l c = some true := if_pos h
end DL
namespace DL
open PySem PySem.Spec PyProof.Rows L2 TL
theorem CalE.mono {P : Program} {w : World} {K : PySem.W.Frag} {mg : Str → Option Value} {base : Heap} {j k : Nat} {x : Str} {ps : List Str} {kn : Str → Prop} {sp : ESp} (c : CalE P w K mg base j x ps kn sp) (h : j ≤ k) : CalE P w K mg base k x ps kn sp := by
  obtain ⟨f, fd, len, run, rest⟩ := c
  exact ⟨f, fd, len, fun B out st Hh ar ul vl Qv q d cn kc rm => run B out st Hh ar ul vl Qv q d cn kc (rm.mono h), rest⟩
end DL

/-! DLR: loops by the index of the turn. -/
namespace DL
open PySem PySem.Spec PyProof.Rows L2 TL
theorem for_ix {g : Mu → Prop} {tg : DTg} {b : DTS} {E : DEnds} (ds : List D) (I : Nat → DEnv → Mu → Prop) (hg : ∀ j δ M, I j δ M → g M)
    (hs : ∀ j x δ M (N : DEnv → Mu → Prop), ds[j]? = some x → I j δ M → (∀ δ' M', I (j + 1) δ' M' → N δ' M') → tg x δ M fun δ' M' => b { E with nx := N, ct := N, bk := E.nx } δ' M')
    (he : ∀ δ M, I ds.length δ M → E.nx δ M) (δ : DEnv) (M : Mu) (h : I 0 δ M) : dForGo g tg b E ds δ M := by
  refine for_inv (fun xs δ M => ∃ j, xs = ds.drop j ∧ j ≤ ds.length ∧ I j δ M) (fun xs δ M ⟨j, _, _, h⟩ => hg j δ M h) ?_ ?_ ds δ M ⟨0, rfl, Nat.zero_le _, h⟩
  · rintro x xs δ M N ⟨j, e, hj, hI⟩ hN
    have hlt : j < ds.length := by
      rcases Nat.lt_or_ge j ds.length with h1 | h1
      · exact h1
      · rw [List.drop_of_length_le h1] at e; cases e
    rw [List.drop_eq_getElem_cons hlt] at e
    injection e with e1 e2
    refine hs j x δ M N (by rw [List.getElem?_eq_getElem hlt, e1]) hI fun δ' M' h' => hN δ' M' ⟨j + 1, e2, hlt, h'⟩
  · rintro δ M ⟨j, e, hj, hI⟩
    have hge : ds.length ≤ j := by
      rcases Nat.lt_or_ge j ds.length with h1 | h1
      · rw [List.drop_eq_getElem_cons h1] at e; cases e
      · exact h1
    have : j = ds.length := by omega
    subst this
    exact he δ M hI
theorem for_rng {tg : DTg} {b : DTS} {E : DEnds} {lo : Int} (n : Nat) (I : Nat → DEnv → Mu → Prop)
    (hs : ∀ (j : Nat) δ M (N : DEnv → Mu → Prop), j < n → I j δ M → (∀ δ' M', I (j + 1) δ' M' → N δ' M') → tg (.int (lo + (j : Int))) δ M fun δ' M' => b { E with nx := N, ct := N, bk := E.nx } δ' M')
    (he : ∀ δ M, I n δ M → E.nx δ M) (δ : DEnv) (M : Mu) (h : I 0 δ M) : dForGo (fun _ => True) tg b E (rngD lo n) δ M := by
  refine for_ix _ I (fun _ _ _ _ => trivial) (fun j x δ M N e hI hN => ?_) (by rw [rngD_len]; exact he) δ M h
  have hj : j < n := by
    have := (List.getElem?_eq_some_iff.mp e).1
    rw [rngD_len] at this
    exact this
  rw [rngD_at hj] at e
  cases e
  exact hs j δ M N hj hI hN
theorem for_rng0 {tg : DTg} {b : DTS} {E : DEnds} (n : Nat) (I : Nat → DEnv → Mu → Prop)
    (hs : ∀ (j : Nat) δ M (N : DEnv → Mu → Prop), j < n → I j δ M → (∀ δ' M', I (j + 1) δ' M' → N δ' M') → tg (.int (j : Int)) δ M fun δ' M' => b { E with nx := N, ct := N, bk := E.nx } δ' M')
    (he : ∀ δ M, I n δ M → E.nx δ M) (δ : DEnv) (M : Mu) (h : I 0 δ M) : dForGo (fun _ => True) tg b E (rngD 0 n) δ M :=
  for_rng n I (fun j δ M N hj hI hN => by rw [Int.zero_add]; exact hs j δ M N hj hI hN) he δ M h
theorem lc_ix {g : Mu → Prop} {tg : DTg} {tt : DTT} {te : DTE} {δw : DEnv} {Q : List D → Mu → Prop} (ds : List D) (I : Nat → List D → Mu → Prop) (hg : ∀ j acc M, I j acc M → g M)
    (hs : ∀ j x acc M (N : List D → Mu → Prop), ds[j]? = some x → I j acc M → (∀ acc' M', I (j + 1) acc' M' → N acc' M') → tg x δw M fun δ' M' => tt δ' M' fun b M1 => match b with
      | true => te δ' M1 fun y M2 => acc.length < sizeLine ∧ N (acc ++ [y]) M2
      | false => N acc M1)
    (he : ∀ acc M, I ds.length acc M → Q acc M) (M : Mu) (h : I 0 [] M) : dLcGo g tg tt te δw ds [] M Q := by
  refine lc_inv (fun xs acc M => ∃ j, xs = ds.drop j ∧ j ≤ ds.length ∧ I j acc M) (fun xs acc M ⟨j, _, _, h⟩ => hg j acc M h) ?_ ?_ ds [] M ⟨0, rfl, Nat.zero_le _, h⟩
  · rintro x xs acc M N ⟨j, e, hj, hI⟩ hN
    have hlt : j < ds.length := by
      rcases Nat.lt_or_ge j ds.length with h1 | h1
      · exact h1
      · rw [List.drop_of_length_le h1] at e; cases e
    rw [List.drop_eq_getElem_cons hlt] at e
    injection e with e1 e2
    exact hs j x acc M N (by rw [List.getElem?_eq_getElem hlt, e1]) hI fun acc' M' h' => hN acc' M' ⟨j + 1, e2, hlt, h'⟩
  · rintro acc M ⟨j, e, hj, hI⟩
    have hge : ds.length ≤ j := by
      rcases Nat.lt_or_ge j ds.length with h1 | h1
      · rw [List.drop_eq_getElem_cons h1] at e; cases e
      · exact h1
    have : j = ds.length := by omega
    subst this
    exact he acc M hI
end DL
namespace DL
def plB : Nat → D → Bool
  | _, .non => true
  | _, .bl _ => true
  | _, .int _ => true
  | _, .str _ => true
  | n + 1, .tup ds => decide (ds.length ≤ 1000000) && ds.all (plB n)
  | n + 1, .lst ds => decide (ds.length ≤ 1000000) && ds.all (plB n)
  | _, _ => false
theorem plB_ok : ∀ (n : Nat) (d : D), plB n d = true → Pl n d
  | n, .non, _ => by cases n <;> exact True.intro
  | n, .bl _, _ => by cases n <;> exact True.intro
  | n, .int _, _ => by cases n <;> exact True.intro
  | n, .str _, _ => by cases n <;> exact True.intro
  | 0, .tup ds, h => by simp [plB] at h
  | 0, .lst ds, h => by simp [plB] at h
  | n + 1, .tup ds, h => by
    unfold plB at h
    rw [Bool.and_eq_true] at h
    exact ⟨of_decide_eq_true h.1, fun d hd => plB_ok n d (List.all_eq_true.mp h.2 d hd)⟩
  | n + 1, .lst ds, h => by
    unfold plB at h
    rw [Bool.and_eq_true] at h
    exact ⟨of_decide_eq_true h.1, fun d hd => plB_ok n d (List.all_eq_true.mp h.2 d hd)⟩
  | n, .src _, h => by cases n <;> simp [plB] at h
  | n, .exc _ _ _ _ _, h => by cases n <;> simp [plB] at h
  | n, .ref _, h => by cases n <;> simp [plB] at h
  | n, .ty _, h => by cases n <;> simp [plB] at h
/-- a thing is the same as itself -/
theorem same_me {M : Mu} {d : D} {Q : DK} {E : DXK} (h : Q (.bl true) M) (hp : plB 8 d = true := by rfl) : sp_law_same [d, d] M Q E := same_of d (.inl rfl) (.inl rfl) (plB_ok _ _ hp) h
theorem mul_le_cancel {g a b : Int} (hg : 0 < g) (h : g * a ≤ g * b) : a ≤ b := Int.le_of_mul_le_mul_left h hg
theorem mul_pos_cancel {g c : Int} (hg : 0 < g) (h : 0 < g * c) : 0 < c := by
  rcases Int.lt_or_le 0 c with h1 | h1
  · exact h1
  · have := Int.mul_le_mul_of_nonneg_left h1 (Int.le_of_lt hg)
    rw [Int.mul_zero] at this
    omega
theorem le_mul_self {g c : Int} (hg : 0 < g) (hc : 0 ≤ c) : c ≤ g * c := by
  have := Int.mul_le_mul_of_nonneg_right (show 1 ≤ g by omega) hc
  rw [Int.one_mul] at this
  exact this
theorem lt1000 {x : Int} (h : x < 2 ^ 60) : x < 2 ^ 1000 := Int.lt_of_lt_of_le h (by decide +kernel)
theorem bt_le {k : Nat} {a b : Int} (h : Bt k b) (h0 : 0 ≤ a) (hl : a ≤ b) : Bt k a := by
  unfold Bt at *
  omega
end DL

namespace K19
open PySem PySem.Spec PyProof.Rows L2 TL DL
/-! ### gcd, Bezout -/
theorem gcd_step (a b : Int) : Int.gcd b (a.fmod b) = Int.gcd a b := by
  refine Nat.dvd_antisymm ?_ ?_
  · have h1 : (Int.gcd b (a.fmod b) : Int) ∣ b := Int.gcd_dvd_left ..
    have h2 : (Int.gcd b (a.fmod b) : Int) ∣ a.fmod b := Int.gcd_dvd_right ..
    have h3 := Int.dvd_add h2 (Int.dvd_trans h1 (Int.dvd_mul_right b (a.fdiv b)))
    rw [Int.fmod_add_mul_fdiv] at h3
    exact Int.dvd_gcd h3 h1
  · have h1 : (Int.gcd a b : Int) ∣ a := Int.gcd_dvd_left ..
    have h2 : (Int.gcd a b : Int) ∣ b := Int.gcd_dvd_right ..
    have e : a.fmod b = a - b * a.fdiv b := by have := Int.fmod_add_mul_fdiv a b; omega
    refine Int.dvd_gcd h2 ?_
    rw [e]
    exact Int.dvd_sub h1 (Int.dvd_trans h2 (Int.dvd_mul_right ..))
theorem fmod_lt {a b : Int} (h : b ≠ 0) : (a.fmod b).natAbs < b.natAbs := by
  have e := Int.fmod_eq_emod (a := a) (b := b)
  have h1 := Int.emod_nonneg a h
  have h2 := Int.emod_lt a h
  rw [e]
  split
  · omega
  · next hn =>
    have h3 : ¬ b ∣ a := fun hd => hn (.inr hd)
    have h4 : a % b ≠ 0 := fun hz => h3 (Int.dvd_of_emod_eq_zero hz)
    have h5 : ¬ 0 ≤ b := fun hz => hn (.inl hz)
    omega
theorem bezout : ∀ (n : Nat) (a b : Int), b.natAbs ≤ n → ∃ x y : Int, x * a + y * b = Int.gcd a b
  | 0, a, b, h => by
    have hb : b = 0 := by omega
    subst hb
    rw [Int.gcd_zero_right]
    rcases Int.le_total 0 a with h1 | h1
    · exact ⟨1, 0, by omega⟩
    · exact ⟨-1, 0, by omega⟩
  | n + 1, a, b, h => by
    by_cases hb : b = 0
    · subst hb
      rw [Int.gcd_zero_right]
      rcases Int.le_total 0 a with h1 | h1
      · exact ⟨1, 0, by omega⟩
      · exact ⟨-1, 0, by omega⟩
    · obtain ⟨x, y, e⟩ := bezout n b (a.fmod b) (by have := fmod_lt (a := a) hb; omega)
      rw [gcd_step] at e
      refine ⟨y, x - y * a.fdiv b, ?_⟩
      have e2 := Int.fmod_add_mul_fdiv a b
      rw [← e]
      have e3 : a.fmod b = a - b * a.fdiv b := by omega
      rw [e3]
      generalize a.fdiv b = f
      grind
/-- every rest is met -/
theorem rest_met {u v : Int} (hv : 0 < v) (hg : Int.gcd u v = 1) (h : Int) : ∃ m j : Int, 0 ≤ m ∧ m < v ∧ m * u = j * v + h := by
  obtain ⟨x, y, e⟩ := bezout _ u v (Nat.le_refl _)
  rw [hg] at e
  refine ⟨(x * h) % v, -(y * h) - (x * h) / v * u, Int.emod_nonneg _ (by omega), Int.emod_lt_of_pos _ hv, ?_⟩
  have e2 := Int.emod_add_mul_ediv (x * h) v
  generalize (x * h) % v = r at *
  generalize (x * h) / v = d at *
  have e3 : r = x * h - v * d := by omega
  rw [e3]
  have e4 : x * u * h + y * v * h = h := by
    have : (x * u + y * v) * h = (1 : Nat) * h := by rw [e]
    grind
  grind
/-! ### the nearest -/
theorem nearest {v : Int} (hv : 0 < v) (t : Int) : ∃ k : Int, t - k * v ≤ v / 2 ∧ k * v - t ≤ v / 2 := by
  have h1 := Int.emod_nonneg t (show v ≠ 0 by omega)
  have h2 := Int.emod_lt_of_pos t hv
  have h3 := Int.emod_add_mul_ediv t v
  have e : v * (t / v) = t / v * v := Int.mul_comm _ _
  by_cases h : t % v ≤ v / 2
  · exact ⟨t / v, by omega, by omega⟩
  · refine ⟨t / v + 1, ?_, ?_⟩ <;> rw [Int.add_mul, Int.one_mul] <;> omega
theorem farthest {v h j t k : Int} (hv : 0 < v) (hh : h = v / 2) (e : t = j * v + h) : h ≤ t - k * v ∨ h ≤ k * v - t := by
  rcases Int.lt_or_le k (j + 1) with h1 | h1
  · left
    have := Int.mul_le_mul_of_nonneg_right (show k ≤ j by omega) (Int.le_of_lt hv)
    omega
  · right
    have := Int.mul_le_mul_of_nonneg_right h1 (Int.le_of_lt hv)
    rw [Int.add_mul, Int.one_mul] at this
    omega
/-! ### the law's way of asking and the program's -/
structure Slk (p q : Int) : Prop where
  q0 : 0 < q
  p0 : 0 < p
def kOf (S O p q r s m : Int) : Int := ((m * q - p) * s * O / (S * q) + r) / s
def liesAt (S O p q r s m : Int) : Prop := (m * q + p) * s * O ≤ (kOf S O p q r s m * s + r) * (S * q)
def fits (v u p q r s : Int) : Prop := (v / 2 * q + p * u) * s ≤ r * q * v
theorem k_max {S O p q r s m k : Int} (hS : 0 < S) (hq : 0 < q) (hs : 0 < s) : (k * s - r) * (S * q) ≤ (m * q - p) * s * O ↔ k ≤ kOf S O p q r s m := by
  have hU : 0 < S * q := Int.mul_pos hS hq
  unfold kOf
  rw [Int.le_ediv_iff_mul_le hs]
  have h1 : k * s ≤ (m * q - p) * s * O / (S * q) + r ↔ k * s - r ≤ (m * q - p) * s * O / (S * q) := by omega
  rw [h1, Int.le_ediv_iff_mul_le hU]
theorem idA (k s r g v q : Int) : (k * s - r) * (g * v * q) = g * ((k * s - r) * (v * q)) := by grind
theorem idB (m q p s g u : Int) : (m * q - p) * s * (g * u) = g * ((m * q - p) * s * u) := by grind
theorem idC (k s r g v q : Int) : (k * s + r) * (g * v * q) = g * ((k * s + r) * (v * q)) := by grind
theorem idD (m q p s g u : Int) : (m * q + p) * s * (g * u) = g * ((m * q + p) * s * u) := by grind
theorem idE (k s r v q m p u : Int) : (m * q - p) * s * u - (k * s - r) * (v * q) = (r * q * v - p * u * s) - (k * v - m * u) * (q * s) := by grind
theorem idF (k s r v q m p u : Int) : (k * s + r) * (v * q) - (m * q + p) * s * u = (r * q * v - p * u * s) - (m * u - k * v) * (q * s) := by grind
theorem idG (h q p u s : Int) : (h * q + p * u) * s = h * (q * s) + p * u * s := by grind
theorem le_g {g a b : Int} (hg : 0 < g) : g * a ≤ g * b ↔ a ≤ b := ⟨fun h => Int.le_of_mul_le_mul_left h hg, fun h => Int.mul_le_mul_of_nonneg_left h (Int.le_of_lt hg)⟩
theorem lies_iff {g v u p q r s : Int} (hg : 0 < g) (hv : 0 < v) (hu : 0 < u) (hc : Int.gcd u v = 1) (hq : 0 < q) (hs : 0 < s) :
    (∀ m : Int, 0 ≤ m → m < g * v → liesAt (g * v) (g * u) p q r s m) ↔ fits v u p q r s := by
  have hqs : 0 < q * s := Int.mul_pos hq hs
  have hS : 0 < g * v := Int.mul_pos hg hv
  -- what it says of a k
  have low : ∀ k m : Int, k ≤ kOf (g * v) (g * u) p q r s m ↔ (k * v - m * u) * (q * s) ≤ r * q * v - p * u * s := fun k m => by
    rw [← k_max hS hq hs, idA, idB, le_g hg]
    have := idE k s r v q m p u
    omega
  have high : ∀ k m : Int, (m * q + p) * s * (g * u) ≤ (k * s + r) * (g * v * q) ↔ (m * u - k * v) * (q * s) ≤ r * q * v - p * u * s := fun k m => by
    rw [idC, idD, le_g hg]
    have := idF k s r v q m p u
    omega
  unfold fits
  rw [idG]
  constructor
  · intro h
    obtain ⟨m, j, m0, m1, e⟩ := rest_met hv hc (v / 2)
    have hm : m < g * v := by
      have := Int.mul_le_mul_of_nonneg_right (show 1 ≤ g by omega) (Int.le_of_lt hv)
      rw [Int.one_mul] at this
      omega
    have h1 := (high _ m).mp (h m m0 hm)
    have h2 := (low (kOf (g * v) (g * u) p q r s m) m).mp (Int.le_refl _)
    generalize kOf (g * v) (g * u) p q r s m = k at h1 h2
    rcases farthest (k := k) hv rfl e with h3 | h3
    · have := Int.mul_le_mul_of_nonneg_right h3 (Int.le_of_lt hqs)
      omega
    · have := Int.mul_le_mul_of_nonneg_right h3 (Int.le_of_lt hqs)
      omega
  · intro h m _ _
    obtain ⟨k, h1, h2⟩ := nearest hv (m * u)
    have a1 := Int.mul_le_mul_of_nonneg_right h1 (Int.le_of_lt hqs)
    have a2 := Int.mul_le_mul_of_nonneg_right h2 (Int.le_of_lt hqs)
    have hk : k ≤ kOf (g * v) (g * u) p q r s m := (low k m).mpr (by omega)
    have hh := (high k m).mpr (by omega)
    unfold liesAt
    have hm2 := Int.mul_le_mul_of_nonneg_right (Int.mul_le_mul_of_nonneg_right hk (Int.le_of_lt hs)) (Int.le_of_lt (Int.mul_pos hS hq))
    have hm3 : (k * s + r) * (g * v * q) ≤ (kOf (g * v) (g * u) p q r s m * s + r) * (g * v * q) := by
      rw [Int.add_mul, Int.add_mul]
      omega
    omega
end K19

namespace K19
open PySem PySem.Spec PyProof.Rows L2 TL DL
/-! ### the powers -/
theorem pow_pos' {a : Int} (h : 0 < a) (n : Nat) : 0 < a ^ n := Int.pow_pos h
theorem co_pow {u v : Int} (h : Int.gcd u v = 1) (n : Nat) : Int.gcd (u ^ n) (v ^ n) = 1 := by
  have h1 : Nat.Coprime u.natAbs v.natAbs := h
  have h2 : Nat.Coprime (u.natAbs ^ n) (v.natAbs ^ n) := Nat.Coprime.pow n n h1
  show Nat.gcd (u ^ n).natAbs (v ^ n).natAbs = 1
  rw [Int.natAbs_pow, Int.natAbs_pow]
  exact h2
theorem shared_is {g v u : Int} (hg : 0 < g) (hc : Int.gcd u v = 1) (n : Nat) : (Int.gcd ((g * v) ^ n) ((g * u) ^ n) : Int) = g ^ n := by
  rw [Int.mul_pow, Int.mul_pow, Int.gcd_mul_left, Int.gcd_comm, co_pow hc, Nat.mul_one]
  exact Int.natAbs_of_nonneg (Int.le_of_lt (pow_pos' hg n))
/-! ### the program's loop -/
def fitsN (v u p q r s : Int) (n : Nat) : Prop := fits (v ^ n) (u ^ n) p q r s
theorem fitsN_one (p q r s : Int) (n m : Nat) (h : fitsN 1 1 p q r s n) : fitsN 1 1 p q r s m := by
  unfold fitsN at *
  rw [Int.one_pow] at *
  exact h
theorem halfmul {V v h e : Int} (hV : V = 2 * h + e) (he : e = 0 ∨ e = 1) : (V * v) / 2 = h * v + e * v / 2 := by
  have : V * v = e * v + h * v * 2 := by rw [hV]; rcases he with rfl | rfl <;> grind
  rw [this, Int.add_mul_ediv_right _ _ (by decide)]
  omega
theorem uv_ge {u v : Int} (hu : 1 ≤ u) (hv : u < v) : v - 1 ≤ u * (v - u) := by
  have h := Int.mul_nonneg (show 0 ≤ u - 1 by omega) (show 0 ≤ v - u - 1 by omega)
  have e : (u - 1) * (v - u - 1) = u * (v - u) - v + 1 := by grind
  omega
theorem stepA (h q p U u v : Int) (f : Int) : (h * q + p * U) * v - ((h * v + f) * q + p * (U * u)) = p * (U * (v - u)) - f * q := by grind
theorem stepB (a s v : Int) : a * s * v = a * v * s := by grind
theorem stepC (r q V v : Int) : r * q * V * v = r * q * (V * v) := by grind
theorem fits_step {V U v u p q r s : Int} (hs : 0 < s) (hq : 0 < q) (hp : q ≤ p) (hu : 1 ≤ u) (hv : u < v) (hU : u ≤ U) (h : fits V U p q r s) : fits (V * v) (U * u) p q r s := by
  unfold fits at *
  have e1 : V = 2 * (V / 2) + V % 2 := by omega
  have e2 : V % 2 = 0 ∨ V % 2 = 1 := by omega
  rw [halfmul e1 e2]
  have h1 := Int.mul_le_mul_of_nonneg_right h (show 0 ≤ v by omega)
  rw [stepC, stepB] at h1
  refine Int.le_trans (Int.mul_le_mul_of_nonneg_right ?_ (Int.le_of_lt hs)) h1
  generalize V / 2 = hh at *
  generalize V % 2 = e at *
  have h2 := stepA hh q p U u v (e * v / 2)
  have h3 : v - 1 ≤ U * (v - u) := Int.le_trans (uv_ge hu hv) (Int.mul_le_mul_of_nonneg_right hU (by omega))
  have h4 : e * v / 2 ≤ v - 1 := by rcases e2 with rfl | rfl <;> omega
  have h6 : 0 ≤ U * (v - u) := by omega
  have h5 : e * v / 2 * q ≤ p * (U * (v - u)) := by
    refine Int.le_trans (Int.mul_le_mul_of_nonneg_right (Int.le_trans h4 h3) (Int.le_of_lt hq)) ?_
    rw [Int.mul_comm p]
    exact Int.mul_le_mul_of_nonneg_left hp h6
  omega
theorem le_pow {u : Int} (hu : 1 ≤ u) : ∀ n : Nat, u ≤ u ^ (n + 1)
  | 0 => by rw [Int.pow_succ, Int.pow_zero, Int.one_mul]; exact Int.le_refl _
  | n + 1 => by
    have h := le_pow hu n
    rw [Int.pow_succ]
    have := Int.mul_le_mul_of_nonneg_left hu (show 0 ≤ u ^ (n + 1) by omega)
    rw [Int.mul_one] at this
    omega
theorem fitsN_all {v u p q r s : Int} (hs : 0 < s) (hq : 0 < q) (hp : q ≤ p) (hu : 1 ≤ u) (hv : u < v) (h : fitsN v u p q r s 1) : ∀ n, fitsN v u p q r s (n + 1)
  | 0 => h
  | n + 1 => by
    have ih := fitsN_all hs hq hp hu hv h n
    unfold fitsN at *
    rw [Int.pow_succ v, Int.pow_succ u]
    exact fits_step hs hq hp hu hv (le_pow hu n) ih
/-! ### it ends -/
theorem bernB (n v U : Int) : (n + v) * v = (n + 1 + v) * v - v := by grind
theorem bern {v u : Int} (hv : 1 ≤ v) (hu : v < u) : ∀ n : Nat, ((n : Int) + v) * v ^ n ≤ v * u ^ n
  | 0 => by simp
  | n + 1 => by
    have ih := bern hv hu n
    rw [Int.pow_succ, Int.pow_succ]
    have hV : 0 < v ^ n := pow_pos' (by omega) n
    generalize v ^ n = V at *
    generalize u ^ n = U at *
    have h1 := Int.mul_le_mul_of_nonneg_right ih (show 0 ≤ u by omega)
    have h2 := Int.mul_le_mul_of_nonneg_left (show v + 1 ≤ u by omega) (show 0 ≤ ((n : Int) + v) * V from Int.mul_nonneg (by omega) (Int.le_of_lt hV))
    have e1 : v * (U * u) = v * U * u := by grind
    have e2 : ((n : Int) + v) * V * (v + 1) = ((n : Int) + 1 + v) * (V * v) + n * V := by grind
    have h3 : 0 ≤ (n : Int) * V := Int.mul_nonneg (by omega) (Int.le_of_lt hV)
    push_cast
    omega
theorem endA (h q p U s : Int) : (h * q + p * U) * s = h * (q * s) + p * U * s := by grind
theorem endB (p s v U : Int) : p * U * s * v = p * s * (v * U) := by grind
theorem endC (p s n v V : Int) : p * s * ((n + v) * V) = p * s * (n + v) * V := by grind
theorem endD (r q V v : Int) : r * q * V * v = r * q * v * V := by grind
theorem endE (q s x : Int) : q * s * x = q * (s * x) := by grind
theorem endF (r q v : Int) : r * q * v = q * (r * v) := by grind
theorem fits_end {g v u p q r s N : Int} {n : Nat} (hg : 0 < g) (hs : 0 < s) (hq : 0 < q) (hp : q ≤ p) (hv : 1 ≤ v) (hu : v < u) (hN : r * (g * v) ≤ (N + g * v) * s) (h : fitsN v u p q r s n) : (n : Int) ≤ N := by
  unfold fitsN fits at h
  have hb := bern hv hu n
  have hV : 0 < v ^ n := pow_pos' (by omega) n
  generalize v ^ n = V at *
  generalize u ^ n = U at *
  rw [endA] at h
  have h0 : 0 ≤ V / 2 * (q * s) := Int.mul_nonneg (by omega) (Int.le_of_lt (Int.mul_pos hq hs))
  have h1 := Int.mul_le_mul_of_nonneg_right (show p * U * s ≤ r * q * V by omega) (show 0 ≤ v by omega)
  rw [endB, endD] at h1
  have hps : 0 < p * s := Int.mul_pos (by omega) hs
  have h2 := Int.mul_le_mul_of_nonneg_left hb (Int.le_of_lt hps)
  rw [endC] at h2
  have h3 := Int.le_of_mul_le_mul_right (Int.le_trans h2 h1) hV
  have h4 : q * s * ((n : Int) + v) ≤ p * s * ((n : Int) + v) := Int.mul_le_mul_of_nonneg_right (Int.mul_le_mul_of_nonneg_right hp (Int.le_of_lt hs)) (by omega)
  have h5 := Int.le_trans h4 h3
  rw [endE, endF] at h5
  have h6 := Int.le_of_mul_le_mul_left h5 hq
  have h7 := Int.mul_le_mul_of_nonneg_left h6 (Int.le_of_lt hg)
  have e1 : g * (r * v) = r * (g * v) := by grind
  have e2 : g * (s * ((n : Int) + v)) = (g * n + g * v) * s := by grind
  rw [e1, e2] at h7
  have h8 := Int.le_of_mul_le_mul_right (Int.le_trans h7 hN) hs
  have h9 := Int.mul_le_mul_of_nonneg_right (show 1 ≤ g by omega) (show 0 ≤ (n : Int) by omega)
  rw [Int.one_mul] at h9
  omega
end K19

namespace K19
open PySem PySem.Spec PyProof.Rows L2 TL DL
local macro_rules | `(tactic| walk_at "st1") => `(tactic| first
  | with_reducible refine r_sq ?_ | with_reducible refine r_nx ?_ | with_reducible refine r_rt ?_ | with_reducible refine r_rtN ?_ | with_reducible refine r_ex ?_ | with_reducible refine r_as ?_ | with_reducible refine r_bk ?_ | with_reducible refine r_ct ?_
  | ((with_reducible apply r_var); exact rfl) | with_reducible refine r_c ?_ | with_reducible refine r_op ?_ | with_reducible refine r_un ?_ | with_reducible refine r_neg ?_
  | ((with_reducible refine r_dgN rfl ?_); (try simp only [List.set]))
  | with_reducible refine r_dgSub ?_ | with_reducible refine r_dgT rfl ?_ | with_reducible refine r_dga0 ?_ | with_reducible refine r_dga1 ?_ | with_reducible refine r_auS ?_ | ((with_reducible apply r_au); exact rfl)
  | with_reducible refine r_par ?_ | ((with_reducible refine r_kPar rfl ?_); (try simp only [List.set]))
  | with_reducible refine r_addI ?_ | with_reducible refine r_addS ?_ | with_reducible refine r_addT ?_ | with_reducible refine r_addL ?_ | with_reducible refine r_subI ?_ | with_reducible refine r_mulI ?_ | with_reducible refine r_fdiv ?_ | with_reducible refine r_mod ?_ | with_reducible refine r_pow ?_ | with_reducible refine r_shl ?_
  | with_reducible refine r_eqI ?_ | with_reducible refine r_eqS ?_ | with_reducible refine r_eqB ?_ | with_reducible refine r_neI ?_ | with_reducible refine r_neS ?_ | with_reducible refine r_neB ?_ | with_reducible refine r_ltI ?_ | with_reducible refine r_gtI ?_ | with_reducible refine r_leI ?_ | with_reducible refine r_geI ?_ | with_reducible refine r_isN ?_ | with_reducible refine r_notN ?_ | with_reducible refine r_inS ?_
  | with_reducible refine r_test ?_ | with_reducible refine r_kB ?_ | with_reducible refine r_tru ?_ | with_reducible refine r_kTb ?_ | with_reducible refine r_kTi ?_ | with_reducible refine r_kTn ?_ | with_reducible refine r_kTl ?_ | with_reducible refine r_kTt ?_ | with_reducible refine r_kTs ?_ | with_reducible refine r_not ?_ | with_reducible refine r_notV ?_ | with_reducible refine r_yes ?_
  | with_reducible refine r_nil ?_ | with_reducible refine r_cons ?_ | with_reducible refine r_tup ?_ | with_reducible refine r_lst ?_ | with_reducible refine r_newF ?_ | with_reducible refine r_cb ?_
  | with_reducible refine r_lenS ?_ | with_reducible refine r_lenL ?_ | with_reducible refine r_lenT ?_ | with_reducible refine r_lenSrc ?_ | with_reducible refine r_abs ?_ | with_reducible refine r_min2 ?_ | with_reducible refine r_max2 ?_ | with_reducible refine r_intI ?_ | with_reducible refine r_str ?_ | with_reducible refine r_tupT ?_ | with_reducible refine r_tupL ?_ | with_reducible refine r_divmod ?_
  | with_reducible refine r_sl ?_ | with_reducible refine r_noP ?_ | with_reducible refine r_part ?_ | with_reducible refine r_kP ?_ | with_reducible refine r_slS ?_ | with_reducible refine r_slT ?_ | with_reducible refine r_slL ?_ | with_reducible refine r_slSrc ?_
  | with_reducible refine r_bm ?_ | with_reducible refine r_tyS ?_ | with_reducible refine r_starts ?_ | with_reducible refine r_count ?_ | with_reducible refine r_call ?_ | with_reducible refine r_for ?_ | with_reducible refine r_seq ?_ | with_reducible refine r_kIt ?_ | with_reducible refine r_kIl ?_ | with_reducible refine r_kIs ?_ | with_reducible refine r_kIsrc ?_ | with_reducible refine r_r1 ?_ | with_reducible refine r_r2 ?_ | with_reducible refine r_lc ?_
  | with_reducible refine lit0 ?_ | with_reducible refine lit1 ?_ | with_reducible refine lit2 ?_ | with_reducible refine lit3 ?_ | with_reducible refine lit4 ?_ | with_reducible refine lit5 ?_ | with_reducible refine lit6 ?_ | with_reducible refine lit7 ?_
  | with_reducible refine r_callX ?_ | with_reducible refine r_callE ?_ | with_reducible refine r_try ?_ | with_reducible refine r_isE ?_ | with_reducible refine r_fld ?_ | with_reducible refine r_excK ?_ | with_reducible refine r_raise ?_
  | with_reducible refine r_subB ?_ | with_reducible refine r_r3 ?_ | with_reducible refine r_rev ?_ | with_reducible refine r_kRv ?_
  | fail)
local macro_rules | `(tactic| walk_at "st") => `(tactic| repeat (first | walk_at "st1" | dsimp only))
local macro_rules | `(tactic| walk_at "go") => `(tactic| (simp only [dstart, dEnd, List.map_cons, List.map_nil, List.length_cons, List.length_nil, Nat.reduceAdd, Nat.reduceSub, Nat.zero_add, List.replicate, List.cons_append, List.nil_append]; walk_at "st"))

local macro_rules | `(tactic| walk_at "bt") => `(tactic| first | with_reducible assumption | ((with_reducible apply bt_mul) <;> walk_at "bt") | ((with_reducible apply bt_sub) <;> walk_at "bt") | ((with_reducible apply bt_add) <;> walk_at "bt") | ((with_reducible apply bt_neg) <;> walk_at "bt") | ((with_reducible apply bt_abs) <;> walk_at "bt") | ((with_reducible apply bt_fdiv) <;> walk_at "bt") | exact bt_lit 64 (by decide +kernel))
local macro_rules | `(tactic| walk_at "cm") => `(tactic| ((with_reducible refine And.intro ?_ ?_); (focus ((with_reducible apply cm_ok) <;> first | decide | walk_at "bt"))))
local macro_rules | `(tactic| walk_at "sm") => `(tactic| repeat (first | walk_at "st1" | ((with_reducible apply r_idxT); exact rfl) | ((with_reducible apply r_idxL); exact rfl) | dsimp only | walk_at "cm"))

/-! ### the classes -/
--ISX BadNumber
abbrev isl : List Str := ["BadNumber"]
def isx : Str → Option Bool := isxOf isl
instance decFits (v u p q r s : Int) : Decidable (fits v u p q r s) := by unfold fits; infer_instance
instance decFitsN (v u p q r s : Int) (n : Nat) : Decidable (fitsN v u p q r s n) := by unfold fitsN; infer_instance
/-! ### specs -/
def slD (p q : Int) : D := .tup [.int p, .int q]
def gaD (b p q : Int) : D := .tup [.int b, slD p q]
def slackW : List Nat := [115, 108, 97, 99, 107]
def xSlack : DX := ⟨"BadNumber", ["what"], [.str slackW]⟩
/-- the bases b = g v, c = g u -/
structure Bs (b c g v u : Int) : Prop where
  eb : b = g * v
  ec : c = g * u
  g0 : 0 < g
  v0 : 0 < v
  u0 : 0 < u
  co : Int.gcd u v = 1
  b1 : b ≤ 36
  c1 : c ≤ 36
/-- slacks of at least 1 -/
structure Ss (p q : Int) : Prop where
  q0 : 0 < q
  qp : q ≤ p
  pb : Bt 64 p
  qb : Bt 64 q
inductive Told (v u p q r s : Int) : D → Prop
  | non (h : ∀ n, fitsN v u p q r s n) : Told v u p q r s .non
  | at (n : Nat) (h : ∀ m, m < n → fitsN v u p q r s m) (hn : ¬ fitsN v u p q r s n) : Told v u p q r s (.int n)
def sp_gcd_of : DSp := fun ds M Q _ => ∃ (a b : Int), ds = [.int a, .int b] ∧ Q (.int (Int.gcd a b : Int)) M
def sp_farthest_fits : DSp := fun ds M Q _ => ∃ (g v u p q r s : Int), ds = [.int (g * v), .int (g * u), slD p q, slD r s] ∧ 0 < g ∧ 0 < v ∧ 0 < u ∧ Int.gcd u v = 1 ∧ Bt 2000 g ∧ Bt 2000 v ∧ Bt 2000 u ∧ Bt 64 p ∧ Bt 64 q ∧ Bt 64 r ∧ Bt 64 s ∧ Q (.bl (decide (fits v u p q r s))) M
def sp_as_good : DSp := fun ds M Q E => ∃ (b c p q r s : Int), ds = [.int b, slD p q, .int c, slD r s] ∧
  (((p < q ∨ r < s) ∧ E xSlack M) ∨ (∃ g v u, Bs b c g v u ∧ Ss p q ∧ Ss r s ∧ r * b ≤ (108 + b) * s ∧ ∀ w, Told v u p q r s w → Q w M))
def sp_law_fault : ESp := fun a d cn ds M Q _ => ∃ (y : D), ds = [.exc a d "BadNumber" ["what"] [y]] ∧ cn = "BadNumber" ∧ Q (.tup [.str [66, 97, 100, 78, 117, 109, 98, 101, 114], y]) M
def t_gcd_of : DTS := (dSq (dWhile (dTest (dOp dNe (dVar 1) (dC (.int 0)))) (dPar 0 1 (dCons (dVar 1) (dCons (dOp dMod (dVar 0) (dVar 1)) dNil)))) (dRt (dCB dAbs (dCons (dVar 0) dNil))))
def t_farthest_fits : DTS := (dSq (dAs (dCall sp_gcd_of [] dX0 (dCons (dVar 0) (dCons (dVar 1) dNil))) (dgN 4)) (dSq (dAs (dOp dFdiv (dVar 0) (dVar 4)) (dgN 5)) (dSq (dAs (dOp dFdiv (dVar 1) (dVar 4)) (dgN 6)) (dSq (dAs (dOp (dAdd false) (dOp (dMul false) (dOp dFdiv (dVar 5) (dC (.int 2))) (dOp dIdx (dVar 2) (dC (.int 1)))) (dOp (dMul false) (dOp dIdx (dVar 2) (dC (.int 0))) (dVar 6))) (dgN 7)) (dRt (dOp dLe (dOp (dMul false) (dVar 7) (dOp dIdx (dVar 3) (dC (.int 1)))) (dOp (dMul false) (dOp (dMul false) (dOp dIdx (dVar 3) (dC (.int 0))) (dOp dIdx (dVar 2) (dC (.int 1)))) (dVar 5))))))))
def t_as_good (W : DWX) : DTS := (dSq (dIfS (dOr (dTest (dOp dLt (dOp dIdx (dVar 1) (dC (.int 0))) (dOp dIdx (dVar 1) (dC (.int 1))))) (dTest (dOp dLt (dOp dIdx (dVar 3) (dC (.int 0))) (dOp dIdx (dVar 3) (dC (.int 1)))))) (dRaise "BadNumber" ["what"] W (dCons (dC (.str [115, 108, 97, 99, 107])) dNil)) dNx) (dSq (dAs (dC (.int 1)) (dgN 4)) (dSq (dAs (dC (.int 1)) (dgN 5)) (dSq (dAs (dC (.int 0)) (dgN 6)) (dSq (dWhile (dTru (dCall sp_farthest_fits [] dX0 (dCons (dVar 4) (dCons (dVar 5) (dCons (dVar 1) (dCons (dVar 3) dNil)))))) (dSq (dIfS (dOr (dTest (dOp dEq (dVar 0) (dVar 2))) (dAnd (dTest (dOp dGt (dVar 0) (dVar 2))) (dTest (dOp dEq (dVar 6) (dC (.int 1)))))) (dRt (dC .non)) dNx) (dSq (dAs (dOp (dMul false) (dVar 4) (dVar 0)) (dgN 4)) (dSq (dAs (dOp (dMul false) (dVar 5) (dVar 2)) (dgN 5)) (dAu 6 dIAdd (dC (.int 1))))))) (dRt (dVar 6)))))))
def t_law_fault (a d : Addr) (cn : Str) : DTS := (dSq (dAs (dLst true dNil) (dgN 1)) (dSq (dIfS (dTru (dIsE a d cn (isB cn "TooMany") (dVar 0))) (dEx (dBM "list" dAppend (dVar 1) (dCons (dTup (dCons (dC (.str [84, 111, 111, 77, 97, 110, 121])) (dCons (dFld a d cn "what" (dVar 0)) dNil))) dNil))) dNx) (dSq (dIfS (dTru (dIsE a d cn (isB cn "BadText") (dVar 0))) (dEx (dBM "list" dAppend (dVar 1) (dCons (dTup (dCons (dC (.str [66, 97, 100, 84, 101, 120, 116])) (dCons (dFld a d cn "line" (dVar 0)) dNil))) dNil))) dNx) (dSq (dIfS (dTru (dIsE a d cn (isB cn "BadMeaning") (dVar 0))) (dEx (dBM "list" dAppend (dVar 1) (dCons (dTup (dCons (dC (.str [66, 97, 100, 77, 101, 97, 110, 105, 110, 103])) (dCons (dFld a d cn "line" (dVar 0)) (dCons (dFld a d cn "what" (dVar 0)) dNil)))) dNil))) dNx) (dSq (dIfS (dTru (dIsE a d cn (isB cn "BadPolynomial") (dVar 0))) (dEx (dBM "list" dAppend (dVar 1) (dCons (dTup (dCons (dC (.str [66, 97, 100, 80, 111, 108, 121, 110, 111, 109, 105, 97, 108])) (dCons (dFld a d cn "what" (dVar 0)) dNil))) dNil))) dNx) (dSq (dIfS (dTru (dIsE a d cn (isB cn "BadNumber") (dVar 0))) (dEx (dBM "list" dAppend (dVar 1) (dCons (dTup (dCons (dC (.str [66, 97, 100, 78, 117, 109, 98, 101, 114])) (dCons (dFld a d cn "what" (dVar 0)) dNil))) dNil))) dNx) (dSq (dIfS (dTru (dIsE a d cn (isB cn "BadMove") (dVar 0))) (dEx (dBM "list" dAppend (dVar 1) (dCons (dTup (dCons (dC (.str [66, 97, 100, 77, 111, 118, 101])) (dCons (dFld a d cn "what" (dVar 0)) dNil))) dNil))) dNx) (dSq (dIfS (dTru (dIsE a d cn (isB cn "BadBox") (dVar 0))) (dEx (dBM "list" dAppend (dVar 1) (dCons (dTup (dCons (dC (.str [66, 97, 100, 66, 111, 120])) (dCons (dFld a d cn "what" (dVar 0)) dNil))) dNil))) dNx) (dSq (dIfS (dTru (dIsE a d cn (isB cn "BadAsk") (dVar 0))) (dEx (dBM "list" dAppend (dVar 1) (dCons (dTup (dCons (dC (.str [66, 97, 100, 65, 115, 107])) (dCons (dFld a d cn "what" (dVar 0)) dNil))) dNil))) dNx) (dSq (dIfS (dTru (dIsE a d cn (isB cn "BadReading") (dVar 0))) (dEx (dBM "list" dAppend (dVar 1) (dCons (dTup (dCons (dC (.str [66, 97, 100, 82, 101, 97, 100, 105, 110, 103])) (dCons (dFld a d cn "unknown" (dVar 0)) (dCons (dFld a d cn "place" (dVar 0)) dNil)))) dNil))) dNx) (dSq (dIfS (dTru (dIsE a d cn (isB cn "BadCode") (dVar 0))) (dEx (dBM "list" dAppend (dVar 1) (dCons (dTup (dCons (dC (.str [66, 97, 100, 67, 111, 100, 101])) (dCons (dFld a d cn "line" (dVar 0)) dNil))) dNil))) dNx) (dSq (dIfS (dTru (dIsE a d cn (isB cn "BadPaper") (dVar 0))) (dEx (dBM "list" dAppend (dVar 1) (dCons (dTup (dCons (dC (.str [66, 97, 100, 80, 97, 112, 101, 114])) (dCons (dFld a d cn "line" (dVar 0)) dNil))) dNil))) dNx) (dSq (dIfS (dTru (dIsE a d cn (isB cn "BadCourse") (dVar 0))) (dEx (dBM "list" dAppend (dVar 1) (dCons (dTup (dCons (dC (.str [66, 97, 100, 67, 111, 117, 114, 115, 101])) (dCons (dFld a d cn "unknown" (dVar 0)) (dCons (dFld a d cn "place" (dVar 0)) dNil)))) dNil))) dNx) (dSq (dIfS (dTru (dIsE a d cn (isB cn "BadDesk") (dVar 0))) (dEx (dBM "list" dAppend (dVar 1) (dCons (dTup (dCons (dC (.str [66, 97, 100, 68, 101, 115, 107])) (dCons (dFld a d cn "what" (dVar 0)) dNil))) dNil))) dNx) (dSq (dIfS (dOr (dNot (dTru (dIsE a d cn (isB cn "ApartError") (dVar 0)))) (dOr (dNot (dTru (dIsE a d cn true (dVar 0)))) (dTest (dOp dNe (dCB dLen (dCons (dVar 1) dNil)) (dC (.int 1)))))) (dRt (dTup (dCons (dC (.str [115, 101, 118, 101, 114, 97, 108])) dNil))) dNx) (dRt (dOp dIdx (dVar 1) (dC (.int 0)))))))))))))))))))
theorem sem_gcd_of (ds : List D) (M : Mu) (Q : DK) (E : DXK) (h : sp_gcd_of ds M Q E) : t_gcd_of (dEnd Q) (dstart 2 ds) M := by
  obtain ⟨a, b, rfl, h⟩ := h
  unfold t_gcd_of
  walk_at "go"
  refine r_while (fun k δ M' => ∃ x y : Int, k = y.natAbs ∧ Int.gcd x y = Int.gcd a b ∧ M' = M ∧ δ = [some (.int x), some (.int y)]) _ ⟨a, b, rfl, rfl, rfl, rfl⟩ ?_
  rintro k δ M' ⟨x, y, rfl, e, rfl, rfl⟩
  walk_at "st"
  refine ⟨fun z => ?_, fun z => ?_⟩
  · have hy : y ≠ 0 := by simpa using z
    walk_at "st"
    refine ⟨hy, ?_⟩
    walk_at "st"
    exact ⟨_, fmod_lt hy, y, x.fmod y, rfl, (gcd_step x y).trans e, by simp⟩
  · have hy : y = 0 := by simpa using z
    subst hy
    walk_at "st"
    rw [Int.gcd_zero_right] at e
    rw [← e] at h
    exact Wq.now h
theorem gcd_gvu {g v u : Int} (hg : 0 < g) (hc : Int.gcd u v = 1) : (Int.gcd (g * v) (g * u) : Int) = g := by
  have h := shared_is (g := g) hg hc 1
  rw [Int.pow_succ, Int.pow_zero, Int.one_mul, Int.pow_succ, Int.pow_zero, Int.one_mul, Int.pow_succ, Int.pow_zero, Int.one_mul] at h
  exact h
theorem sem_farthest_fits (ds : List D) (M : Mu) (Q : DK) (E : DXK) (h : sp_farthest_fits ds M Q E) : t_farthest_fits (dEnd Q) (dstart 8 ds) M := by
  obtain ⟨g, v, u, p, q, r, s, rfl, hg, hv, hu, hc, bg, bv, bu, bp, bq, br, bs, h⟩ := h
  unfold t_farthest_fits slD
  walk_at "go"
  refine ⟨_, _, rfl, ?_⟩
  rw [gcd_gvu hg hc]
  walk_at "sm"
  refine ⟨cd_ok (by omega) bg (by decide), ?_⟩
  walk_at "sm"
  refine ⟨cd_ok (by omega) bg (by decide), ?_⟩
  rw [Int.mul_fdiv_cancel_left _ (show g ≠ 0 by omega), Int.mul_fdiv_cancel_left _ (show g ≠ 0 by omega)]
  walk_at "sm"
  refine ⟨cd_ok (by decide) (bt_lit 64 (by decide)) (by decide), ?_⟩
  rw [Int.fdiv_eq_ediv_of_nonneg _ (by decide : (0 : Int) ≤ 2)]
  have bh : Bt 2000 (v / 2) := by
    have := bt_fdiv (j := 2) bv
    rw [Int.fdiv_eq_ediv_of_nonneg _ (by decide : (0 : Int) ≤ 2)] at this
    exact this
  have b7 : Bt 4200 (v / 2 * q + p * u) := bt_up (bt_add (bt_mul bh bq) (bt_mul bp bu)) (by decide)
  walk_at "sm"
  exact Wq.now h
end K19

namespace K19
open PySem PySem.Spec PyProof.Rows L2 TL DL
local macro_rules | `(tactic| walk_at "st1") => `(tactic| first
  | with_reducible refine r_sq ?_ | with_reducible refine r_nx ?_ | with_reducible refine r_rt ?_ | with_reducible refine r_rtN ?_ | with_reducible refine r_ex ?_ | with_reducible refine r_as ?_ | with_reducible refine r_bk ?_ | with_reducible refine r_ct ?_
  | ((with_reducible apply r_var); exact rfl) | with_reducible refine r_c ?_ | with_reducible refine r_op ?_ | with_reducible refine r_un ?_ | with_reducible refine r_neg ?_
  | ((with_reducible refine r_dgN rfl ?_); (try simp only [List.set]))
  | with_reducible refine r_dgSub ?_ | with_reducible refine r_dgT rfl ?_ | with_reducible refine r_dga0 ?_ | with_reducible refine r_dga1 ?_ | with_reducible refine r_auS ?_ | ((with_reducible apply r_au); exact rfl)
  | with_reducible refine r_par ?_ | ((with_reducible refine r_kPar rfl ?_); (try simp only [List.set]))
  | with_reducible refine r_addI ?_ | with_reducible refine r_addS ?_ | with_reducible refine r_addT ?_ | with_reducible refine r_addL ?_ | with_reducible refine r_subI ?_ | with_reducible refine r_mulI ?_ | with_reducible refine r_fdiv ?_ | with_reducible refine r_mod ?_ | with_reducible refine r_pow ?_ | with_reducible refine r_shl ?_
  | with_reducible refine r_eqI ?_ | with_reducible refine r_eqS ?_ | with_reducible refine r_eqB ?_ | with_reducible refine r_neI ?_ | with_reducible refine r_neS ?_ | with_reducible refine r_neB ?_ | with_reducible refine r_ltI ?_ | with_reducible refine r_gtI ?_ | with_reducible refine r_leI ?_ | with_reducible refine r_geI ?_ | with_reducible refine r_isN ?_ | with_reducible refine r_notN ?_ | with_reducible refine r_inS ?_
  | with_reducible refine r_test ?_ | with_reducible refine r_kB ?_ | with_reducible refine r_tru ?_ | with_reducible refine r_kTb ?_ | with_reducible refine r_kTi ?_ | with_reducible refine r_kTn ?_ | with_reducible refine r_kTl ?_ | with_reducible refine r_kTt ?_ | with_reducible refine r_kTs ?_ | with_reducible refine r_not ?_ | with_reducible refine r_notV ?_ | with_reducible refine r_yes ?_
  | with_reducible refine r_nil ?_ | with_reducible refine r_cons ?_ | with_reducible refine r_tup ?_ | with_reducible refine r_lst ?_ | with_reducible refine r_newF ?_ | with_reducible refine r_cb ?_
  | with_reducible refine r_lenS ?_ | with_reducible refine r_lenL ?_ | with_reducible refine r_lenT ?_ | with_reducible refine r_lenSrc ?_ | with_reducible refine r_abs ?_ | with_reducible refine r_min2 ?_ | with_reducible refine r_max2 ?_ | with_reducible refine r_intI ?_ | with_reducible refine r_str ?_ | with_reducible refine r_tupT ?_ | with_reducible refine r_tupL ?_ | with_reducible refine r_divmod ?_
  | with_reducible refine r_sl ?_ | with_reducible refine r_noP ?_ | with_reducible refine r_part ?_ | with_reducible refine r_kP ?_ | with_reducible refine r_slS ?_ | with_reducible refine r_slT ?_ | with_reducible refine r_slL ?_ | with_reducible refine r_slSrc ?_
  | with_reducible refine r_bm ?_ | with_reducible refine r_tyS ?_ | with_reducible refine r_starts ?_ | with_reducible refine r_count ?_ | with_reducible refine r_call ?_ | with_reducible refine r_for ?_ | with_reducible refine r_seq ?_ | with_reducible refine r_kIt ?_ | with_reducible refine r_kIl ?_ | with_reducible refine r_kIs ?_ | with_reducible refine r_kIsrc ?_ | with_reducible refine r_r1 ?_ | with_reducible refine r_r2 ?_ | with_reducible refine r_lc ?_
  | with_reducible refine lit0 ?_ | with_reducible refine lit1 ?_ | with_reducible refine lit2 ?_ | with_reducible refine lit3 ?_ | with_reducible refine lit4 ?_ | with_reducible refine lit5 ?_ | with_reducible refine lit6 ?_ | with_reducible refine lit7 ?_
  | with_reducible refine r_callX ?_ | with_reducible refine r_callE ?_ | with_reducible refine r_try ?_ | with_reducible refine r_isE ?_ | with_reducible refine r_fld ?_ | with_reducible refine r_excK ?_ | with_reducible refine r_raise ?_
  | with_reducible refine r_subB ?_ | with_reducible refine r_r3 ?_ | with_reducible refine r_rev ?_ | with_reducible refine r_kRv ?_
  | fail)
local macro_rules | `(tactic| walk_at "st") => `(tactic| repeat (first | walk_at "st1" | dsimp only))
local macro_rules | `(tactic| walk_at "go") => `(tactic| (simp only [dstart, dEnd, List.map_cons, List.map_nil, List.length_cons, List.length_nil, Nat.reduceAdd, Nat.reduceSub, Nat.zero_add, List.replicate, List.cons_append, List.nil_append]; walk_at "st"))

local macro_rules | `(tactic| walk_at "bt") => `(tactic| first | with_reducible assumption | ((with_reducible apply bt_mul) <;> walk_at "bt") | ((with_reducible apply bt_sub) <;> walk_at "bt") | ((with_reducible apply bt_add) <;> walk_at "bt") | ((with_reducible apply bt_neg) <;> walk_at "bt") | ((with_reducible apply bt_abs) <;> walk_at "bt") | ((with_reducible apply bt_fdiv) <;> walk_at "bt") | exact bt_lit 64 (by decide +kernel))
local macro_rules | `(tactic| walk_at "cm") => `(tactic| ((with_reducible refine And.intro ?_ ?_); (focus ((with_reducible apply cm_ok) <;> first | decide | walk_at "bt"))))
local macro_rules | `(tactic| walk_at "sm") => `(tactic| repeat (first | walk_at "st1" | ((with_reducible apply r_idxT); exact rfl) | ((with_reducible apply r_idxL); exact rfl) | dsimp only | walk_at "cm"))

theorem bt_pow {k : Nat} {x : Int} (h : Bt k x) (n : Nat) : Bt (k * n + 1) (x ^ n) := by
  unfold Bt at *
  rw [Int.natAbs_pow, Nat.pow_succ, Nat.pow_mul]
  have h1 : x.natAbs ^ n ≤ (2 ^ k) ^ n := Nat.pow_le_pow_left (Nat.le_of_lt h) n
  have h2 : 0 < (2 ^ k) ^ n := Nat.pow_pos (Nat.pow_pos (by decide))
  omega
theorem bt_small {x : Int} (h0 : 0 < x) (h : x ≤ 36) : Bt 6 x := by
  show x.natAbs < 64
  omega
theorem le_mul' {g v b : Int} (e : b = g * v) (hg : 0 < g) (hv : 0 < v) : g ≤ b ∧ v ≤ b := by
  have h1 := Int.mul_le_mul_of_nonneg_left (show 1 ≤ v by omega) (show 0 ≤ g by omega)
  have h2 := Int.mul_le_mul_of_nonneg_right (show 1 ≤ g by omega) (show 0 ≤ v by omega)
  omega
theorem pow_up (g v : Int) (n : Nat) : g ^ n * v ^ n * (g * v) = g ^ (n + 1) * v ^ (n + 1) := by
  rw [Int.pow_succ, Int.pow_succ]
  generalize g ^ n = G
  generalize v ^ n = V
  grind
theorem lt_of_mul {g v u : Int} (hg : 0 < g) (h : g * v < g * u) : v < u := Int.lt_of_mul_lt_mul_left h (Int.le_of_lt hg)
theorem sem_as_good (ds : List D) (M : Mu) (Q : DK) (E : DXK) (h : sp_as_good ds M Q E) : t_as_good (fun x _ M' => E x M') (dEnd Q) (dstart 7 ds) M := by
  obtain ⟨b, c, p, q, r, s, rfl, h⟩ := h
  unfold t_as_good slD
  walk_at "go"
  refine r_if (r_or ?_)
  walk_at "sm"
  rcases h with ⟨hlow, hE⟩ | ⟨g, v, u, B, S1, S2, hN, hQ⟩
  · refine ⟨fun z => ⟨fun _ => ?_, fun z2 => Bool.noConfusion z2⟩, fun z => ?_⟩
    · refine r_raise ?_
      walk_at "st"
      exact ⟨rfl, hE⟩
    · walk_at "sm"
      refine ⟨fun z2 => ?_, fun z2 => ?_⟩
      · refine r_raise ?_
        walk_at "st"
        exact ⟨rfl, hE⟩
      · have h1 := of_decide_eq_false z
        have h2 := of_decide_eq_false z2
        omega
  · refine ⟨fun z => absurd (of_decide_eq_true z) (by have := S1.qp; omega), fun z => ?_⟩
    walk_at "sm"
    refine ⟨fun z => absurd (of_decide_eq_true z) (by have := S2.qp; omega), fun z => ?_⟩
    walk_at "sm"
    obtain ⟨eb, ec, g0, v0, u0, co, b1, c1⟩ := B
    obtain ⟨gb, vb⟩ := le_mul' eb g0 v0
    obtain ⟨_, ub⟩ := le_mul' ec g0 u0
    have sg := bt_small g0 (by omega)
    have sv := bt_small v0 (by omega)
    have su := bt_small u0 (by omega)
    refine r_while (fun k δ M' => ∃ n : Nat, k = 200 - n ∧ n ≤ 110 ∧ (∀ m, m < n → fitsN v u p q r s m) ∧ (b = c → n = 0) ∧ (c < b → n ≤ 1) ∧ M' = M ∧
      δ = [some (.int b), some (.tup [.int p, .int q]), some (.int c), some (.tup [.int r, .int s]), some (.int (g ^ n * v ^ n)), some (.int (g ^ n * u ^ n)), some (.int (n : Int))]) _ ⟨0, rfl, by decide, fun m hm => absurd hm (Nat.not_lt_zero _), fun _ => rfl, fun _ => Nat.zero_le _, rfl, by simp⟩ ?_
    rintro k δ M' ⟨n, rfl, hn, hf, h1, h2, rfl, rfl⟩
    walk_at "sm"
    have kn : 6 * n + 1 ≤ 2000 := by omega
    refine ⟨g ^ n, v ^ n, u ^ n, p, q, r, s, rfl, pow_pos' g0 n, pow_pos' v0 n, pow_pos' u0 n, co_pow co n, bt_up (bt_pow sg n) kn, bt_up (bt_pow sv n) kn, bt_up (bt_pow su n) kn, S1.pb, S1.qb, S2.pb, S2.qb, ?_⟩
    walk_at "sm"
    refine ⟨fun z => ?_, fun z => ?_⟩
    · have hfit : fitsN v u p q r s n := of_decide_eq_true z
      refine r_sq ?_
      by_cases e : b = c
      · refine r_if (r_or ?_)
        walk_at "sm"
        refine ⟨fun z1 => ⟨fun _ => ?_, fun z2 => Bool.noConfusion z2⟩, fun z1 => absurd e (of_decide_eq_false z1)⟩
        have hn0 := h1 e
        subst hn0
        walk_at "sm"
        refine Wq.now (hQ _ (.non fun m => ?_))
        have e2 : v = u := Int.eq_of_mul_eq_mul_left (show g ≠ 0 by omega) (by rw [← eb, ← ec]; exact e)
        subst e2
        have e3 : v = 1 := by
          have := co
          rw [Int.gcd_self] at this
          omega
        subst e3
        exact fitsN_one p q r s 0 m hfit
      · have ne := e
        refine viaS (P := fun δ' M'' => (b < c ∨ n = 0) ∧ δ' = [some (.int b), some (.tup [.int p, .int q]), some (.int c), some (.tup [.int r, .int s]), some (.int (g ^ n * v ^ n)), some (.int (g ^ n * u ^ n)), some (.int (n : Int))] ∧ M' = M'') (fun Nx hNx => ?_) ?_
        · refine r_if (r_or ?_)
          walk_at "sm"
          refine ⟨fun z1 => absurd (of_decide_eq_true z1) ne, fun _ => ?_⟩
          refine r_and ?_
          walk_at "sm"
          refine ⟨fun z1 => ?_, fun z1 => ?_⟩
          · have lt : c < b := of_decide_eq_true z1
            walk_at "sm"
            refine ⟨fun z2 => ?_, fun z2 => ?_⟩
            · have e1 : n = 1 := by have := of_decide_eq_true z2; omega
              subst e1
              walk_at "sm"
              refine Wq.now (hQ _ (.non fun m => ?_))
              have huv : u < v := lt_of_mul g0 (by rw [← eb, ← ec]; exact lt)
              match m with
              | 0 => exact hf 0 (by decide)
              | m + 1 => exact fitsN_all (by have := S2.q0; omega) S1.q0 S1.qp (by omega) huv hfit m
            · have e1 : ¬ (n : Int) = 1 := of_decide_eq_false z2
              have := h2 lt
              walk_at "sm"
              exact hNx _ _ ⟨.inr (by omega), rfl, rfl⟩
          · have := of_decide_eq_false z1
            refine ⟨fun z => Bool.noConfusion z, fun _ => ?_⟩
            walk_at "sm"
            exact hNx _ _ ⟨.inl (by omega), rfl, rfl⟩
        rintro _ _ ⟨hgo, rfl, rfl⟩
        have bb : Bt 12 b := by show b.natAbs < 4096; omega
        have bc : Bt 12 c := by show c.natAbs < 4096; omega
        have bG := bt_up (bt_pow sg n) kn
        have bV := bt_up (bt_pow sv n) kn
        have bU := bt_up (bt_pow su n) kn
        walk_at "sm"
        have hn1 : n + 1 ≤ 110 := by
          rcases hgo with hlt | h0
          · have hvu : v < u := lt_of_mul g0 (by rw [← eb, ← ec]; exact hlt)
            have := fits_end (N := 108) g0 (by have := S2.q0; omega) S1.q0 S1.qp (by omega) hvu (by rw [← eb]; exact hN) hfit
            omega
          · omega
        refine ⟨200 - (n + 1), by omega, n + 1, rfl, hn1, fun m hm => ?_, fun e => absurd e ne, fun hlt => ?_, rfl, ?_⟩
        · by_cases hmn : m = n
          · subst hmn; exact hfit
          · exact hf m (by omega)
        · rcases hgo with hlt2 | h0
          · omega
          · omega
        · rw [eb, ec, pow_up, pow_up]
          rfl
    · have hfit : ¬ fitsN v u p q r s n := of_decide_eq_false z
      walk_at "sm"
      exact Wq.now (hQ _ (.at n hf hfit))
end K19

set_option exponentiation.threshold 2000
namespace K19
open PySem PySem.Spec PyProof.Rows L2 TL DL
local macro_rules | `(tactic| walk_at "st1") => `(tactic| first
  | with_reducible refine r_sq ?_ | with_reducible refine r_nx ?_ | with_reducible refine r_rt ?_ | with_reducible refine r_rtN ?_ | with_reducible refine r_ex ?_ | with_reducible refine r_as ?_ | with_reducible refine r_bk ?_ | with_reducible refine r_ct ?_
  | ((with_reducible apply r_var); exact rfl) | with_reducible refine r_c ?_ | with_reducible refine r_op ?_ | with_reducible refine r_un ?_ | with_reducible refine r_neg ?_
  | ((with_reducible refine r_dgN rfl ?_); (try simp only [List.set]))
  | with_reducible refine r_dgSub ?_ | with_reducible refine r_dgT rfl ?_ | with_reducible refine r_dga0 ?_ | with_reducible refine r_dga1 ?_ | with_reducible refine r_auS ?_ | ((with_reducible apply r_au); exact rfl)
  | with_reducible refine r_par ?_ | ((with_reducible refine r_kPar rfl ?_); (try simp only [List.set]))
  | with_reducible refine r_addI ?_ | with_reducible refine r_addS ?_ | with_reducible refine r_addT ?_ | with_reducible refine r_addL ?_ | with_reducible refine r_subI ?_ | with_reducible refine r_mulI ?_ | with_reducible refine r_fdiv ?_ | with_reducible refine r_mod ?_ | with_reducible refine r_pow ?_ | with_reducible refine r_shl ?_
  | with_reducible refine r_eqI ?_ | with_reducible refine r_eqS ?_ | with_reducible refine r_eqB ?_ | with_reducible refine r_neI ?_ | with_reducible refine r_neS ?_ | with_reducible refine r_neB ?_ | with_reducible refine r_ltI ?_ | with_reducible refine r_gtI ?_ | with_reducible refine r_leI ?_ | with_reducible refine r_geI ?_ | with_reducible refine r_isN ?_ | with_reducible refine r_notN ?_ | with_reducible refine r_inS ?_
  | with_reducible refine r_test ?_ | with_reducible refine r_kB ?_ | with_reducible refine r_tru ?_ | with_reducible refine r_kTb ?_ | with_reducible refine r_kTi ?_ | with_reducible refine r_kTn ?_ | with_reducible refine r_kTl ?_ | with_reducible refine r_kTt ?_ | with_reducible refine r_kTs ?_ | with_reducible refine r_not ?_ | with_reducible refine r_notV ?_ | with_reducible refine r_yes ?_
  | with_reducible refine r_nil ?_ | with_reducible refine r_cons ?_ | with_reducible refine r_tup ?_ | with_reducible refine r_lst ?_ | with_reducible refine r_newF ?_ | with_reducible refine r_cb ?_
  | with_reducible refine r_lenS ?_ | with_reducible refine r_lenL ?_ | with_reducible refine r_lenT ?_ | with_reducible refine r_lenSrc ?_ | with_reducible refine r_abs ?_ | with_reducible refine r_min2 ?_ | with_reducible refine r_max2 ?_ | with_reducible refine r_intI ?_ | with_reducible refine r_str ?_ | with_reducible refine r_tupT ?_ | with_reducible refine r_tupL ?_ | with_reducible refine r_divmod ?_
  | with_reducible refine r_sl ?_ | with_reducible refine r_noP ?_ | with_reducible refine r_part ?_ | with_reducible refine r_kP ?_ | with_reducible refine r_slS ?_ | with_reducible refine r_slT ?_ | with_reducible refine r_slL ?_ | with_reducible refine r_slSrc ?_
  | with_reducible refine r_bm ?_ | with_reducible refine r_tyS ?_ | with_reducible refine r_starts ?_ | with_reducible refine r_count ?_ | with_reducible refine r_call ?_ | with_reducible refine r_for ?_ | with_reducible refine r_seq ?_ | with_reducible refine r_kIt ?_ | with_reducible refine r_kIl ?_ | with_reducible refine r_kIs ?_ | with_reducible refine r_kIsrc ?_ | with_reducible refine r_r1 ?_ | with_reducible refine r_r2 ?_ | with_reducible refine r_lc ?_
  | with_reducible refine lit0 ?_ | with_reducible refine lit1 ?_ | with_reducible refine lit2 ?_ | with_reducible refine lit3 ?_ | with_reducible refine lit4 ?_ | with_reducible refine lit5 ?_ | with_reducible refine lit6 ?_ | with_reducible refine lit7 ?_
  | with_reducible refine r_callX ?_ | with_reducible refine r_callE ?_ | with_reducible refine r_try ?_ | with_reducible refine r_isE ?_ | with_reducible refine r_fld ?_ | with_reducible refine r_excK ?_ | with_reducible refine r_raise ?_
  | with_reducible refine r_subB ?_ | with_reducible refine r_r3 ?_ | with_reducible refine r_rev ?_ | with_reducible refine r_kRv ?_
  | fail)
local macro_rules | `(tactic| walk_at "st") => `(tactic| repeat (first | walk_at "st1" | dsimp only))
local macro_rules | `(tactic| walk_at "go") => `(tactic| (simp only [dstart, dEnd, List.map_cons, List.map_nil, List.length_cons, List.length_nil, Nat.reduceAdd, Nat.reduceSub, Nat.zero_add, List.replicate, List.cons_append, List.nil_append]; walk_at "st"))

local macro_rules | `(tactic| walk_at "bt") => `(tactic| first | with_reducible assumption | ((with_reducible apply bt_mul) <;> walk_at "bt") | ((with_reducible apply bt_sub) <;> walk_at "bt") | ((with_reducible apply bt_add) <;> walk_at "bt") | ((with_reducible apply bt_neg) <;> walk_at "bt") | ((with_reducible apply bt_abs) <;> walk_at "bt") | ((with_reducible apply bt_fdiv) <;> walk_at "bt") | exact bt_lit 64 (by decide +kernel))
local macro_rules | `(tactic| walk_at "cm") => `(tactic| ((with_reducible refine And.intro ?_ ?_); (focus ((with_reducible apply cm_ok) <;> first | decide | walk_at "bt"))))
local macro_rules | `(tactic| walk_at "sm") => `(tactic| repeat (first | walk_at "st1" | ((with_reducible apply r_idxT); exact rfl) | ((with_reducible apply r_idxL); exact rfl) | dsimp only | walk_at "cm"))

def raisedW : List Nat := [114, 97, 105, 115, 101, 100]
def toldW : List Nat := [116, 111, 108, 100]
def bnW : List Nat := [66, 97, 100, 78, 117, 109, 98, 101, 114]
def lowD : D := .tup [.str raisedW, .tup [.str bnW, .str slackW]]
def tlD (w : D) : D := .tup [.str toldW, w]
def sp_law_power : DSp := fun ds M Q _ => ∃ (b : Int) (n : Nat), ds = [.int b, .int (n : Int)] ∧ Bt 6 b ∧ n ≤ 10 ∧ Q (.int (b ^ n)) M
def sp_law_common : DSp := fun ds M Q _ => ∃ (a b : Int), ds = [.int a, .int b] ∧ Bt 8000 a ∧ Bt 8000 b ∧ Q (.int (Int.gcd a b : Int)) M
def sp_law_ratio : DSp := fun ds M Q _ => ∃ (p q : Int), ds = [.int p, .int q] ∧ 0 < q ∧ Bt 8000 p ∧ Bt 8000 q ∧ ∀ g n m, 0 < g → p = g * n → q = g * m → Q (slD n m) M
def sp_law_gauge_lies : DSp := fun ds M Q _ => ∃ (b c p q r s g v u : Int) (n : Nat), ds = [gaD b p q, gaD c r s, .int (n : Int)] ∧ Bs b c g v u ∧ 0 < q ∧ 0 < s ∧ Bt 64 p ∧ Bt 64 q ∧ Bt 64 r ∧ Bt 64 s ∧ n ≤ 4 ∧ Q (.bl (decide (fitsN v u p q r s n))) M
structure Sl (p q : Int) : Prop where
  q0 : 0 < q
  qp : q ≤ p
  p3 : p ≤ 3 * q
  p24 : p ≤ 24
def sp_law_gauge_slack : DSp := fun ds M Q _ => ∃ a o k, ds = [.ref a] ∧ M a = some o ∧ Src (k + 3) o ∧ ∀ p q o', Sl p q → Src k o' → Q (slD p q) (mset M a o')
def sp_law_gauge_tight : DSp := fun ds M Q _ => ∃ a o k, ∃ (b p q c : Int), ds = [.ref a, gaD b p q, .int c] ∧ M a = some o ∧ Src (k + 1) o ∧ 2 ≤ b ∧ b ≤ 36 ∧ 2 ≤ c ∧ c ≤ 36 ∧ Sl p q ∧ ∀ r s o', Ss r s → r * b ≤ (108 + b) * s → Src k o' → Q (slD r s) (mset M a o')
def sp_law_done : DSp := fun ds M Q _ => ∃ (b c p q r s : Int), ds = [gaD b p q, gaD c r s] ∧
  (((p < q ∨ r < s) ∧ Q lowD M) ∨ (∃ g v u, Bs b c g v u ∧ Ss p q ∧ Ss r s ∧ r * b ≤ (108 + b) * s ∧ ∀ w, Told v u p q r s w → Q (tlD w) M))
def sp_law : DSp := fun ds M Q _ => ∃ ns, ds = [.src ns] ∧ Q (.bl true) M
def t_law_power : DTS := (dSq (dAs (dC (.int 1)) (dgN 2)) (dSq (dFor (diR1 (dCons (dVar 1) dNil)) (dgN 3) (dAs (dOp (dMul false) (dVar 2) (dVar 0)) (dgN 2))) (dRt (dVar 2))))
def t_law_common : DTS := (dSq (dWhile (dTest (dOp dNe (dVar 1) (dC (.int 0)))) (dSq (dAs (dOp dSub (dVar 0) (dOp (dMul false) (dOp dFdiv (dVar 0) (dVar 1)) (dVar 1))) (dgN 2)) (dSq (dAs (dVar 1) (dgN 0)) (dAs (dVar 2) (dgN 1))))) (dRt (dCB dAbs (dCons (dVar 0) dNil))))
def t_law_ratio : DTS := (dSq (dAs (dCall sp_law_common [] dX0 (dCons (dVar 0) (dCons (dVar 1) dNil))) (dgN 2)) (dSq (dIfS (dTest (dOp dLt (dVar 1) (dC (.int 0)))) (dAs (dUn dNeg (dVar 2)) (dgN 2)) dNx) (dRt (dTup (dCons (dOp dFdiv (dVar 0) (dVar 2)) (dCons (dOp dFdiv (dVar 1) (dVar 2)) dNil))))))
def t_law_gauge_lies : DTS := (dSq (dAs (dCall sp_law_power [] dX0 (dCons (dOp dIdx (dVar 0) (dC (.int 0))) (dCons (dVar 2) dNil))) (dgN 3)) (dSq (dAs (dCall sp_law_power [] dX0 (dCons (dOp dIdx (dVar 1) (dC (.int 0))) (dCons (dVar 2) dNil))) (dgN 4)) (dSq (dAs (dOp dIdx (dVar 0) (dC (.int 1))) (dgT [(dgN 5), (dgN 6)])) (dSq (dAs (dOp dIdx (dVar 1) (dC (.int 1))) (dgT [(dgN 7), (dgN 8)])) (dSq (dFor (diR1 (dCons (dVar 3) dNil)) (dgN 9) (dSq (dAs (dOp (dMul false) (dOp (dMul false) (dOp dSub (dOp (dMul false) (dVar 9) (dVar 6)) (dVar 5)) (dVar 8)) (dVar 4)) (dgN 10)) (dSq (dAs (dOp (dMul false) (dOp (dMul false) (dOp (dAdd false) (dOp (dMul false) (dVar 9) (dVar 6)) (dVar 5)) (dVar 8)) (dVar 4)) (dgN 11)) (dSq (dAs (dOp (dMul false) (dVar 3) (dVar 6)) (dgN 12)) (dSq (dAs (dOp dFdiv (dOp (dAdd false) (dOp dFdiv (dVar 10) (dVar 12)) (dVar 7)) (dVar 8)) (dgN 13)) (dIfS (dTest (dOp dLt (dOp (dMul false) (dOp (dAdd false) (dOp (dMul false) (dVar 13) (dVar 8)) (dVar 7)) (dVar 12)) (dVar 11))) (dRt (dC (.bl false))) dNx)))))) (dRt (dC (.bl true))))))))
def t_law_gauge_slack : DTS := (dSq (dIfS (dTest (dOp dEq (dCall sp_law_pick [] dX0 (dCons (dVar 0) (dCons (dC (.int 2)) dNil))) (dC (.int 0)))) (dRt (dTup (dCons (dC (.int 1)) (dCons (dC (.int 1)) dNil)))) dNx) (dSq (dAs (dOp (dAdd false) (dC (.int 1)) (dCall sp_law_pick [] dX0 (dCons (dVar 0) (dCons (dC (.int 8)) dNil)))) (dgN 1)) (dRt (dCall sp_law_ratio [] dX0 (dCons (dOp (dAdd false) (dVar 1) (dCall sp_law_pick [] dX0 (dCons (dVar 0) (dCons (dOp (dAdd false) (dOp (dMul false) (dC (.int 2)) (dVar 1)) (dC (.int 1))) dNil)))) (dCons (dVar 1) dNil))))))
def t_law_gauge_tight : DTS := (dSq (dAs (dOp dFdiv (dOp dIdx (dVar 1) (dC (.int 0))) (dCall sp_law_common [] dX0 (dCons (dOp dIdx (dVar 1) (dC (.int 0))) (dCons (dVar 2) dNil)))) (dgN 3)) (dSq (dAs (dOp dIdx (dVar 1) (dC (.int 1))) (dgT [(dgN 4), (dgN 5)])) (dSq (dAs (dOp (dAdd false) (dOp (dMul false) (dOp (dMul false) (dOp dFdiv (dVar 3) (dC (.int 2))) (dVar 5)) (dOp dIdx (dVar 1) (dC (.int 0)))) (dOp (dMul false) (dOp (dMul false) (dVar 4) (dVar 2)) (dVar 3))) (dgN 6)) (dSq (dAs (dOp (dMul false) (dOp (dMul false) (dVar 3) (dVar 5)) (dOp dIdx (dVar 1) (dC (.int 0)))) (dgN 7)) (dSq (dAs (dIf (dTest (dOp dEq (dCall sp_law_pick [] dX0 (dCons (dVar 0) (dCons (dC (.int 2)) dNil))) (dC (.int 0)))) (dCall sp_law_ratio [] dX0 (dCons (dVar 6) (dCons (dVar 7) dNil))) (dCall sp_law_ratio [] dX0 (dCons (dOp dSub (dOp (dMul false) (dC (.int 100)) (dVar 6)) (dVar 7)) (dCons (dOp (dMul false) (dC (.int 100)) (dVar 7)) dNil)))) (dgN 8)) (dRt (dIf (dTest (dOp dGe (dOp dIdx (dVar 8) (dC (.int 0))) (dOp dIdx (dVar 8) (dC (.int 1))))) (dVar 8) (dTup (dCons (dC (.int 1)) (dCons (dC (.int 1)) dNil))))))))))
def t_law_done : DTS := (dSq (dTry 3 isx dw0 (fun W => (dAs (dCallX sp_as_good W (dCons (dOp dIdx (dVar 0) (dC (.int 0))) (dCons (dOp dIdx (dVar 0) (dC (.int 1))) (dCons (dOp dIdx (dVar 1) (dC (.int 0))) (dCons (dOp dIdx (dVar 1) (dC (.int 1))) dNil))))) (dgN 2))) (fun a d cn => (dRt (dTup (dCons (dC (.str [114, 97, 105, 115, 101, 100])) (dCons (dCallE sp_law_fault a d cn (dCons (dVar 3) dNil)) dNil)))))) (dRt (dTup (dCons (dC (.str [116, 111, 108, 100])) (dCons (dVar 2) dNil)))))
def t_law : DTS := (dSq (dAs (dCall sp_law_source [] dX0 (dCons (dVar 0) (dCons (dC (.int 0)) dNil))) (dgN 1)) (dSq (dAs (dIf (dTest (dOp dEq (dCall sp_law_pick [] dX0 (dCons (dVar 1) (dCons (dC (.int 8)) dNil))) (dC (.int 0)))) (dC (.int 35)) (dC (.int 8))) (dgN 2)) (dSq (dAs (dTup (dCons (dOp (dAdd false) (dC (.int 2)) (dCall sp_law_pick [] dX0 (dCons (dVar 1) (dCons (dVar 2) dNil)))) (dCons (dCall sp_law_gauge_slack [] dX0 (dCons (dVar 1) dNil)) dNil))) (dgN 3)) (dSq (dAs (dOp (dAdd false) (dC (.int 2)) (dCall sp_law_pick [] dX0 (dCons (dVar 1) (dCons (dVar 2) dNil)))) (dgN 4)) (dSq (dAs (dTup (dCons (dVar 4) (dCons (dIf (dTest (dOp dEq (dCall sp_law_pick [] dX0 (dCons (dVar 1) (dCons (dC (.int 2)) dNil))) (dC (.int 0)))) (dCall sp_law_gauge_slack [] dX0 (dCons (dVar 1) dNil)) (dCall sp_law_gauge_tight [] dX0 (dCons (dVar 1) (dCons (dVar 3) (dCons (dVar 4) dNil))))) dNil))) (dgN 5)) (dSq (dAs (dIf (dTest (dOp dLt (dOp dIdx (dVar 3) (dC (.int 0))) (dC (.int 6)))) (dC (.int 4)) (dIf (dTest (dOp dLt (dOp dIdx (dVar 3) (dC (.int 0))) (dC (.int 11)))) (dC (.int 3)) (dC (.int 2)))) (dgN 6)) (dSq (dAs (dC .non) (dgN 7)) (dSq (dFor (diR1 (dCons (dOp (dAdd false) (dVar 6) (dC (.int 1))) dNil)) (dgN 8) (dIfS (dAnd (dTest (dOp dIsN (dVar 7) (dC .non))) (dNot (dTru (dCall sp_law_gauge_lies [] dX0 (dCons (dVar 3) (dCons (dVar 5) (dCons (dVar 8) dNil))))))) (dAs (dVar 8) (dgN 7)) dNx)) (dSq (dAs (dCall sp_law_done [] dX0 (dCons (dVar 3) (dCons (dVar 5) dNil))) (dgN 9)) (dSq (dIfS (dOr (dTest (dOp dNotN (dVar 7) (dC .non))) (dTest (dOp dGe (dOp dIdx (dVar 3) (dC (.int 0))) (dOp dIdx (dVar 5) (dC (.int 0)))))) (dIfS (dNot (dTru (dCall sp_law_same [] dX0 (dCons (dVar 9) (dCons (dTup (dCons (dC (.str [116, 111, 108, 100])) (dCons (dVar 7) dNil))) dNil))))) (dRt (dC (.bl false))) dNx) (dIfS (dOr (dTest (dOp dNe (dOp dIdx (dVar 9) (dC (.int 0))) (dC (.str [116, 111, 108, 100])))) (dOr (dNot (dTru (dCB dIsi (dCons (dOp dIdx (dVar 9) (dC (.int 1))) (dCons (dC (.ty "int")) dNil))))) (dOr (dTru (dCB dIsi (dCons (dOp dIdx (dVar 9) (dC (.int 1))) (dCons (dC (.ty "bool")) dNil)))) (dTest (dOp dLe (dOp dIdx (dVar 9) (dC (.int 1))) (dVar 6)))))) (dRt (dC (.bl false))) dNx)) (dSq (dAs (dCall sp_law_ratio [] dX0 (dCons (dOp (dAdd false) (dC (.int 50)) (dCall sp_law_pick [] dX0 (dCons (dVar 1) (dCons (dC (.int 49)) dNil)))) (dCons (dC (.int 99)) dNil))) (dgN 10)) (dSq (dIfS (dNot (dTru (dCall sp_law_same [] dX0 (dCons (dCall sp_law_done [] dX0 (dCons (dTup (dCons (dOp dIdx (dVar 3) (dC (.int 0))) (dCons (dVar 10) dNil))) (dCons (dVar 5) dNil))) (dCons (dTup (dCons (dC (.str [114, 97, 105, 115, 101, 100])) (dCons (dTup (dCons (dC (.str [66, 97, 100, 78, 117, 109, 98, 101, 114])) (dCons (dC (.str [115, 108, 97, 99, 107])) dNil))) dNil))) dNil))))) (dRt (dC (.bl false))) dNx) (dSq (dIfS (dNot (dTru (dCall sp_law_same [] dX0 (dCons (dCall sp_law_done [] dX0 (dCons (dVar 3) (dCons (dTup (dCons (dOp dIdx (dVar 5) (dC (.int 0))) (dCons (dVar 10) dNil))) dNil))) (dCons (dTup (dCons (dC (.str [114, 97, 105, 115, 101, 100])) (dCons (dTup (dCons (dC (.str [66, 97, 100, 78, 117, 109, 98, 101, 114])) (dCons (dC (.str [115, 108, 97, 99, 107])) dNil))) dNil))) dNil))))) (dRt (dC (.bl false))) dNx) (dRt (dCall sp_law_same [] dX0 (dCons (dCall sp_law_done [] dX0 (dCons (dVar 3) (dCons (dVar 3) dNil))) (dCons (dTup (dCons (dC (.str [116, 111, 108, 100])) (dCons (dC .non) dNil))) dNil)))))))))))))))))
theorem sem_law_fault (a d : Addr) (cn : Str) (ds : List D) (M : Mu) (Q : DK) (E : DXK) (h : sp_law_fault a d cn ds M Q E) : t_law_fault a d cn (dEnd Q) (dstart 2 ds) M := by
  obtain ⟨y, rfl, rfl, h⟩ := h
  unfold t_law_fault
  walk_at "go"
  refine r_newT fun p hp => ?_
  walk_at "st"
  iterate 4
    refine r_if ?_
    walk_at "st"
    refine ⟨fun z => absurd z (by decide +kernel), fun _ => ?_⟩
    walk_at "st"
  refine r_if ?_
  walk_at "st"
  refine ⟨fun _ => ?_, fun z => absurd z (by decide +kernel)⟩
  walk_at "st"
  refine r_tyR mset_same ?_
  walk_at "st"
  refine ⟨["what"], [y], y, rfl, rfl, ?_⟩
  walk_at "st"
  refine r_append mset_same (by rw [List.length_nil]; exact szlt (by decide)) ?_
  rw [mset_mset, List.nil_append]
  walk_at "st"
  iterate 8
    refine r_if ?_
    walk_at "st"
    refine ⟨fun z => absurd z (by decide +kernel), fun _ => ?_⟩
    walk_at "st"
  refine r_if (r_or ?_)
  walk_at "st"
  refine ⟨fun z => absurd z (by decide +kernel), fun _ => ?_⟩
  refine r_or ?_
  walk_at "st"
  refine ⟨fun z => absurd z (by decide +kernel), fun _ => ?_⟩
  walk_at "st"
  refine r_lenR mset_same ?_
  walk_at "st"
  refine ⟨fun z => absurd z (by simp), fun _ => ?_⟩
  walk_at "st"
  refine r_idxR mset_same atI_zero ?_
  exact Wq.drop (sub_new hp) h
theorem sem_law_power (ds : List D) (M : Mu) (Q : DK) (E : DXK) (h : sp_law_power ds M Q E) : t_law_power (dEnd Q) (dstart 4 ds) M := by
  obtain ⟨b, n, rfl, hb, hn, h⟩ := h
  unfold t_law_power
  walk_at "go"
  refine r_kR1 (by omega) (by omega) ?_
  rw [Int.toNat_natCast]
  refine for_rng0 n (fun j δ M' => ∃ s3, M' = M ∧ δ = [some (.int b), some (.int (n : Int)), some (.int (b ^ j)), s3]) ?_ ?_ _ _ ⟨none, rfl, by simp⟩
  · rintro j δ M' N hj ⟨s3, rfl, rfl⟩ hN
    walk_at "st"
    refine ⟨cm_ok (bt_up (b := 100) (bt_pow hb j) (by omega)) hb (by decide), ?_⟩
    walk_at "st"
    exact hN _ _ ⟨_, rfl, by rw [Int.pow_succ]⟩
  · rintro δ M' ⟨s3, rfl, rfl⟩
    walk_at "st"
    exact Wq.now h
theorem sem_law_common (ds : List D) (M : Mu) (Q : DK) (E : DXK) (h : sp_law_common ds M Q E) : t_law_common (dEnd Q) (dstart 3 ds) M := by
  obtain ⟨a, b, rfl, ha, hb, h⟩ := h
  unfold t_law_common
  walk_at "go"
  refine r_while (fun k δ M' => ∃ (x y : Int) (s2 : Option D), k = y.natAbs ∧ Int.gcd x y = Int.gcd a b ∧ Bt 8000 x ∧ Bt 8000 y ∧ M' = M ∧ δ = [some (.int x), some (.int y), s2]) _ ⟨a, b, none, rfl, rfl, ha, hb, rfl, rfl⟩ ?_
  rintro k δ M' ⟨x, y, s2, rfl, e, hx, hy, rfl, rfl⟩
  walk_at "st"
  refine ⟨fun z => ?_, fun z => ?_⟩
  · have hy0 : y ≠ 0 := by simpa using z
    walk_at "st"
    refine ⟨cd_ok hy0 hy (by decide), ?_⟩
    walk_at "st"
    refine ⟨cm_ok (bt_fdiv hx) hy (by decide), ?_⟩
    walk_at "st"
    have e2 : x - x.fdiv y * y = x.fmod y := by
      have := Int.fmod_add_mul_fdiv x y
      have e3 : x.fdiv y * y = y * x.fdiv y := Int.mul_comm _ _
      omega
    rw [e2]
    exact ⟨_, fmod_lt hy0, y, x.fmod y, some (.int (x.fmod y)), rfl, (gcd_step x y).trans e, hy, Nat.lt_trans (fmod_lt hy0) hy, by simp⟩
  · have hy0 : y = 0 := by simpa using z
    subst hy0
    walk_at "st"
    rw [Int.gcd_zero_right] at e
    rw [← e] at h
    exact Wq.now h
theorem gcd_bt {a b : Int} {k : Nat} (h : Bt k b) (hb : b ≠ 0) : Bt k (Int.gcd a b : Int) := by
  have h1 : (Int.gcd a b : Int).natAbs ∣ b.natAbs := Int.natAbs_dvd_natAbs.mpr (Int.gcd_dvd_right ..)
  exact Nat.lt_of_le_of_lt (Nat.le_of_dvd (by omega) h1) h
theorem gcd_pos {a b : Int} (hb : b ≠ 0) : 0 < (Int.gcd a b : Int) := by
  have : 0 < Int.gcd a b := Int.gcd_pos_iff.mpr (.inr hb)
  omega
theorem sem_law_ratio (ds : List D) (M : Mu) (Q : DK) (E : DXK) (h : sp_law_ratio ds M Q E) : t_law_ratio (dEnd Q) (dstart 3 ds) M := by
  obtain ⟨p, q, rfl, hq, hpb, hqb, h⟩ := h
  have hg := gcd_pos (a := p) (b := q) (by omega)
  have hgb := gcd_bt (a := p) hqb (by omega)
  unfold t_law_ratio
  walk_at "go"
  refine ⟨p, q, rfl, hpb, hqb, ?_⟩
  walk_at "st"
  refine r_if ?_
  walk_at "st"
  refine ⟨fun z => absurd (of_decide_eq_true z) (by omega), fun _ => ?_⟩
  walk_at "st"
  refine ⟨cd_ok (by omega) hgb (by decide), ?_⟩
  walk_at "st"
  refine ⟨cd_ok (by omega) hgb (by decide), ?_⟩
  walk_at "st"
  obtain ⟨u, hu⟩ : (Int.gcd p q : Int) ∣ p := Int.gcd_dvd_left ..
  obtain ⟨v, hv⟩ : (Int.gcd p q : Int) ∣ q := Int.gcd_dvd_right ..
  generalize (Int.gcd p q : Int) = G at *
  subst hu hv
  rw [Int.mul_fdiv_cancel_left _ (by omega), Int.mul_fdiv_cancel_left _ (by omega)]
  exact Wq.now (h G u v hg rfl rfl)
theorem lies_all {b c g v u p q r s : Int} {n : Nat} (B : Bs b c g v u) (hq : 0 < q) (hs : 0 < s) : (∀ m : Int, 0 ≤ m → m < b ^ n → liesAt (b ^ n) (c ^ n) p q r s m) ↔ fitsN v u p q r s n := by
  obtain ⟨eb, ec, g0, v0, u0, co, b1, c1⟩ := B
  rw [eb, ec, Int.mul_pow, Int.mul_pow]
  exact lies_iff (pow_pos' g0 n) (pow_pos' v0 n) (pow_pos' u0 n) (co_pow co n) hq hs
theorem sem_law_gauge_lies (ds : List D) (M : Mu) (Q : DK) (E : DXK) (h : sp_law_gauge_lies ds M Q E) : t_law_gauge_lies (dEnd Q) (dstart 14 ds) M := by
  obtain ⟨b, c, p, q, r, s, g, v, u, n, rfl, B, hq, hs, bp, bq, br, bs, hn, h⟩ := h
  have hall := lies_all (p := p) (q := q) (r := r) (s := s) (n := n) B hq hs
  obtain ⟨eb, ec, g0, v0, u0, co, b1, c1⟩ := B
  have b0 : 0 < b := by rw [eb]; exact Int.mul_pos g0 v0
  have c0 : 0 < c := by rw [ec]; exact Int.mul_pos g0 u0
  have bb : Bt 6 b := bt_small b0 b1
  have bc : Bt 6 c := bt_small c0 c1
  unfold t_law_gauge_lies gaD slD
  walk_at "go"
  walk_at "sm"
  refine ⟨b, n, rfl, bb, by omega, ?_⟩
  walk_at "sm"
  refine ⟨c, n, rfl, bc, by omega, ?_⟩
  walk_at "sm"
  have bS : Bt 30 (b ^ n) := bt_up (bt_pow bb n) (by omega)
  have bO : Bt 30 (c ^ n) := bt_up (bt_pow bc n) (by omega)
  have S0 : 0 < b ^ n := pow_pos' b0 n
  have O0 : 0 < c ^ n := pow_pos' c0 n
  generalize b ^ n = S at *
  generalize c ^ n = O at *
  have hSlt : S < 2 ^ 30 := by unfold Bt at bS; omega
  refine r_kR1 (by omega) (by omega) ?_
  refine for_rng0 S.toNat (fun j δ M' => ∃ s9 s10 s11 s12 s13, (∀ m : Int, 0 ≤ m → m < j → liesAt S O p q r s m) ∧ M' = M ∧ δ = [some (.tup [.int b, .tup [.int p, .int q]]), some (.tup [.int c, .tup [.int r, .int s]]), some (.int (n : Int)), some (.int S), some (.int O), some (.int p), some (.int q), some (.int r), some (.int s), s9, s10, s11, s12, s13]) ?_ ?_ _ _
    ⟨none, none, none, none, none, fun m h1 h2 => by omega, rfl, rfl⟩
  · rintro j δ M' N hj ⟨s9, s10, s11, s12, s13, hI, rfl, rfl⟩ hN
    have hjS : (j : Int) < S := by omega
    have bj : Bt 30 (j : Int) := by unfold Bt; omega
    walk_at "sm"
    have hU : 0 < S * q := Int.mul_pos S0 hq
    refine ⟨cd_ok (Int.ne_of_gt hU) (bt_mul bS bq) (by decide), ?_⟩
    walk_at "sm"
    refine ⟨cd_ok (Int.ne_of_gt hs) bs (by decide), ?_⟩
    walk_at "sm"
    refine r_if ?_
    walk_at "sm"
    rw [fdiv_pos hU, fdiv_pos hs]
    refine ⟨fun z => ?_, fun z => ?_⟩
    · have z := of_decide_eq_true z
      walk_at "sm"
      have hno : ¬ fitsN v u p q r s n := fun hf => by
        have := hall.mpr hf j (by omega) hjS
        unfold liesAt kOf at this
        omega
      rw [decide_eq_false hno] at h
      exact Wq.now h
    · have z := of_decide_eq_false z
      walk_at "sm"
      refine hN _ _ ⟨_, _, _, _, _, fun m h1 h2 => ?_, rfl, rfl⟩
      rcases Int.lt_or_le m j with h3 | h3
      · exact hI m h1 h3
      · have e : m = j := by omega
        subst e
        unfold liesAt kOf
        omega
  · rintro δ M' ⟨s9, s10, s11, s12, s13, hI, rfl, rfl⟩
    walk_at "sm"
    have hyes : fitsN v u p q r s n := hall.mp fun m h1 h2 => hI m h1 (by omega)
    rw [decide_eq_true hyes] at h
    exact Wq.now h
theorem sl_of {g n m : Int} (hg : 0 < g) (h0 : 0 < g * m) (h1 : g * m ≤ g * n) (h2 : g * n ≤ 3 * (g * m)) (h3 : g * n ≤ 24) : Sl n m := by
  have hm := mul_pos_cancel hg h0
  have hmn := mul_le_cancel hg h1
  refine ⟨hm, hmn, mul_le_cancel hg ?_, ?_⟩
  · have : g * (3 * m) = 3 * (g * m) := by grind
    omega
  · have := le_mul_self hg (show 0 ≤ n by omega)
    omega
theorem sem_law_gauge_slack (ds : List D) (M : Mu) (Q : DK) (E : DXK) (h : sp_law_gauge_slack ds M Q E) : t_law_gauge_slack (dEnd Q) (dstart 2 ds) M := by
  obtain ⟨a, o, k, rfl, hM, hS, h⟩ := h
  unfold t_law_gauge_slack
  walk_at "go"
  refine r_if ?_
  walk_at "st"
  refine ⟨a, 2, o, k + 2, rfl, hM, hS, by decide, by decide, fun x o1 _ _ hS1 => ?_⟩
  walk_at "st"
  refine ⟨fun _ => ?_, fun _ => ?_⟩
  · walk_at "st"
    exact Wq.now (h 1 1 o1 ⟨by decide, by decide, by decide, by decide⟩ (hS1.less (by omega)))
  · walk_at "st"
    refine ⟨a, 8, o1, k + 1, rfl, mset_same, hS1, by decide, by decide, fun y o2 y0 y1 hS2 => ?_⟩
    rw [mset_mset]
    walk_at "st"
    refine ⟨mul_fit 8 8 (by decide) (by omega), ?_⟩
    walk_at "st"
    refine ⟨a, _, o2, k, rfl, mset_same, hS2, by omega, lt1000 (by omega), fun z o3 z0 z1 hS3 => ?_⟩
    rw [mset_mset]
    walk_at "st"
    refine ⟨_, _, rfl, by omega, bt_up (a := 10) (by unfold Bt; omega) (by decide), bt_up (a := 10) (by unfold Bt; omega) (by decide), fun g n m hg e1 e2 => ?_⟩
    exact Wq.now (h n m o3 (sl_of hg (by omega) (by omega) (by omega) (by omega)) hS3)
theorem tight1 {b p q c v : Int} (hb : 2 ≤ b) (hc : c ≤ 36) (hc2 : 2 ≤ c) (S : Sl p q) (hv : 0 < v) : (v / 2 * q * b + p * c * v) * b ≤ (108 + b) * (v * q * b) := by
  obtain ⟨q0, qp, p3, _⟩ := S
  have h1 : p * c ≤ 3 * q * 36 := Int.mul_le_mul p3 hc (by omega) (by omega)
  have h2 := Int.mul_le_mul_of_nonneg_right h1 (show 0 ≤ v * b from Int.mul_nonneg (by omega) (by omega))
  have h3 := Int.mul_le_mul_of_nonneg_right (show v / 2 ≤ v by omega) (show 0 ≤ q * b * b from Int.mul_nonneg (Int.mul_nonneg (by omega) (by omega)) (by omega))
  have e1 : (v / 2 * q * b + p * c * v) * b = v / 2 * (q * b * b) + p * c * (v * b) := by
    generalize v / 2 = w
    grind
  have e2 : (108 + b) * (v * q * b) = v * (q * b * b) + 3 * q * 36 * (v * b) := by grind
  rw [e1, e2]
  omega
theorem sem_law_gauge_tight (ds : List D) (M : Mu) (Q : DK) (E : DXK) (h : sp_law_gauge_tight ds M Q E) : t_law_gauge_tight (dEnd Q) (dstart 9 ds) M := by
  obtain ⟨a, o, k, b, p, q, c, rfl, hM, hS, hb2, hb36, hc2, hc36, S, h⟩ := h
  unfold t_law_gauge_tight gaD slD
  walk_at "go"
  walk_at "sm"
  have bb : Bt 6 b := by unfold Bt; omega
  have bc : Bt 6 c := by unfold Bt; omega
  have bp : Bt 6 p := by unfold Bt; have := S.q0; have := S.qp; have := S.p24; omega
  have bq : Bt 6 q := by unfold Bt; have := S.q0; have := S.qp; have := S.p24; omega
  refine ⟨b, c, rfl, bt_up bb (by decide), bt_up bc (by decide), ?_⟩
  have hg := gcd_pos (a := b) (b := c) (by omega)
  have hgb := gcd_bt (a := b) bc (by omega)
  obtain ⟨v, hv⟩ : (Int.gcd b c : Int) ∣ b := Int.gcd_dvd_left ..
  generalize (Int.gcd b c : Int) = G at *
  walk_at "sm"
  refine ⟨cd_ok (by omega) hgb (by decide), ?_⟩
  have ev : b.fdiv G = v := by
    have := Int.mul_fdiv_cancel_left v (show G ≠ 0 by omega)
    rw [← hv] at this
    exact this
  rw [ev]
  have v0 : 0 < v := mul_pos_cancel hg (by omega)
  have bv : Bt 6 v := by
    have := le_mul_self hg (Int.le_of_lt v0)
    unfold Bt; omega
  walk_at "sm"
  refine ⟨cd_ok (by decide) (bt_lit 64 (by decide)) (by decide), ?_⟩
  rw [fdiv_pos (j := 2) (by decide)]
  have bh : Bt 6 (v / 2) := by unfold Bt at bv ⊢; omega
  have hT := tight1 (c := c) hb2 hc36 hc2 S v0
  walk_at "sm"
  have hn0 : 0 ≤ v / 2 * q * b + p * c * v := Int.add_nonneg (Int.mul_nonneg (Int.mul_nonneg (by omega) (by have := S.q0; omega)) (by omega)) (Int.mul_nonneg (Int.mul_nonneg (by have := S.q0; have := S.qp; omega) (by omega)) (by omega))
  have hd0 : 0 < v * q * b := Int.mul_pos (Int.mul_pos v0 S.q0) (by omega)
  have bn : Bt 48 (v / 2 * q * b + p * c * v) := bt_up (bt_add (bt_mul (bt_mul bh bq) bb) (bt_mul (bt_mul bp bc) bv)) (by decide)
  have bd : Bt 48 (v * q * b) := bt_up (bt_mul (bt_mul bv bq) bb) (by decide)
  generalize v / 2 * q * b + p * c * v = n at *
  generalize v * q * b = d at *
  refine via (P := fun x M' => ∃ r s o', x = slD r s ∧ 0 < s ∧ r * b ≤ (108 + b) * s ∧ Bt 64 s ∧ Bt 64 r ∧ M' = mset M a o' ∧ Src k o') (fun Q' hQ' => ?_) ?_
  · refine r_dif ?_
    walk_at "sm"
    refine ⟨a, 2, o, k, rfl, hM, hS, by decide, by decide, fun x o1 _ _ hS1 => ?_⟩
    walk_at "sm"
    have cut : ∀ (N D g r s : Int), 0 < g → 0 ≤ N + D → N ≤ 100 * n → D = 100 * d ∨ (D = d ∧ N ≤ n) → Bt 63 N → Bt 63 D → N = g * r → D = g * s → 0 < s ∧ r * b ≤ (108 + b) * s ∧ Bt 64 s ∧ Bt 64 r := by
      intro N D g r s hg hnn hN hD bN bD e1 e2
      have D0 : 0 < D := by rcases hD with rfl | ⟨rfl, _⟩ <;> omega
      have s0 : 0 < s := mul_pos_cancel hg (by omega)
      refine ⟨s0, mul_le_cancel hg ?_, ?_, ?_⟩
      · have e3 : g * (r * b) = N * b := by rw [e1]; grind
        have e4 : g * ((108 + b) * s) = (108 + b) * D := by rw [e2]; grind
        rw [e3, e4]
        rcases hD with rfl | ⟨rfl, h5⟩
        · have h6 := Int.mul_le_mul_of_nonneg_right hN (show 0 ≤ b by omega)
          have e5 : 100 * n * b = 100 * (n * b) := by grind
          have e6 : (108 + b) * (100 * d) = 100 * ((108 + b) * d) := by grind
          omega
        · have h6 := Int.mul_le_mul_of_nonneg_right h5 (show 0 ≤ b by omega)
          omega
      · have := le_mul_self hg (Int.le_of_lt s0)
        exact bt_up (bt_le bD (by omega) (by omega)) (by decide)
      · have h7 : r.natAbs ≤ N.natAbs := by
          rw [e1, Int.natAbs_mul]
          exact Nat.le_mul_of_pos_left _ (by omega)
        exact bt_up (Nat.lt_of_le_of_lt h7 bN) (by decide)
    refine ⟨fun _ => ?_, fun _ => ?_⟩
    · walk_at "sm"
      refine ⟨n, d, rfl, hd0, bt_up bn (by decide), bt_up bd (by decide), fun g r s hg e1 e2 => ?_⟩
      obtain ⟨h1, h2, h3, h4⟩ := cut n d g r s hg (by omega) (by omega) (.inr ⟨rfl, Int.le_refl _⟩) (bt_up bn (by decide)) (bt_up bd (by decide)) e1 e2
      exact hQ' _ _ ⟨r, s, o1, rfl, h1, h2, h3, h4, rfl, hS1⟩
    · walk_at "sm"
      have b1 : Bt 63 (100 * n - d) := by unfold Bt at *; omega
      have b2 : Bt 63 (100 * d) := by unfold Bt at *; omega
      refine ⟨_, _, rfl, by omega, bt_up b1 (by decide), bt_up b2 (by decide), fun g r s hg e1 e2 => ?_⟩
      obtain ⟨h1, h2, h3, h4⟩ := cut _ _ g r s hg (by omega) (by omega) (.inl rfl) b1 b2 e1 e2
      exact hQ' _ _ ⟨r, s, o1, rfl, h1, h2, h3, h4, rfl, hS1⟩
  rintro _ _ ⟨r, s, o1, rfl, s0, hrs, bs, br, rfl, hS1⟩
  unfold slD
  walk_at "sm"
  refine r_dif ?_
  walk_at "sm"
  refine ⟨fun z => ?_, fun z => ?_⟩
  · have z := of_decide_eq_true z
    walk_at "sm"
    exact Wq.now (h r s o1 ⟨s0, z, br, bs⟩ hrs hS1)
  · walk_at "sm"
    exact Wq.now (h 1 1 o1 ⟨by decide, by decide, bt_lit 64 (by decide), bt_lit 64 (by decide)⟩ (by omega) hS1)
theorem sem_law_done (ds : List D) (M : Mu) (Q : DK) (E : DXK) (h : sp_law_done ds M Q E) : t_law_done (dEnd Q) (dstart 4 ds) M := by
  obtain ⟨b, c, p, q, r, s, rfl, h⟩ := h
  unfold t_law_done gaD
  walk_at "go"
  walk_at "sm"
  refine ⟨b, c, p, q, r, s, rfl, ?_⟩
  rcases h with ⟨hlow, h⟩ | ⟨g, v, u, B, S1, S2, hN, h⟩
  · refine .inl ⟨hlow, ?_⟩
    refine r_caught (isxOf_in (by unfold xSlack; simp)) fun a d => ?_
    simp only [List.set]
    walk_at "sm"
    refine ⟨_, rfl, rfl, ?_⟩
    walk_at "sm"
    exact Wq.now h
  · refine .inr ⟨g, v, u, B, S1, S2, hN, fun w hw => ?_⟩
    walk_at "sm"
    exact Wq.now (h w hw)
end K19

namespace K19
open PySem PySem.Spec PyProof.Rows L2 TL DL
local macro_rules | `(tactic| walk_at "st1") => `(tactic| first
  | with_reducible refine r_sq ?_ | with_reducible refine r_nx ?_ | with_reducible refine r_rt ?_ | with_reducible refine r_rtN ?_ | with_reducible refine r_ex ?_ | with_reducible refine r_as ?_ | with_reducible refine r_bk ?_ | with_reducible refine r_ct ?_
  | ((with_reducible apply r_var); exact rfl) | with_reducible refine r_c ?_ | with_reducible refine r_op ?_ | with_reducible refine r_un ?_ | with_reducible refine r_neg ?_
  | ((with_reducible refine r_dgN rfl ?_); (try simp only [List.set]))
  | with_reducible refine r_dgSub ?_ | with_reducible refine r_dgT rfl ?_ | with_reducible refine r_dga0 ?_ | with_reducible refine r_dga1 ?_ | with_reducible refine r_auS ?_ | ((with_reducible apply r_au); exact rfl)
  | with_reducible refine r_par ?_ | ((with_reducible refine r_kPar rfl ?_); (try simp only [List.set]))
  | with_reducible refine r_addI ?_ | with_reducible refine r_addS ?_ | with_reducible refine r_addT ?_ | with_reducible refine r_addL ?_ | with_reducible refine r_subI ?_ | with_reducible refine r_mulI ?_ | with_reducible refine r_fdiv ?_ | with_reducible refine r_mod ?_ | with_reducible refine r_pow ?_ | with_reducible refine r_shl ?_
  | with_reducible refine r_eqI ?_ | with_reducible refine r_eqS ?_ | with_reducible refine r_eqB ?_ | with_reducible refine r_neI ?_ | with_reducible refine r_neS ?_ | with_reducible refine r_neB ?_ | with_reducible refine r_ltI ?_ | with_reducible refine r_gtI ?_ | with_reducible refine r_leI ?_ | with_reducible refine r_geI ?_ | with_reducible refine r_isN ?_ | with_reducible refine r_notN ?_ | with_reducible refine r_inS ?_
  | with_reducible refine r_test ?_ | with_reducible refine r_kB ?_ | with_reducible refine r_tru ?_ | with_reducible refine r_kTb ?_ | with_reducible refine r_kTi ?_ | with_reducible refine r_kTn ?_ | with_reducible refine r_kTl ?_ | with_reducible refine r_kTt ?_ | with_reducible refine r_kTs ?_ | with_reducible refine r_not ?_ | with_reducible refine r_notV ?_ | with_reducible refine r_yes ?_
  | with_reducible refine r_nil ?_ | with_reducible refine r_cons ?_ | with_reducible refine r_tup ?_ | with_reducible refine r_lst ?_ | with_reducible refine r_newF ?_ | with_reducible refine r_cb ?_
  | with_reducible refine r_lenS ?_ | with_reducible refine r_lenL ?_ | with_reducible refine r_lenT ?_ | with_reducible refine r_lenSrc ?_ | with_reducible refine r_abs ?_ | with_reducible refine r_min2 ?_ | with_reducible refine r_max2 ?_ | with_reducible refine r_intI ?_ | with_reducible refine r_str ?_ | with_reducible refine r_tupT ?_ | with_reducible refine r_tupL ?_ | with_reducible refine r_divmod ?_
  | with_reducible refine r_sl ?_ | with_reducible refine r_noP ?_ | with_reducible refine r_part ?_ | with_reducible refine r_kP ?_ | with_reducible refine r_slS ?_ | with_reducible refine r_slT ?_ | with_reducible refine r_slL ?_ | with_reducible refine r_slSrc ?_
  | with_reducible refine r_bm ?_ | with_reducible refine r_tyS ?_ | with_reducible refine r_starts ?_ | with_reducible refine r_count ?_ | with_reducible refine r_call ?_ | with_reducible refine r_for ?_ | with_reducible refine r_seq ?_ | with_reducible refine r_kIt ?_ | with_reducible refine r_kIl ?_ | with_reducible refine r_kIs ?_ | with_reducible refine r_kIsrc ?_ | with_reducible refine r_r1 ?_ | with_reducible refine r_r2 ?_ | with_reducible refine r_lc ?_
  | with_reducible refine lit0 ?_ | with_reducible refine lit1 ?_ | with_reducible refine lit2 ?_ | with_reducible refine lit3 ?_ | with_reducible refine lit4 ?_ | with_reducible refine lit5 ?_ | with_reducible refine lit6 ?_ | with_reducible refine lit7 ?_
  | with_reducible refine r_callX ?_ | with_reducible refine r_callE ?_ | with_reducible refine r_try ?_ | with_reducible refine r_isE ?_ | with_reducible refine r_fld ?_ | with_reducible refine r_excK ?_ | with_reducible refine r_raise ?_
  | with_reducible refine r_subB ?_ | with_reducible refine r_r3 ?_ | with_reducible refine r_rev ?_ | with_reducible refine r_kRv ?_
  | fail)
local macro_rules | `(tactic| walk_at "st") => `(tactic| repeat (first | walk_at "st1" | dsimp only))
local macro_rules | `(tactic| walk_at "go") => `(tactic| (simp only [dstart, dEnd, List.map_cons, List.map_nil, List.length_cons, List.length_nil, Nat.reduceAdd, Nat.reduceSub, Nat.zero_add, List.replicate, List.cons_append, List.nil_append]; walk_at "st"))

local macro_rules | `(tactic| walk_at "bt") => `(tactic| first | with_reducible assumption | ((with_reducible apply bt_mul) <;> walk_at "bt") | ((with_reducible apply bt_sub) <;> walk_at "bt") | ((with_reducible apply bt_add) <;> walk_at "bt") | ((with_reducible apply bt_neg) <;> walk_at "bt") | ((with_reducible apply bt_abs) <;> walk_at "bt") | ((with_reducible apply bt_fdiv) <;> walk_at "bt") | exact bt_lit 64 (by decide +kernel))
local macro_rules | `(tactic| walk_at "cm") => `(tactic| ((with_reducible refine And.intro ?_ ?_); (focus ((with_reducible apply cm_ok) <;> first | decide | walk_at "bt"))))
local macro_rules | `(tactic| walk_at "sm") => `(tactic| repeat (first | walk_at "st1" | ((with_reducible apply r_idxT); exact rfl) | ((with_reducible apply r_idxL); exact rfl) | dsimp only | walk_at "cm"))

theorem bs_of {b c : Int} (b0 : 2 ≤ b) (b1 : b ≤ 36) (c0 : 2 ≤ c) (c1 : c ≤ 36) : ∃ g v u, Bs b c g v u := by
  have hg := gcd_pos (a := b) (b := c) (by omega)
  rw [Int.gcd_comm] at hg
  have hco := Int.gcd_ediv_gcd_ediv_gcd (i := c) (j := b) (by omega)
  obtain ⟨u, hu⟩ : (Int.gcd c b : Int) ∣ c := Int.gcd_dvd_left ..
  obtain ⟨v, hv⟩ : (Int.gcd c b : Int) ∣ b := Int.gcd_dvd_right ..
  have e1 : c / (Int.gcd c b : Int) = u := Int.ediv_eq_of_eq_mul_right (by omega) hu
  have e2 : b / (Int.gcd c b : Int) = v := Int.ediv_eq_of_eq_mul_right (by omega) hv
  rw [e1, e2] at hco
  exact ⟨_, v, u, hv, hu, hg, mul_pos_cancel hg (by omega), mul_pos_cancel hg (by omega), hco, b1, c1⟩
theorem sl_ss {p q : Int} (h : Sl p q) : Ss p q := ⟨h.q0, h.qp, by have := h.q0; have := h.qp; have := h.p24; unfold Bt; omega, by have := h.q0; have := h.qp; have := h.p24; unfold Bt; omega⟩
theorem sl_fit {b p q : Int} (h : Sl p q) (b0 : 2 ≤ b) (b1 : b ≤ 36) : p * b ≤ (108 + b) * q := by
  have h1 := Int.mul_le_mul_of_nonneg_right h.p3 (show 0 ≤ b by omega)
  have h2 := Int.mul_le_mul_of_nonneg_right (show 3 * b ≤ 108 + b by omega) (Int.le_of_lt h.q0)
  have e : 3 * q * b = 3 * b * q := by grind
  omega
/-- every place fits where the bases let it -/
theorem fits_every {b c g v u p q r s : Int} (B : Bs b c g v u) (S1 : Ss p q) (S2 : Ss r s) (h : c ≤ b) (h0 : fitsN v u p q r s 0) (h1 : fitsN v u p q r s 1) : ∀ n, fitsN v u p q r s n := by
  intro n
  obtain ⟨eb, ec, g0, v0, u0, co, b1, c1⟩ := B
  rcases Int.lt_or_eq_of_le h with hlt | heq
  · have huv : u < v := lt_of_mul g0 (by rw [← eb, ← ec]; exact hlt)
    match n with
    | 0 => exact h0
    | n + 1 => exact fitsN_all S2.q0 S1.q0 S1.qp (by omega) huv h1 n
  · have e2 : u = v := Int.eq_of_mul_eq_mul_left (show g ≠ 0 by omega) (by rw [← eb, ← ec]; exact heq)
    subst e2
    have e3 : u = 1 := by
      rw [Int.gcd_self] at co
      omega
    subst e3
    exact fitsN_one p q r s 0 n h0
def FirstIs (v u p q r s : Int) (j : Nat) (f : D) : Prop := (f = .non ∧ ∀ m, m < j → fitsN v u p q r s m) ∨ ∃ n : Nat, f = .int (n : Int) ∧ n < j ∧ ¬ fitsN v u p q r s n ∧ ∀ m, m < n → fitsN v u p q r s m
theorem told_first {v u p q r s : Int} {j : Nat} {n : Nat} {w : D} (hn : ¬ fitsN v u p q r s n) (hl : ∀ m, m < n → fitsN v u p q r s m) (h : Told v u p q r s w) : w = .int (n : Int) := by
  cases h with
  | non h => exact absurd (h n) hn
  | «at» k hk hkn =>
    have : k = n := by
      rcases Nat.lt_trichotomy k n with h1 | h1 | h1
      · exact absurd (hl k h1) hkn
      · exact h1
      · exact absurd (hk n h1) hn
    rw [this]
theorem told_none {v u p q r s : Int} {w : D} (hl : ∀ m, fitsN v u p q r s m) (h : Told v u p q r s w) : w = .non := by
  cases h with
  | non h => rfl
  | «at» k hk hkn => exact absurd (hl k) hkn
theorem told_far {b c g v u p q r s : Int} {t : Nat} {w : D} (B : Bs b c g v u) (S1 : Ss p q) (S2 : Ss r s) (hN : r * b ≤ (108 + b) * s) (hbc : b < c) (hl : ∀ m, m < t + 1 → fitsN v u p q r s m) (h : Told v u p q r s w) : ∃ n : Nat, w = .int (n : Int) ∧ t < n := by
  obtain ⟨eb, ec, g0, v0, u0, co, b1, c1⟩ := B
  have hvu : v < u := lt_of_mul g0 (by rw [← eb, ← ec]; exact hbc)
  cases h with
  | non h =>
    have := fits_end (N := 108) g0 S2.q0 S1.q0 S1.qp (by omega) hvu (by rw [← eb]; exact hN) (h 200)
    omega
  | «at» k hk hkn =>
    refine ⟨k, rfl, ?_⟩
    rcases Nat.lt_or_ge t k with h1 | h1
    · exact h1
    · exact absurd (hl k (by omega)) hkn
theorem sem_law (ds : List D) (M : Mu) (Q : DK) (E : DXK) (h : sp_law ds M Q E) : t_law (dEnd Q) (dstart 11 ds) M := by
  obtain ⟨ns, rfl, h⟩ := h
  unfold t_law
  walk_at "go"
  refine ⟨ns, 0, rfl, by decide, by decide, fun a o ha hS => ?_⟩
  replace hS := hS.less (j := 50) (by decide)
  walk_at "st"
  refine via (P := fun d M' => ∃ (m : Int) (o' : DO), d = .int m ∧ 8 ≤ m ∧ m ≤ 35 ∧ M' = mset M a o' ∧ Src 49 o') (fun Q' hQ' => ?_) ?_
  · refine r_dif ?_
    walk_at "st"
    refine ⟨a, 8, o, 49, rfl, mset_same, hS, by decide, by decide, fun x o1 _ _ hS1 => ?_⟩
    rw [mset_mset]
    walk_at "st"
    refine ⟨fun _ => ?_, fun _ => ?_⟩
    · walk_at "st"
      exact hQ' _ _ ⟨35, o1, rfl, by decide, by decide, rfl, hS1⟩
    · walk_at "st"
      exact hQ' _ _ ⟨8, o1, rfl, by decide, by decide, rfl, hS1⟩
  rintro _ _ ⟨m, o1, rfl, m0, m1, rfl, hS1⟩
  walk_at "st"
  refine ⟨a, m, o1, 48, rfl, mset_same, hS1, by omega, lt1000 (by omega), fun x o2 x0 x1 hS2 => ?_⟩
  rw [mset_mset]
  walk_at "st"
  refine ⟨a, o2, 45, rfl, mset_same, hS2, fun p q o3 sl hS3 => ?_⟩
  rw [mset_mset]
  walk_at "st"
  refine ⟨a, m, o3, 44, rfl, mset_same, hS3, by omega, lt1000 (by omega), fun y o4 y0 y1 hS4 => ?_⟩
  rw [mset_mset]
  obtain ⟨b, hb⟩ : ∃ b, b = 2 + x := ⟨_, rfl⟩
  obtain ⟨c, hc⟩ : ∃ c, c = 2 + y := ⟨_, rfl⟩
  rw [← hb]
  walk_at "st"
  rw [← hc]
  have b2 : 2 ≤ b := by omega
  have b36 : b ≤ 36 := by omega
  have c2 : 2 ≤ c := by omega
  have c36 : c ≤ 36 := by omega
  refine via (P := fun d M' => ∃ (r s : Int) (o' : DO), d = slD r s ∧ Ss r s ∧ r * b ≤ (108 + b) * s ∧ M' = mset M a o' ∧ Src 40 o') (fun Q' hQ' => ?_) ?_
  · refine r_dif ?_
    walk_at "st"
    refine ⟨a, 2, o4, 43, rfl, mset_same, hS4, by decide, by decide, fun z o5 _ _ hS5 => ?_⟩
    rw [mset_mset]
    walk_at "st"
    refine ⟨fun _ => ?_, fun _ => ?_⟩
    · walk_at "st"
      refine ⟨a, o5, 40, rfl, mset_same, hS5, fun r s o6 sl2 hS6 => ?_⟩
      rw [mset_mset]
      exact hQ' _ _ ⟨r, s, o6, rfl, sl_ss sl2, sl_fit sl2 b2 b36, rfl, hS6⟩
    · walk_at "st"
      refine ⟨a, o5, 42, b, p, q, c, rfl, mset_same, hS5, b2, b36, c2, c36, sl, fun r s o6 hss hrs hS6 => ?_⟩
      rw [mset_mset]
      exact hQ' _ _ ⟨r, s, o6, rfl, hss, hrs, rfl, hS6.less (by omega)⟩
  rintro _ _ ⟨r, s, o5, rfl, S2, hN, rfl, hS5⟩
  have S1 := sl_ss sl
  obtain ⟨g, v, u, B⟩ := bs_of b2 b36 c2 c36
  walk_at "st"
  refine via (P := fun d M' => ∃ (t : Nat), d = .int (t : Int) ∧ 2 ≤ t ∧ t ≤ 4 ∧ mset M a o5 = M') (fun Q' hQ' => ?_) ?_
  · refine r_dif ?_
    walk_at "sm"
    refine ⟨fun _ => ?_, fun _ => ?_⟩
    · walk_at "sm"
      exact hQ' _ _ ⟨4, rfl, by decide, by decide, rfl⟩
    · refine r_dif ?_
      walk_at "sm"
      refine ⟨fun _ => ?_, fun _ => ?_⟩
      · walk_at "sm"
        exact hQ' _ _ ⟨3, rfl, by decide, by decide, rfl⟩
      · walk_at "sm"
        exact hQ' _ _ ⟨2, rfl, by decide, by decide, rfl⟩
  rintro _ _ ⟨t, rfl, t2, t4, rfl⟩
  walk_at "sm"
  refine r_kR1 (by omega) (by omega) ?_
  rw [show ((t : Int) + 1).toNat = t + 1 by omega]
  refine for_rng0 (t + 1) (fun j δ M' => ∃ (f : D) (s8 : Option D), FirstIs v u p q r s j f ∧ M' = mset M a o5 ∧ δ = [some (.src ns), some (.ref a), some (.int m), some (gaD b p q), some (.int c), some (gaD c r s), some (.int (t : Int)), some f, s8, none, none]) ?_ ?_ _ _
    ⟨.non, none, .inl ⟨rfl, fun m hm => absurd hm (Nat.not_lt_zero _)⟩, rfl, rfl⟩
  · rintro j δ M' N hj ⟨f, s8, hf, rfl, rfl⟩ hN
    walk_at "st"
    refine r_if (r_and ?_)
    walk_at "st"
    rcases hf with ⟨rfl, hf⟩ | ⟨n, rfl, hn, hno, hnl⟩
    · refine ⟨fun _ => ?_, fun z => absurd z (by simp [DL.isNon])⟩
      walk_at "st"
      refine ⟨b, c, p, q, r, s, g, v, u, j, rfl, B, S1.q0, S2.q0, S1.pb, S1.qb, S2.pb, S2.qb, by omega, ?_⟩
      walk_at "st"
      refine ⟨fun z => ?_, fun z => ?_⟩
      · have z : ¬ fitsN v u p q r s j := by simpa using z
        walk_at "st"
        exact hN _ _ ⟨_, _, .inr ⟨j, rfl, Nat.lt_succ_self j, z, hf⟩, rfl, rfl⟩
      · have z : fitsN v u p q r s j := by simpa using z
        walk_at "st"
        refine hN _ _ ⟨_, _, .inl ⟨rfl, fun m hm => ?_⟩, rfl, rfl⟩
        by_cases e : m = j
        · subst e; exact z
        · exact hf m (by omega)
    · refine ⟨fun z => absurd z (by simp [DL.isNon]), fun _ => ⟨fun z => Bool.noConfusion z, fun _ => ?_⟩⟩
      walk_at "st"
      exact hN _ _ ⟨_, _, .inr ⟨n, rfl, by omega, hno, hnl⟩, rfl, rfl⟩
  rintro δ M' ⟨f, s8, hf, rfl, rfl⟩
  walk_at "st"
  refine ⟨b, c, p, q, r, s, rfl, .inr ⟨g, v, u, B, S1, S2, hN, fun w hw => ?_⟩⟩
  unfold tlD
  walk_at "st"
  refine viaS (P := fun δ' M' => mset M a o5 = M' ∧ δ' = [some (.src ns), some (.ref a), some (.int m), some (gaD b p q), some (.int c), some (gaD c r s), some (.int (t : Int)), some f, s8, some (.tup [.str toldW, w]), none]) (fun Nx hNx => ?_) ?_
  · have isf : w = f → dIfS (dNot (dTru (dCall sp_law_same [] dX0 (dCons (dVar 9) (dCons (dTup (dCons (dC (.str toldW)) (dCons (dVar 7) dNil))) dNil))))) (dRt (dC (.bl false))) dNx { nx := Nx, rt := Wq Q } [some (.src ns), some (.ref a), some (.int m), some (gaD b p q), some (.int c), some (gaD c r s), some (.int (t : Int)), some f, s8, some (.tup [.str toldW, w]), none] (mset M a o5) := by
      rintro rfl
      refine r_if ?_
      walk_at "st"
      refine same_me ?_ ?_
      · walk_at "st"
        refine ⟨fun z => Bool.noConfusion z, fun _ => ?_⟩
        walk_at "st"
        exact hNx _ _ ⟨rfl, rfl⟩
      · rcases hf with ⟨rfl, _⟩ | ⟨n, rfl, _⟩ <;> rfl
    rcases hf with ⟨rfl, hf⟩ | ⟨n, rfl, hn, hno, hnl⟩
    · refine r_if (r_or ?_)
      walk_at "st"
      refine ⟨fun z => absurd z (by simp [DL.isNon]), fun _ => ?_⟩
      unfold gaD
      walk_at "sm"
      refine ⟨fun z => ?_, fun z => ?_⟩
      · have z := of_decide_eq_true z
        exact isf (told_none (fits_every B S1 S2 z (hf 0 (by omega)) (hf 1 (by omega))) hw)
      · have z := of_decide_eq_false z
        obtain ⟨n, rfl, hn⟩ := told_far B S1 S2 hN (by omega) hf hw
        refine r_if (r_or ?_)
        walk_at "sm"
        refine ⟨fun z => absurd z (by decide +kernel), fun _ => ?_⟩
        refine r_or ?_
        walk_at "sm"
        refine r_isi (S := "int") rfl (b := true) (by decide +kernel) ?_
        walk_at "sm"
        refine ⟨fun z => absurd z (by decide), fun _ => ?_⟩
        refine r_or ?_
        walk_at "sm"
        refine r_isi (S := "int") rfl (b := false) (by decide +kernel) ?_
        walk_at "sm"
        refine ⟨fun z => absurd z (by decide), fun _ => ?_⟩
        walk_at "sm"
        refine ⟨fun z => absurd (of_decide_eq_true z) (by omega), fun _ => ?_⟩
        walk_at "sm"
        exact hNx _ _ ⟨rfl, rfl⟩
    · refine r_if (r_or ?_)
      walk_at "st"
      refine ⟨fun z => ⟨fun _ => isf (told_first (j := 0) hno hnl hw), fun z => Bool.noConfusion z⟩, fun z => absurd z (by simp [DL.isNon])⟩
  rintro _ _ ⟨rfl, rfl⟩
  walk_at "st"
  refine ⟨a, 49, o5, 39, rfl, mset_same, hS5, by decide, by decide, fun z o6 z0 z1 hS6 => ?_⟩
  rw [mset_mset]
  walk_at "st"
  refine ⟨50 + z, 99, rfl, by decide, bt_up (a := 10) (by unfold Bt; omega) (by decide), bt_up (a := 10) (bt_lit 10 (by decide)) (by decide), fun G l1 l2 hG e1 e2 => ?_⟩
  have hless : l1 < l2 := by
    refine Int.lt_of_mul_lt_mul_left (a := G) ?_ (Int.le_of_lt hG)
    omega
  unfold gaD
  walk_at "sm"
  refine r_if ?_
  walk_at "sm"
  refine ⟨b, c, l1, l2, r, s, rfl, .inl ⟨.inl hless, ?_⟩⟩
  walk_at "sm"
  refine same_me ?_
  walk_at "sm"
  refine ⟨fun z => Bool.noConfusion z, fun _ => ?_⟩
  walk_at "sm"
  refine r_if ?_
  walk_at "sm"
  refine ⟨b, c, p, q, l1, l2, rfl, .inl ⟨.inr hless, ?_⟩⟩
  walk_at "sm"
  refine same_me ?_
  walk_at "sm"
  refine ⟨fun z => Bool.noConfusion z, fun _ => ?_⟩
  walk_at "sm"
  have B1 : Bs b b b 1 1 := ⟨by omega, by omega, by omega, by decide, by decide, by decide, b36, b36⟩
  refine ⟨b, b, p, q, p, q, rfl, .inr ⟨b, 1, 1, B1, S1, S1, sl_fit sl b2 b36, fun w hw => ?_⟩⟩
  have hw : w = .non := told_none (fun m => fitsN_one p q p q 0 m (by
    unfold fitsN fits
    simp only [Int.pow_zero]
    show (0 * q + p * 1) * q ≤ p * q * 1
    rw [Int.zero_mul, Int.zero_add, Int.mul_one, Int.mul_one]
    exact Int.le_refl _)) hw
  subst hw
  unfold tlD
  walk_at "sm"
  refine same_me ?_
  exact Wq.drop (sub_new ha) h
end K19

set_option maxHeartbeats 0
namespace K19
open PySem PySem.Spec PyProof.Rows L2 TL DL
def top (i : Nat) : Stmt := PySem.Challenge.pw_readapart_k19_gauges_by_all_readings.main.body.getD i (.Pass ⟨0, 0, 0, 0⟩)
abbrev s_gcd_of : Stmt := top 16
abbrev N_gcd_of : List Str := ["a", "b"]
theorem sc_gcd_of : FnScope N_gcd_of ["a", "b"] (defScope s_gcd_of) := ⟨rfl, rfl, rfl, by decide +kernel, rfl, by decide +kernel, by decide +kernel⟩
abbrev s_farthest_fits : Stmt := top 18
abbrev N_farthest_fits : List Str := ["scale", "other", "slack", "slack2", "shared", "v", "u", "left"]
theorem sc_farthest_fits : FnScope N_farthest_fits ["scale", "other", "slack", "slack2"] (defScope s_farthest_fits) := ⟨rfl, rfl, rfl, by decide +kernel, rfl, by decide +kernel, by decide +kernel⟩
abbrev s_as_good : Stmt := top 19
abbrev N_as_good : List Str := ["base", "slack", "base2", "slack2", "scale", "other", "place"]
theorem sc_as_good : FnScope N_as_good ["base", "slack", "base2", "slack2"] (defScope s_as_good) := ⟨rfl, rfl, rfl, by decide +kernel, rfl, by decide +kernel, by decide +kernel⟩
abbrev s_law_source : Stmt := top 21
abbrev N_law_source : List Str := ["script", "at", "cell", "size", "small", "one"]
theorem sc_law_source : FnScope N_law_source ["script", "at"] (defScope s_law_source) := ⟨rfl, rfl, rfl, by decide +kernel, rfl, by decide +kernel, by decide +kernel⟩
abbrev s_law_pick : Stmt := top 22
abbrev N_law_pick : List Str := ["source", "many", "found"]
theorem sc_law_pick : FnScope N_law_pick ["source", "many"] (defScope s_law_pick) := ⟨rfl, rfl, rfl, by decide +kernel, rfl, by decide +kernel, by decide +kernel⟩
abbrev s_law_same : Stmt := top 23
abbrev N_law_same : List Str := ["answer", "due", "at"]
theorem sc_law_same : FnScope N_law_same ["answer", "due"] (defScope s_law_same) := ⟨rfl, rfl, rfl, by decide +kernel, rfl, by decide +kernel, by decide +kernel⟩
abbrev s_law_fault : Stmt := top 24
abbrev N_law_fault : List Str := ["error", "found"]
theorem sc_law_fault : FnScope N_law_fault ["error"] (defScope s_law_fault) := ⟨rfl, rfl, rfl, by decide +kernel, rfl, by decide +kernel, by decide +kernel⟩
abbrev s_law_power : Stmt := top 25
abbrev N_law_power : List Str := ["base", "many", "found", "turn"]
theorem sc_law_power : FnScope N_law_power ["base", "many"] (defScope s_law_power) := ⟨rfl, rfl, rfl, by decide +kernel, rfl, by decide +kernel, by decide +kernel⟩
abbrev s_law_common : Stmt := top 26
abbrev N_law_common : List Str := ["a", "b", "left"]
theorem sc_law_common : FnScope N_law_common ["a", "b"] (defScope s_law_common) := ⟨rfl, rfl, rfl, by decide +kernel, rfl, by decide +kernel, by decide +kernel⟩
abbrev s_law_ratio : Stmt := top 27
abbrev N_law_ratio : List Str := ["p", "q", "shared"]
theorem sc_law_ratio : FnScope N_law_ratio ["p", "q"] (defScope s_law_ratio) := ⟨rfl, rfl, rfl, by decide +kernel, rfl, by decide +kernel, by decide +kernel⟩
abbrev s_law_gauge_lies : Stmt := top 28
abbrev N_law_gauge_lies : List Str := ["one", "two", "place", "scale", "other", "p", "q", "r", "s", "m", "low", "high", "unit", "k"]
theorem sc_law_gauge_lies : FnScope N_law_gauge_lies ["one", "two", "place"] (defScope s_law_gauge_lies) := ⟨rfl, rfl, rfl, by decide +kernel, rfl, by decide +kernel, by decide +kernel⟩
abbrev s_law_gauge_slack : Stmt := top 29
abbrev N_law_gauge_slack : List Str := ["source", "q"]
theorem sc_law_gauge_slack : FnScope N_law_gauge_slack ["source"] (defScope s_law_gauge_slack) := ⟨rfl, rfl, rfl, by decide +kernel, rfl, by decide +kernel, by decide +kernel⟩
abbrev s_law_gauge_tight : Stmt := top 30
abbrev N_law_gauge_tight : List Str := ["source", "one", "base", "v", "p", "q", "n", "d", "found"]
theorem sc_law_gauge_tight : FnScope N_law_gauge_tight ["source", "one", "base"] (defScope s_law_gauge_tight) := ⟨rfl, rfl, rfl, by decide +kernel, rfl, by decide +kernel, by decide +kernel⟩
abbrev s_law_done : Stmt := top 31
abbrev N_law_done : List Str := ["one", "two", "found", "error"]
theorem sc_law_done : FnScope N_law_done ["one", "two"] (defScope s_law_done) := ⟨rfl, rfl, rfl, by decide +kernel, rfl, by decide +kernel, by decide +kernel⟩
abbrev s_law : Stmt := top 32
abbrev N_law : List Str := ["script", "source", "many", "one", "base", "two", "top", "first", "place", "told", "less"]
theorem sc_law : FnScope N_law ["script"] (defScope s_law) := ⟨rfl, rfl, rfl, by decide +kernel, rfl, by decide +kernel, by decide +kernel⟩
section
variable [Ghost] {P : Program} {w : World} {K : PySem.W.Frag} {mg : Str → Option Value} {base : Heap} {k : Nat} {f : Addr} {cdv : Value} {A : Around} {outer : List Env} {s : Shared} {H : Hp} {E : XK}
theorem body_gcd_of (b_abs : mg "abs" = none) (hr : Room k (A.deeper (envOfC "gcd_of" (defScope s_gcd_of) s.heap.objs.size f cdv))) :
    DSs (cxOf CX0 P w K mg base N_gcd_of "gcd_of" (defScope s_gcd_of) f cdv A outer s H E).nox (defBody s_gcd_of) t_gcd_of :=
  (dss_cons (ds_while PassesOwn.never (dt_ne hr.units (de_var 1) de_int) (dss_one (ds_par (i := 0) (j := 1) rfl sc_gcd_of.nd (da_cons (de_var 1) (da_cons (de_mod (de_var 0) (de_var 1)) da_nil))))) (dss_one (ds_ret (de_callB call_abs rel_abs (by rfl) b_abs (by decide +kernel) (da_cons (de_var 0) da_nil)))))
theorem body_farthest_fits (C_gcd_of : Cal P w K mg base k "gcd_of" ["a", "b"] sp_gcd_of) (hr : Room k (A.deeper (envOfC "farthest_fits" (defScope s_farthest_fits) s.heap.objs.size f cdv))) :
    DSs (cxOf CX0 P w K mg base N_farthest_fits "farthest_fits" (defScope s_farthest_fits) f cdv A outer s H E).nox (defBody s_farthest_fits) t_farthest_fits :=
  (dss_cons (ds_set (i := 4) sc_farthest_fits.nd (de_cal C_gcd_of hr (da_cons (de_var 0) (da_cons (de_var 1) da_nil)))) (dss_cons (ds_set (i := 5) sc_farthest_fits.nd (de_fdiv (de_var 0) (de_var 4))) (dss_cons (ds_set (i := 6) sc_farthest_fits.nd (de_fdiv (de_var 1) (de_var 4))) (dss_cons (ds_set (i := 7) sc_farthest_fits.nd (de_add false (de_mul false (de_fdiv (de_var 5) de_int) (de_idx (de_var 2) de_int)) (de_mul false (de_idx (de_var 2) de_int) (de_var 6)))) (dss_one (ds_ret (de_le (de_mul false (de_var 7) (de_idx (de_var 3) de_int)) (de_mul false (de_mul false (de_idx (de_var 3) de_int) (de_idx (de_var 2) de_int)) (de_var 5)))))))))
theorem body_as_good (C_farthest_fits : Cal P w K mg base k "farthest_fits" ["scale", "other", "slack", "slack2"] sp_farthest_fits) (X_BadNumber : XC P w K mg base 1 "BadNumber" ["what"]) (hk2 : 2 ≤ k) {W : DWX} (tk : Takes (cxOf (L2.CX P w) P w K mg base N_as_good "as_good" (defScope s_as_good) f cdv A outer s H E) (liftW K W)) (hr : Room k (A.deeper (envOfC "as_good" (defScope s_as_good) s.heap.objs.size f cdv))) :
    DSs (cxOf (L2.CX P w) P w K mg base N_as_good "as_good" (defScope s_as_good) f cdv A outer s H E) (defBody s_as_good) (t_as_good W) :=
  (dss_cons (ds_if (PW.pt (dw_or (dt_lt (de_idx (de_var 1) de_int) (de_idx (de_var 1) de_int)) (dw_or1 (dt_lt (de_idx (de_var 3) de_int) (de_idx (de_var 3) de_int))))) (dss_one (ds_raise (k := 1) X_BadNumber rfl tk (hr.mono hk2) (da_cons (de_str [115, 108, 97, 99, 107]) da_nil))) dss_nil) (dss_cons (ds_set (i := 4) sc_as_good.nd de_int) (dss_cons (ds_set (i := 5) sc_as_good.nd de_int) (dss_cons (ds_set (i := 6) sc_as_good.nd de_int) (dss_cons (ds_while (passes_of rfl) (dt_tru (de_cal C_farthest_fits hr (da_cons (de_var 4) (da_cons (de_var 5) (da_cons (de_var 1) (da_cons (de_var 3) da_nil)))))) (dss_cons (ds_if (PW.pt (dw_or (dt_eq hr.units (de_var 0) (de_var 2)) (dw_or1 (PW.pt (dw_and (dt_gt (de_var 0) (de_var 2)) (dw_and1 (dt_eq hr.units (de_var 6) de_int))))))) (dss_one (ds_ret de_non)) dss_nil) (dss_cons (ds_set (i := 4) sc_as_good.nd (de_mul false (de_var 4) (de_var 0))) (dss_cons (ds_set (i := 5) sc_as_good.nd (de_mul false (de_var 5) (de_var 2))) (dss_one (ds_aug (i := 6) sc_as_good.nd pip_add rel_iadd de_int)))))) (dss_one (ds_ret (de_var 6))))))))
theorem body_law_source (b_len : mg "len" = none) (b_int : mg "int" = none) (b_sum : mg "sum" = none) (b_abs : mg "abs" = none) (hr : Room k (A.deeper (envOfC "_law_source" (defScope s_law_source) s.heap.objs.size f cdv))) :
    DSs (cxOf CX0 P w K mg base N_law_source "_law_source" (defScope s_law_source) f cdv A outer s H E).nox (defBody s_law_source) t_law_source :=
  (dss_cons (ds_set (i := 2) sc_law_source.nd (de_ifx (dt_lt (de_var 1) (de_callB call_len rel_len (by rfl) b_len (by decide +kernel) (da_cons (de_var 0) da_nil))) (de_callTy call_intAll rel_int (by rfl) b_int (by decide +kernel) (da_cons (de_idx (de_var 0) (de_var 1)) da_nil)) (de_add false (de_mul false de_int (de_callB (cr_sum rfl) rel_sum (by rfl) b_sum (by decide +kernel) (da_cons (de_lc (own := [("one", 5)]) false rfl sc_law_source.nd (di_seq (de_slice false (de_var 0) do_none (do_some de_int))) (blkOk_by (own := [("one", 5)]) (N := N_law_source) (sc := defScope s_law_source) (by decide +kernel)) (relg_name 5) (fun _ _ _ _ _ => (pg_name (i := 5) sc_law_source.nd rfl (by first | exact Or.inl rfl | exact Or.inr rfl))) (fun _ _ _ _ _ => dps_nil) (fun _ _ _ _ _ => (de_mod (de_callTy call_intAll rel_int (by rfl) b_int (by decide +kernel) (da_cons (de_var 5) da_nil)) de_int))) da_nil))) de_int))) (dss_cons (ds_set (i := 3) sc_law_source.nd (de_mod (de_callB call_abs rel_abs (by rfl) b_abs (by decide +kernel) (da_cons (de_var 2) da_nil)) (de_mul false (de_pow de_int de_int) (de_pow de_int de_int)))) (dss_cons (ds_set (i := 4) sc_law_source.nd (de_mod (de_callTy call_intAll rel_int (by rfl) b_int (by decide +kernel) (da_cons (de_add false (de_add false (de_add false (de_mul false de_int (de_var 3)) (de_ifx (dt_lt (de_var 2) de_int) de_int de_int)) (de_mul false (de_var 1) de_int)) de_int) da_nil)) de_int)) (dss_one (ds_ret (de_lst true (da_cons (de_ifx (dt_ge (de_var 3) (de_pow de_int de_int)) (de_var 3) de_int) (da_cons (de_mod (de_callTy call_intAll rel_int (by rfl) b_int (by decide +kernel) (da_cons (de_mul false (de_add false (de_var 4) de_int) (de_add false (de_var 4) de_int)) da_nil)) de_int) (da_cons (de_var 1) da_nil)))))))))
theorem body_law_pick (b_int : mg "int" = none) (hr : Room k (A.deeper (envOfC "_law_pick" (defScope s_law_pick) s.heap.objs.size f cdv))) :
    DSs (cxOf CX0 P w K mg base N_law_pick "_law_pick" (defScope s_law_pick) f cdv A outer s H E).nox (defBody s_law_pick) t_law_pick :=
  (dss_cons (ds_if (dt_gt (de_idx (de_var 0) de_int) de_int) (dss_cons (ds_set (i := 2) sc_law_pick.nd (de_mod (de_callTy call_intAll rel_int (by rfl) b_int (by decide +kernel) (da_cons (de_idx (de_var 0) de_int) da_nil)) (de_var 1))) (dss_cons (ds_setIx (de_var 0) de_int (de_fdiv (de_idx (de_var 0) de_int) (de_var 1))) (dss_one (ds_ret (de_var 2))))) dss_nil) (dss_cons (ds_augIx pip_add rel_iadd (de_var 0) de_int de_int) (dss_cons (ds_setIx (de_var 0) de_int (de_mod (de_callTy call_intAll rel_int (by rfl) b_int (by decide +kernel) (da_cons (de_add false (de_mul false (de_idx (de_var 0) de_int) de_int) (de_mul false (de_idx (de_var 0) de_int) de_int)) da_nil)) de_int)) (dss_one (ds_ret (de_mod (de_fdiv (de_mod (de_callTy call_intAll rel_int (by rfl) b_int (by decide +kernel) (da_cons (de_add false (de_mul false (de_idx (de_var 0) de_int) de_int) (de_mul false (de_idx (de_var 0) de_int) de_int)) da_nil)) de_int) de_int) (de_var 1)))))))
theorem body_law_same (n : Nat) (C_law_same : Cal P w K mg base k "_law_same" ["answer", "due"] (spS n)) (b_bool : mg "bool" = none) (b_isinstance : mg "isinstance" = none) (b_int : mg "int" = none) (b_str : mg "str" = none) (b_tuple : mg "tuple" = none) (b_list : mg "list" = none) (b_len : mg "len" = none) (b_range : mg "range" = none) (b_all : mg "all" = none) (hr : Room k (A.deeper (envOfC "_law_same" (defScope s_law_same) s.heap.objs.size f cdv))) :
    DSs (cxOf CX0 P w K mg base N_law_same "_law_same" (defScope s_law_same) f cdv A outer s H E).nox (defBody s_law_same) (t_law_same n) :=
  (dss_cons (ds_if (PW.pt (dw_or (dt_isN (de_var 1) de_non) (dw_or1 (dt_isN (de_var 0) de_non)))) (dss_one (ds_ret (de_and (de_isN (de_var 1) de_non) (de_one (de_isN (de_var 0) de_non))))) dss_nil) (dss_cons (ds_if (PW.pt (dw_or (dt_tru (de_callB call_isi rel_isi (by rfl) b_isinstance (by decide +kernel) (da_cons (de_var 1) (da_cons (de_ty "bool" (by rfl) b_bool (by decide +kernel)) da_nil)))) (dw_or1 (dt_tru (de_callB call_isi rel_isi (by rfl) b_isinstance (by decide +kernel) (da_cons (de_var 0) (da_cons (de_ty "bool" (by rfl) b_bool (by decide +kernel)) da_nil))))))) (dss_one (ds_ret (de_and (de_callB call_isi rel_isi (by rfl) b_isinstance (by decide +kernel) (da_cons (de_var 1) (da_cons (de_ty "bool" (by rfl) b_bool (by decide +kernel)) da_nil))) (de_and (de_callB call_isi rel_isi (by rfl) b_isinstance (by decide +kernel) (da_cons (de_var 0) (da_cons (de_ty "bool" (by rfl) b_bool (by decide +kernel)) da_nil))) (de_one (de_eq hr.units (de_var 0) (de_var 1))))))) dss_nil) (dss_cons (ds_if (dt_tru (de_callB call_isi rel_isi (by rfl) b_isinstance (by decide +kernel) (da_cons (de_var 1) (da_cons (de_ty "int" (by rfl) b_int (by decide +kernel)) da_nil)))) (dss_one (ds_ret (de_and (de_callB call_isi rel_isi (by rfl) b_isinstance (by decide +kernel) (da_cons (de_var 0) (da_cons (de_ty "int" (by rfl) b_int (by decide +kernel)) da_nil))) (de_one (de_eq hr.units (de_var 0) (de_var 1)))))) dss_nil) (dss_cons (ds_if (dt_tru (de_callB call_isi rel_isi (by rfl) b_isinstance (by decide +kernel) (da_cons (de_var 1) (da_cons (de_ty "str" (by rfl) b_str (by decide +kernel)) da_nil)))) (dss_one (ds_ret (de_and (de_callB call_isi rel_isi (by rfl) b_isinstance (by decide +kernel) (da_cons (de_var 0) (da_cons (de_ty "str" (by rfl) b_str (by decide +kernel)) da_nil))) (de_one (de_eq hr.units (de_var 0) (de_var 1)))))) dss_nil) (dss_cons (ds_if (PW.pt (dw_and (dt_tru (de_callB call_isi rel_isi (by rfl) b_isinstance (by decide +kernel) (da_cons (de_var 1) (da_cons (de_ty "tuple" (by rfl) b_tuple (by decide +kernel)) da_nil)))) (dw_and1 (dt_not (dt_tru (de_callB call_isi rel_isi (by rfl) b_isinstance (by decide +kernel) (da_cons (de_var 0) (da_cons (de_ty "tuple" (by rfl) b_tuple (by decide +kernel)) da_nil)))))))) (dss_one (ds_ret de_bl)) dss_nil) (dss_cons (ds_if (PW.pt (dw_and (dt_tru (de_callB call_isi rel_isi (by rfl) b_isinstance (by decide +kernel) (da_cons (de_var 1) (da_cons (de_ty "list" (by rfl) b_list (by decide +kernel)) da_nil)))) (dw_and1 (dt_not (dt_tru (de_callB call_isi rel_isi (by rfl) b_isinstance (by decide +kernel) (da_cons (de_var 0) (da_cons (de_ty "list" (by rfl) b_list (by decide +kernel)) da_nil)))))))) (dss_one (ds_ret de_bl)) dss_nil) (dss_cons (ds_if (dt_ne hr.units (de_callB call_len rel_len (by rfl) b_len (by decide +kernel) (da_cons (de_var 0) da_nil)) (de_callB call_len rel_len (by rfl) b_len (by decide +kernel) (da_cons (de_var 1) da_nil))) (dss_one (ds_ret de_bl)) dss_nil) (dss_one (ds_ret (de_callB (cr_all rfl) rel_all (by rfl) b_all (by decide +kernel) (da_cons (de_lc (own := [("at", 2)]) false rfl sc_law_same.nd (di_r1 (by rfl) b_range (da_cons (de_callB call_len rel_len (by rfl) b_len (by decide +kernel) (da_cons (de_var 1) da_nil)) da_nil)) (blkOk_by (own := [("at", 2)]) (N := N_law_same) (sc := defScope s_law_same) (by decide +kernel)) (relg_name 2) (fun _ _ _ _ _ => (pg_name (i := 2) sc_law_same.nd rfl (by first | exact Or.inl rfl | exact Or.inr rfl))) (fun _ _ _ _ _ => dps_nil) (fun _ _ _ _ _ => (de_cal C_law_same hr (da_cons (de_idx (de_var 0) (de_var 2)) (da_cons (de_idx (de_var 1) (de_var 2)) da_nil))))) da_nil)))))))))))
theorem body_law_fault (m_TooMany : mg "TooMany" = some (.ref (clA K "TooMany"))) (m_BadText : mg "BadText" = some (.ref (clA K "BadText"))) (m_BadMeaning : mg "BadMeaning" = some (.ref (clA K "BadMeaning"))) (m_BadPolynomial : mg "BadPolynomial" = some (.ref (clA K "BadPolynomial"))) (m_BadNumber : mg "BadNumber" = some (.ref (clA K "BadNumber"))) (m_BadMove : mg "BadMove" = some (.ref (clA K "BadMove"))) (m_BadBox : mg "BadBox" = some (.ref (clA K "BadBox"))) (m_BadAsk : mg "BadAsk" = some (.ref (clA K "BadAsk"))) (m_BadReading : mg "BadReading" = some (.ref (clA K "BadReading"))) (m_BadCode : mg "BadCode" = some (.ref (clA K "BadCode"))) (m_BadPaper : mg "BadPaper" = some (.ref (clA K "BadPaper"))) (m_BadCourse : mg "BadCourse" = some (.ref (clA K "BadCourse"))) (m_BadDesk : mg "BadDesk" = some (.ref (clA K "BadDesk"))) (m_ApartError : mg "ApartError" = some (.ref (clA K "ApartError"))) (b_isinstance : mg "isinstance" = none) (b_ValueError : mg "ValueError" = none) (b_len : mg "len" = none) {p : Addr × Obj} {d : Addr} {cn : Str} (hF : FX K cn (isL cn)) (hot : HotE (L2H.cxH CX0 P w K mg base N_law_fault "_law_fault" (defScope s_law_fault) f cdv A outer s H E0 p) p.1 d cn) (hr : L2H.RoomH k (A.deeper (envOfC "_law_fault" (defScope s_law_fault) s.heap.objs.size f cdv))) :
    DSs (L2H.cxH CX0 P w K mg base N_law_fault "_law_fault" (defScope s_law_fault) f cdv A outer s H E0 p) (defBody s_law_fault) (t_law_fault p.1 d cn) :=
  (dss_cons (ds_set (i := 1) sc_law_fault.nd (de_lst true da_nil)) (dss_cons (ds_if (dt_tru (de_isE hF.exc hot (hF.kit "TooMany" (isB cn "TooMany") (by unfold isL; simp)) m_TooMany b_isinstance (de_var 0))) (dss_one (ds_expr (de_bm tyV_list rel_append PySem.F.plainAttrs_list PySem.F.slot_list_append PySem.F.type_list_append mt_append (de_var 1) (da_cons (de_tup (da_cons (de_str [84, 111, 111, 77, 97, 110, 121]) (da_cons (de_fld hF.xf hot (hF.noat _ (by simp)) (de_var 0)) da_nil))) da_nil)))) dss_nil) (dss_cons (ds_if (dt_tru (de_isE hF.exc hot (hF.kit "BadText" (isB cn "BadText") (by unfold isL; simp)) m_BadText b_isinstance (de_var 0))) (dss_one (ds_expr (de_bm tyV_list rel_append PySem.F.plainAttrs_list PySem.F.slot_list_append PySem.F.type_list_append mt_append (de_var 1) (da_cons (de_tup (da_cons (de_str [66, 97, 100, 84, 101, 120, 116]) (da_cons (de_fld hF.xf hot (hF.noat _ (by simp)) (de_var 0)) da_nil))) da_nil)))) dss_nil) (dss_cons (ds_if (dt_tru (de_isE hF.exc hot (hF.kit "BadMeaning" (isB cn "BadMeaning") (by unfold isL; simp)) m_BadMeaning b_isinstance (de_var 0))) (dss_one (ds_expr (de_bm tyV_list rel_append PySem.F.plainAttrs_list PySem.F.slot_list_append PySem.F.type_list_append mt_append (de_var 1) (da_cons (de_tup (da_cons (de_str [66, 97, 100, 77, 101, 97, 110, 105, 110, 103]) (da_cons (de_fld hF.xf hot (hF.noat _ (by simp)) (de_var 0)) (da_cons (de_fld hF.xf hot (hF.noat _ (by simp)) (de_var 0)) da_nil)))) da_nil)))) dss_nil) (dss_cons (ds_if (dt_tru (de_isE hF.exc hot (hF.kit "BadPolynomial" (isB cn "BadPolynomial") (by unfold isL; simp)) m_BadPolynomial b_isinstance (de_var 0))) (dss_one (ds_expr (de_bm tyV_list rel_append PySem.F.plainAttrs_list PySem.F.slot_list_append PySem.F.type_list_append mt_append (de_var 1) (da_cons (de_tup (da_cons (de_str [66, 97, 100, 80, 111, 108, 121, 110, 111, 109, 105, 97, 108]) (da_cons (de_fld hF.xf hot (hF.noat _ (by simp)) (de_var 0)) da_nil))) da_nil)))) dss_nil) (dss_cons (ds_if (dt_tru (de_isE hF.exc hot (hF.kit "BadNumber" (isB cn "BadNumber") (by unfold isL; simp)) m_BadNumber b_isinstance (de_var 0))) (dss_one (ds_expr (de_bm tyV_list rel_append PySem.F.plainAttrs_list PySem.F.slot_list_append PySem.F.type_list_append mt_append (de_var 1) (da_cons (de_tup (da_cons (de_str [66, 97, 100, 78, 117, 109, 98, 101, 114]) (da_cons (de_fld hF.xf hot (hF.noat _ (by simp)) (de_var 0)) da_nil))) da_nil)))) dss_nil) (dss_cons (ds_if (dt_tru (de_isE hF.exc hot (hF.kit "BadMove" (isB cn "BadMove") (by unfold isL; simp)) m_BadMove b_isinstance (de_var 0))) (dss_one (ds_expr (de_bm tyV_list rel_append PySem.F.plainAttrs_list PySem.F.slot_list_append PySem.F.type_list_append mt_append (de_var 1) (da_cons (de_tup (da_cons (de_str [66, 97, 100, 77, 111, 118, 101]) (da_cons (de_fld hF.xf hot (hF.noat _ (by simp)) (de_var 0)) da_nil))) da_nil)))) dss_nil) (dss_cons (ds_if (dt_tru (de_isE hF.exc hot (hF.kit "BadBox" (isB cn "BadBox") (by unfold isL; simp)) m_BadBox b_isinstance (de_var 0))) (dss_one (ds_expr (de_bm tyV_list rel_append PySem.F.plainAttrs_list PySem.F.slot_list_append PySem.F.type_list_append mt_append (de_var 1) (da_cons (de_tup (da_cons (de_str [66, 97, 100, 66, 111, 120]) (da_cons (de_fld hF.xf hot (hF.noat _ (by simp)) (de_var 0)) da_nil))) da_nil)))) dss_nil) (dss_cons (ds_if (dt_tru (de_isE hF.exc hot (hF.kit "BadAsk" (isB cn "BadAsk") (by unfold isL; simp)) m_BadAsk b_isinstance (de_var 0))) (dss_one (ds_expr (de_bm tyV_list rel_append PySem.F.plainAttrs_list PySem.F.slot_list_append PySem.F.type_list_append mt_append (de_var 1) (da_cons (de_tup (da_cons (de_str [66, 97, 100, 65, 115, 107]) (da_cons (de_fld hF.xf hot (hF.noat _ (by simp)) (de_var 0)) da_nil))) da_nil)))) dss_nil) (dss_cons (ds_if (dt_tru (de_isE hF.exc hot (hF.kit "BadReading" (isB cn "BadReading") (by unfold isL; simp)) m_BadReading b_isinstance (de_var 0))) (dss_one (ds_expr (de_bm tyV_list rel_append PySem.F.plainAttrs_list PySem.F.slot_list_append PySem.F.type_list_append mt_append (de_var 1) (da_cons (de_tup (da_cons (de_str [66, 97, 100, 82, 101, 97, 100, 105, 110, 103]) (da_cons (de_fld hF.xf hot (hF.noat _ (by simp)) (de_var 0)) (da_cons (de_fld hF.xf hot (hF.noat _ (by simp)) (de_var 0)) da_nil)))) da_nil)))) dss_nil) (dss_cons (ds_if (dt_tru (de_isE hF.exc hot (hF.kit "BadCode" (isB cn "BadCode") (by unfold isL; simp)) m_BadCode b_isinstance (de_var 0))) (dss_one (ds_expr (de_bm tyV_list rel_append PySem.F.plainAttrs_list PySem.F.slot_list_append PySem.F.type_list_append mt_append (de_var 1) (da_cons (de_tup (da_cons (de_str [66, 97, 100, 67, 111, 100, 101]) (da_cons (de_fld hF.xf hot (hF.noat _ (by simp)) (de_var 0)) da_nil))) da_nil)))) dss_nil) (dss_cons (ds_if (dt_tru (de_isE hF.exc hot (hF.kit "BadPaper" (isB cn "BadPaper") (by unfold isL; simp)) m_BadPaper b_isinstance (de_var 0))) (dss_one (ds_expr (de_bm tyV_list rel_append PySem.F.plainAttrs_list PySem.F.slot_list_append PySem.F.type_list_append mt_append (de_var 1) (da_cons (de_tup (da_cons (de_str [66, 97, 100, 80, 97, 112, 101, 114]) (da_cons (de_fld hF.xf hot (hF.noat _ (by simp)) (de_var 0)) da_nil))) da_nil)))) dss_nil) (dss_cons (ds_if (dt_tru (de_isE hF.exc hot (hF.kit "BadCourse" (isB cn "BadCourse") (by unfold isL; simp)) m_BadCourse b_isinstance (de_var 0))) (dss_one (ds_expr (de_bm tyV_list rel_append PySem.F.plainAttrs_list PySem.F.slot_list_append PySem.F.type_list_append mt_append (de_var 1) (da_cons (de_tup (da_cons (de_str [66, 97, 100, 67, 111, 117, 114, 115, 101]) (da_cons (de_fld hF.xf hot (hF.noat _ (by simp)) (de_var 0)) (da_cons (de_fld hF.xf hot (hF.noat _ (by simp)) (de_var 0)) da_nil)))) da_nil)))) dss_nil) (dss_cons (ds_if (dt_tru (de_isE hF.exc hot (hF.kit "BadDesk" (isB cn "BadDesk") (by unfold isL; simp)) m_BadDesk b_isinstance (de_var 0))) (dss_one (ds_expr (de_bm tyV_list rel_append PySem.F.plainAttrs_list PySem.F.slot_list_append PySem.F.type_list_append mt_append (de_var 1) (da_cons (de_tup (da_cons (de_str [66, 97, 100, 68, 101, 115, 107]) (da_cons (de_fld hF.xf hot (hF.noat _ (by simp)) (de_var 0)) da_nil))) da_nil)))) dss_nil) (dss_cons (ds_if (PW.pt (dw_or (dt_not (dt_tru (de_isE hF.exc hot (hF.kit "ApartError" (isB cn "ApartError") (by unfold isL; simp)) m_ApartError b_isinstance (de_var 0)))) (dw_or (dt_not (dt_tru (de_isEB hF.exc hot hF.kitV b_ValueError (by rfl) b_isinstance (de_var 0)))) (dw_or1 (dt_ne (unitsH hr) (de_callB call_len rel_len (by rfl) b_len (by decide +kernel) (da_cons (de_var 1) da_nil)) de_int))))) (dss_one (ds_ret (de_tup (da_cons (de_str [115, 101, 118, 101, 114, 97, 108]) da_nil)))) dss_nil) (dss_one (ds_ret (de_idx (de_var 1) de_int))))))))))))))))))
theorem body_law_power (b_range : mg "range" = none) (hr : Room k (A.deeper (envOfC "_law_power" (defScope s_law_power) s.heap.objs.size f cdv))) :
    DSs (cxOf CX0 P w K mg base N_law_power "_law_power" (defScope s_law_power) f cdv A outer s H E).nox (defBody s_law_power) t_law_power :=
  (dss_cons (ds_set (i := 2) sc_law_power.nd de_int) (dss_cons (ds_for (vs := [3]) PassesOwn.never rfl (di_r1 (by rfl) b_range (da_cons (de_var 1) da_nil)) (pg_name (i := 3) sc_law_power.nd rfl (by first | exact Or.inl rfl | exact Or.inr rfl)) (relg_name 3) (dss_one (ds_set (i := 2) sc_law_power.nd (de_mul false (de_var 2) (de_var 0))))) (dss_one (ds_ret (de_var 2)))))
theorem body_law_common (b_abs : mg "abs" = none) (hr : Room k (A.deeper (envOfC "_law_common" (defScope s_law_common) s.heap.objs.size f cdv))) :
    DSs (cxOf CX0 P w K mg base N_law_common "_law_common" (defScope s_law_common) f cdv A outer s H E).nox (defBody s_law_common) t_law_common :=
  (dss_cons (ds_while PassesOwn.never (dt_ne hr.units (de_var 1) de_int) (dss_cons (ds_set (i := 2) sc_law_common.nd (de_sub (de_var 0) (de_mul false (de_fdiv (de_var 0) (de_var 1)) (de_var 1)))) (dss_cons (ds_set (i := 0) sc_law_common.nd (de_var 1)) (dss_one (ds_set (i := 1) sc_law_common.nd (de_var 2)))))) (dss_one (ds_ret (de_callB call_abs rel_abs (by rfl) b_abs (by decide +kernel) (da_cons (de_var 0) da_nil)))))
theorem body_law_ratio (C_law_common : Cal P w K mg base k "_law_common" ["a", "b"] sp_law_common) (hr : Room k (A.deeper (envOfC "_law_ratio" (defScope s_law_ratio) s.heap.objs.size f cdv))) :
    DSs (cxOf CX0 P w K mg base N_law_ratio "_law_ratio" (defScope s_law_ratio) f cdv A outer s H E).nox (defBody s_law_ratio) t_law_ratio :=
  (dss_cons (ds_set (i := 2) sc_law_ratio.nd (de_cal C_law_common hr (da_cons (de_var 0) (da_cons (de_var 1) da_nil)))) (dss_cons (ds_if (dt_lt (de_var 1) de_int) (dss_one (ds_set (i := 2) sc_law_ratio.nd (de_neg (de_var 2)))) dss_nil) (dss_one (ds_ret (de_tup (da_cons (de_fdiv (de_var 0) (de_var 2)) (da_cons (de_fdiv (de_var 1) (de_var 2)) da_nil)))))))
theorem body_law_gauge_lies (C_law_power : Cal P w K mg base k "_law_power" ["base", "many"] sp_law_power) (b_range : mg "range" = none) (hr : Room k (A.deeper (envOfC "_law_gauge_lies" (defScope s_law_gauge_lies) s.heap.objs.size f cdv))) :
    DSs (cxOf CX0 P w K mg base N_law_gauge_lies "_law_gauge_lies" (defScope s_law_gauge_lies) f cdv A outer s H E).nox (defBody s_law_gauge_lies) t_law_gauge_lies :=
  (dss_cons (ds_set (i := 3) sc_law_gauge_lies.nd (de_cal C_law_power hr (da_cons (de_idx (de_var 0) de_int) (da_cons (de_var 2) da_nil)))) (dss_cons (ds_set (i := 4) sc_law_gauge_lies.nd (de_cal C_law_power hr (da_cons (de_idx (de_var 1) de_int) (da_cons (de_var 2) da_nil)))) (dss_cons (ds_asg (vs := [5, 6]) (pg_tup rfl (pgs_cons (pg_name (i := 5) sc_law_gauge_lies.nd rfl (by first | exact Or.inl rfl | exact Or.inr rfl)) (pgs_cons (pg_name (i := 6) sc_law_gauge_lies.nd rfl (by first | exact Or.inl rfl | exact Or.inr rfl)) pgs_nil))) (relg_tup 2 rfl (relgs_cons (relg_name 5) (relgs_cons (relg_name 6) relgs_nil))) (de_idx (de_var 0) de_int)) (dss_cons (ds_asg (vs := [7, 8]) (pg_tup rfl (pgs_cons (pg_name (i := 7) sc_law_gauge_lies.nd rfl (by first | exact Or.inl rfl | exact Or.inr rfl)) (pgs_cons (pg_name (i := 8) sc_law_gauge_lies.nd rfl (by first | exact Or.inl rfl | exact Or.inr rfl)) pgs_nil))) (relg_tup 2 rfl (relgs_cons (relg_name 7) (relgs_cons (relg_name 8) relgs_nil))) (de_idx (de_var 1) de_int)) (dss_cons (ds_for (vs := [9]) PassesOwn.never rfl (di_r1 (by rfl) b_range (da_cons (de_var 3) da_nil)) (pg_name (i := 9) sc_law_gauge_lies.nd rfl (by first | exact Or.inl rfl | exact Or.inr rfl)) (relg_name 9) (dss_cons (ds_set (i := 10) sc_law_gauge_lies.nd (de_mul false (de_mul false (de_sub (de_mul false (de_var 9) (de_var 6)) (de_var 5)) (de_var 8)) (de_var 4))) (dss_cons (ds_set (i := 11) sc_law_gauge_lies.nd (de_mul false (de_mul false (de_add false (de_mul false (de_var 9) (de_var 6)) (de_var 5)) (de_var 8)) (de_var 4))) (dss_cons (ds_set (i := 12) sc_law_gauge_lies.nd (de_mul false (de_var 3) (de_var 6))) (dss_cons (ds_set (i := 13) sc_law_gauge_lies.nd (de_fdiv (de_add false (de_fdiv (de_var 10) (de_var 12)) (de_var 7)) (de_var 8))) (dss_one (ds_if (dt_lt (de_mul false (de_add false (de_mul false (de_var 13) (de_var 8)) (de_var 7)) (de_var 12)) (de_var 11)) (dss_one (ds_ret de_bl)) dss_nil))))))) (dss_one (ds_ret de_bl)))))))
theorem body_law_gauge_slack (C_law_pick : Cal P w K mg base k "_law_pick" ["source", "many"] sp_law_pick) (C_law_ratio : Cal P w K mg base k "_law_ratio" ["p", "q"] sp_law_ratio) (hr : Room k (A.deeper (envOfC "_law_gauge_slack" (defScope s_law_gauge_slack) s.heap.objs.size f cdv))) :
    DSs (cxOf CX0 P w K mg base N_law_gauge_slack "_law_gauge_slack" (defScope s_law_gauge_slack) f cdv A outer s H E).nox (defBody s_law_gauge_slack) t_law_gauge_slack :=
  (dss_cons (ds_if (dt_eq hr.units (de_cal C_law_pick hr (da_cons (de_var 0) (da_cons de_int da_nil))) de_int) (dss_one (ds_ret (de_tup (da_cons de_int (da_cons de_int da_nil))))) dss_nil) (dss_cons (ds_set (i := 1) sc_law_gauge_slack.nd (de_add false de_int (de_cal C_law_pick hr (da_cons (de_var 0) (da_cons de_int da_nil))))) (dss_one (ds_ret (de_cal C_law_ratio hr (da_cons (de_add false (de_var 1) (de_cal C_law_pick hr (da_cons (de_var 0) (da_cons (de_add false (de_mul false de_int (de_var 1)) de_int) da_nil)))) (da_cons (de_var 1) da_nil)))))))
theorem body_law_gauge_tight (C_law_common : Cal P w K mg base k "_law_common" ["a", "b"] sp_law_common) (C_law_pick : Cal P w K mg base k "_law_pick" ["source", "many"] sp_law_pick) (C_law_ratio : Cal P w K mg base k "_law_ratio" ["p", "q"] sp_law_ratio) (hr : Room k (A.deeper (envOfC "_law_gauge_tight" (defScope s_law_gauge_tight) s.heap.objs.size f cdv))) :
    DSs (cxOf CX0 P w K mg base N_law_gauge_tight "_law_gauge_tight" (defScope s_law_gauge_tight) f cdv A outer s H E).nox (defBody s_law_gauge_tight) t_law_gauge_tight :=
  (dss_cons (ds_set (i := 3) sc_law_gauge_tight.nd (de_fdiv (de_idx (de_var 1) de_int) (de_cal C_law_common hr (da_cons (de_idx (de_var 1) de_int) (da_cons (de_var 2) da_nil))))) (dss_cons (ds_asg (vs := [4, 5]) (pg_tup rfl (pgs_cons (pg_name (i := 4) sc_law_gauge_tight.nd rfl (by first | exact Or.inl rfl | exact Or.inr rfl)) (pgs_cons (pg_name (i := 5) sc_law_gauge_tight.nd rfl (by first | exact Or.inl rfl | exact Or.inr rfl)) pgs_nil))) (relg_tup 2 rfl (relgs_cons (relg_name 4) (relgs_cons (relg_name 5) relgs_nil))) (de_idx (de_var 1) de_int)) (dss_cons (ds_set (i := 6) sc_law_gauge_tight.nd (de_add false (de_mul false (de_mul false (de_fdiv (de_var 3) de_int) (de_var 5)) (de_idx (de_var 1) de_int)) (de_mul false (de_mul false (de_var 4) (de_var 2)) (de_var 3)))) (dss_cons (ds_set (i := 7) sc_law_gauge_tight.nd (de_mul false (de_mul false (de_var 3) (de_var 5)) (de_idx (de_var 1) de_int))) (dss_cons (ds_set (i := 8) sc_law_gauge_tight.nd (de_ifx (dt_eq hr.units (de_cal C_law_pick hr (da_cons (de_var 0) (da_cons de_int da_nil))) de_int) (de_cal C_law_ratio hr (da_cons (de_var 6) (da_cons (de_var 7) da_nil))) (de_cal C_law_ratio hr (da_cons (de_sub (de_mul false de_int (de_var 6)) (de_var 7)) (da_cons (de_mul false de_int (de_var 7)) da_nil))))) (dss_one (ds_ret (de_ifx (dt_ge (de_idx (de_var 8) de_int) (de_idx (de_var 8) de_int)) (de_var 8) (de_tup (da_cons de_int (da_cons de_int da_nil)))))))))))
theorem body_law_done (C_as_good : CalX P w K mg base k "as_good" ["base", "slack", "base2", "slack2"] sp_as_good) (C_law_fault : CalE P w K mg base k "_law_fault" ["error"] (fun cn => isx cn = some true) sp_law_fault) (m_ApartError : mg "ApartError" = some (.ref (clA K "ApartError"))) (hx : ∀ cn b, isx cn = some b → PySem.W.exmOne K (.ref (clA K cn)) (.ref (clA K "ApartError")) = some b) (hr : Room k (A.deeper (envOfC "_law_done" (defScope s_law_done) s.heap.objs.size f cdv))) :
    DSs (cxOf CX0 P w K mg base N_law_done "_law_done" (defScope s_law_done) f cdv A outer s H E).nox (defBody s_law_done) t_law_done :=
  (dss_cons (ds_try (i := 3) (c := "ApartError") (isx := isx) (Wout := dw0) rfl rfl sc_law_done.nd rfl rfl ⟨rfl, by decide, Or.inl m_ApartError⟩ takesD0 hx (fun G W pn xe tk pa => (dss_one (ds_set (i := 2) sc_law_done.nd (de_calX C_as_good hr tk (da_cons (de_idx (de_var 0) de_int) (da_cons (de_idx (de_var 0) de_int) (da_cons (de_idx (de_var 1) de_int) (da_cons (de_idx (de_var 1) de_int) da_nil)))))))) (fun a oe cn d pn e0 hz hv => (dss_one (ds_ret (de_tup (da_cons (de_str [114, 97, 105, 115, 101, 100]) (da_cons (de_calE C_law_fault e0 (roomHs hr _) (hotE_suite hz hv) (da_cons (de_var 3) da_nil)) da_nil))))))) (dss_one (ds_ret (de_tup (da_cons (de_str [116, 111, 108, 100]) (da_cons (de_var 2) da_nil))))))
theorem body_law (C_law_source : Cal P w K mg base k "_law_source" ["script", "at"] sp_law_source) (C_law_pick : Cal P w K mg base k "_law_pick" ["source", "many"] sp_law_pick) (C_law_gauge_slack : Cal P w K mg base k "_law_gauge_slack" ["source"] sp_law_gauge_slack) (C_law_gauge_tight : Cal P w K mg base k "_law_gauge_tight" ["source", "one", "base"] sp_law_gauge_tight) (C_law_gauge_lies : Cal P w K mg base k "_law_gauge_lies" ["one", "two", "place"] sp_law_gauge_lies) (C_law_done : Cal P w K mg base k "_law_done" ["one", "two"] sp_law_done) (C_law_same : Cal P w K mg base k "_law_same" ["answer", "due"] sp_law_same) (C_law_ratio : Cal P w K mg base k "_law_ratio" ["p", "q"] sp_law_ratio) (b_range : mg "range" = none) (b_int : mg "int" = none) (b_isinstance : mg "isinstance" = none) (b_bool : mg "bool" = none) (hr : Room k (A.deeper (envOfC "law" (defScope s_law) s.heap.objs.size f cdv))) :
    DSs (cxOf CX0 P w K mg base N_law "law" (defScope s_law) f cdv A outer s H E).nox (defBody s_law) t_law :=
  (dss_cons (ds_set (i := 1) sc_law.nd (de_cal C_law_source hr (da_cons (de_var 0) (da_cons de_int da_nil)))) (dss_cons (ds_set (i := 2) sc_law.nd (de_ifx (dt_eq hr.units (de_cal C_law_pick hr (da_cons (de_var 1) (da_cons de_int da_nil))) de_int) de_int de_int)) (dss_cons (ds_set (i := 3) sc_law.nd (de_tup (da_cons (de_add false de_int (de_cal C_law_pick hr (da_cons (de_var 1) (da_cons (de_var 2) da_nil)))) (da_cons (de_cal C_law_gauge_slack hr (da_cons (de_var 1) da_nil)) da_nil)))) (dss_cons (ds_set (i := 4) sc_law.nd (de_add false de_int (de_cal C_law_pick hr (da_cons (de_var 1) (da_cons (de_var 2) da_nil))))) (dss_cons (ds_set (i := 5) sc_law.nd (de_tup (da_cons (de_var 4) (da_cons (de_ifx (dt_eq hr.units (de_cal C_law_pick hr (da_cons (de_var 1) (da_cons de_int da_nil))) de_int) (de_cal C_law_gauge_slack hr (da_cons (de_var 1) da_nil)) (de_cal C_law_gauge_tight hr (da_cons (de_var 1) (da_cons (de_var 3) (da_cons (de_var 4) da_nil))))) da_nil)))) (dss_cons (ds_set (i := 6) sc_law.nd (de_ifx (dt_lt (de_idx (de_var 3) de_int) de_int) de_int (de_ifx (dt_lt (de_idx (de_var 3) de_int) de_int) de_int de_int))) (dss_cons (ds_set (i := 7) sc_law.nd de_non) (dss_cons (ds_for (vs := [8]) PassesOwn.never rfl (di_r1 (by rfl) b_range (da_cons (de_add false (de_var 6) de_int) da_nil)) (pg_name (i := 8) sc_law.nd rfl (by first | exact Or.inl rfl | exact Or.inr rfl)) (relg_name 8) (dss_one (ds_if (PW.pt (dw_and (dt_isN (de_var 7) de_non) (dw_and1 (dt_not (dt_tru (de_cal C_law_gauge_lies hr (da_cons (de_var 3) (da_cons (de_var 5) (da_cons (de_var 8) da_nil))))))))) (dss_one (ds_set (i := 7) sc_law.nd (de_var 8))) dss_nil))) (dss_cons (ds_set (i := 9) sc_law.nd (de_cal C_law_done hr (da_cons (de_var 3) (da_cons (de_var 5) da_nil)))) (dss_cons (ds_if (PW.pt (dw_or (dt_notN (de_var 7) de_non) (dw_or1 (dt_ge (de_idx (de_var 3) de_int) (de_idx (de_var 5) de_int))))) (dss_one (ds_if (dt_not (dt_tru (de_cal C_law_same hr (da_cons (de_var 9) (da_cons (de_tup (da_cons (de_str [116, 111, 108, 100]) (da_cons (de_var 7) da_nil))) da_nil))))) (dss_one (ds_ret de_bl)) dss_nil)) (dss_one (ds_if (PW.pt (dw_or (dt_ne hr.units (de_idx (de_var 9) de_int) (de_str [116, 111, 108, 100])) (dw_or (dt_not (dt_tru (de_callB call_isi rel_isi (by rfl) b_isinstance (by decide +kernel) (da_cons (de_idx (de_var 9) de_int) (da_cons (de_ty "int" (by rfl) b_int (by decide +kernel)) da_nil))))) (dw_or (dt_tru (de_callB call_isi rel_isi (by rfl) b_isinstance (by decide +kernel) (da_cons (de_idx (de_var 9) de_int) (da_cons (de_ty "bool" (by rfl) b_bool (by decide +kernel)) da_nil)))) (dw_or1 (dt_le (de_idx (de_var 9) de_int) (de_var 6))))))) (dss_one (ds_ret de_bl)) dss_nil))) (dss_cons (ds_set (i := 10) sc_law.nd (de_cal C_law_ratio hr (da_cons (de_add false de_int (de_cal C_law_pick hr (da_cons (de_var 1) (da_cons de_int da_nil)))) (da_cons de_int da_nil)))) (dss_cons (ds_if (dt_not (dt_tru (de_cal C_law_same hr (da_cons (de_cal C_law_done hr (da_cons (de_tup (da_cons (de_idx (de_var 3) de_int) (da_cons (de_var 10) da_nil))) (da_cons (de_var 5) da_nil))) (da_cons (de_tup (da_cons (de_str [114, 97, 105, 115, 101, 100]) (da_cons (de_tup (da_cons (de_str [66, 97, 100, 78, 117, 109, 98, 101, 114]) (da_cons (de_str [115, 108, 97, 99, 107]) da_nil))) da_nil))) da_nil))))) (dss_one (ds_ret de_bl)) dss_nil) (dss_cons (ds_if (dt_not (dt_tru (de_cal C_law_same hr (da_cons (de_cal C_law_done hr (da_cons (de_var 3) (da_cons (de_tup (da_cons (de_idx (de_var 5) de_int) (da_cons (de_var 10) da_nil))) da_nil))) (da_cons (de_tup (da_cons (de_str [114, 97, 105, 115, 101, 100]) (da_cons (de_tup (da_cons (de_str [66, 97, 100, 78, 117, 109, 98, 101, 114]) (da_cons (de_str [115, 108, 97, 99, 107]) da_nil))) da_nil))) da_nil))))) (dss_one (ds_ret de_bl)) dss_nil) (dss_one (ds_ret (de_cal C_law_same hr (da_cons (de_cal C_law_done hr (da_cons (de_var 3) (da_cons (de_var 3) da_nil))) (da_cons (de_tup (da_cons (de_str [116, 111, 108, 100]) (da_cons de_non da_nil))) da_nil))))))))))))))))))
end
abbrev s_init_BadNumber : Stmt := inOf (top 6)
theorem sc_init_BadNumber : FnScope ["self", "what"] ["self", "what"] (defScope s_init_BadNumber) := ⟨rfl, rfl, rfl, by decide +kernel, rfl, by decide +kernel, by decide +kernel⟩
theorem initbody_BadNumber {P : Program} {w : World} {K : PySem.W.Frag} {mg : Str → Option Value} {base : Heap} {f : Addr} {cdv : Value} {A : Around} {outer : List Env} {s : Shared} {H : Hp} {E : XK} : PSs (cxOf CX0 P w K mg base ["self", "what"] "BadNumber.__init__" (defScope s_init_BadNumber) f cdv A outer s H E).nox (defBody s_init_BadNumber) (tOst K "what" (tVar 0) (tVar 1)) := pss_one (ps_ost (pv 0) (pv 1))
theorem len_gcd_of : ∀ ds M Q E, sp_gcd_of ds M Q E → ds.length = 2 := by
  intro ds M Q E h
  unfold sp_gcd_of at h
  repeat (first | exact h.elim | (obtain ⟨rfl, _⟩ := h; rfl) | obtain ⟨_, h⟩ := h)
theorem len_farthest_fits : ∀ ds M Q E, sp_farthest_fits ds M Q E → ds.length = 4 := by
  intro ds M Q E h
  unfold sp_farthest_fits at h
  repeat (first | exact h.elim | (obtain ⟨rfl, _⟩ := h; rfl) | obtain ⟨_, h⟩ := h)
theorem len_as_good : ∀ ds M Q E, sp_as_good ds M Q E → ds.length = 4 := by
  intro ds M Q E h
  unfold sp_as_good at h
  repeat (first | exact h.elim | (obtain ⟨rfl, _⟩ := h; rfl) | obtain ⟨_, h⟩ := h)
theorem len_law_fault : ∀ a d cn ds M Q E, sp_law_fault a d cn ds M Q E → ds.length = 1 := by
  intro a d cn ds M Q E h
  unfold sp_law_fault at h
  repeat (first | exact h.elim | (obtain ⟨rfl, _⟩ := h; rfl) | obtain ⟨_, h⟩ := h)
theorem len_law_power : ∀ ds M Q E, sp_law_power ds M Q E → ds.length = 2 := by
  intro ds M Q E h
  unfold sp_law_power at h
  repeat (first | exact h.elim | (obtain ⟨rfl, _⟩ := h; rfl) | obtain ⟨_, h⟩ := h)
theorem len_law_common : ∀ ds M Q E, sp_law_common ds M Q E → ds.length = 2 := by
  intro ds M Q E h
  unfold sp_law_common at h
  repeat (first | exact h.elim | (obtain ⟨rfl, _⟩ := h; rfl) | obtain ⟨_, h⟩ := h)
theorem len_law_ratio : ∀ ds M Q E, sp_law_ratio ds M Q E → ds.length = 2 := by
  intro ds M Q E h
  unfold sp_law_ratio at h
  repeat (first | exact h.elim | (obtain ⟨rfl, _⟩ := h; rfl) | obtain ⟨_, h⟩ := h)
theorem len_law_gauge_lies : ∀ ds M Q E, sp_law_gauge_lies ds M Q E → ds.length = 3 := by
  intro ds M Q E h
  unfold sp_law_gauge_lies at h
  repeat (first | exact h.elim | (obtain ⟨rfl, _⟩ := h; rfl) | obtain ⟨_, h⟩ := h)
theorem len_law_gauge_slack : ∀ ds M Q E, sp_law_gauge_slack ds M Q E → ds.length = 1 := by
  intro ds M Q E h
  unfold sp_law_gauge_slack at h
  repeat (first | exact h.elim | (obtain ⟨rfl, _⟩ := h; rfl) | obtain ⟨_, h⟩ := h)
theorem len_law_gauge_tight : ∀ ds M Q E, sp_law_gauge_tight ds M Q E → ds.length = 3 := by
  intro ds M Q E h
  unfold sp_law_gauge_tight at h
  repeat (first | exact h.elim | (obtain ⟨rfl, _⟩ := h; rfl) | obtain ⟨_, h⟩ := h)
theorem len_law_done : ∀ ds M Q E, sp_law_done ds M Q E → ds.length = 2 := by
  intro ds M Q E h
  unfold sp_law_done at h
  repeat (first | exact h.elim | (obtain ⟨rfl, _⟩ := h; rfl) | obtain ⟨_, h⟩ := h)
theorem len_law : ∀ ds M Q E, sp_law ds M Q E → ds.length = 1 := by
  intro ds M Q E h
  unfold sp_law at h
  repeat (first | exact h.elim | (obtain ⟨rfl, _⟩ := h; rfl) | obtain ⟨_, h⟩ := h)
abbrev R : PySem.W.OpenRow := PySem.W.OpenLaw.row PySem.Challenge.rw_readapart_k19_gauges_by_all_readings
def fn : List He.DefD := [mkD "gcd_of" (top 16), mkD "farthest_fits" (top 18), mkD "as_good" (top 19), mkD "_law_source" (top 21), mkD "_law_pick" (top 22), mkD "_law_same" (top 23), mkD "_law_fault" (top 24), mkD "_law_power" (top 25), mkD "_law_common" (top 26), mkD "_law_ratio" (top 27), mkD "_law_gauge_lies" (top 28), mkD "_law_gauge_slack" (top 29), mkD "_law_gauge_tight" (top 30), mkD "_law_done" (top 31), mkD "law" (top 32), ⟨("BadNumber", some "__init__"), "__init__", "BadNumber.__init__", defArgs s_init_BadNumber, defBody s_init_BadNumber, defScope s_init_BadNumber, [], []⟩]
def fa : List He.Fa := [.glo "gcd_of", .glo "farthest_fits", .glo "as_good", .glo "_law_source", .glo "_law_pick", .glo "_law_same", .glo "_law_fault", .glo "_law_power", .glo "_law_common", .glo "_law_ratio", .glo "_law_gauge_lies", .glo "_law_gauge_slack", .glo "_law_gauge_tight", .glo "_law_done", .glo "law", .free "abs", .free "len", .free "int", .free "sum", .free "bool", .free "isinstance", .free "str", .free "tuple", .free "list", .free "range", .free "all", .free "ValueError", .glo "TooMany", .glo "BadText", .glo "BadMeaning", .glo "BadPolynomial", .glo "BadNumber", .glo "BadMove", .glo "BadBox", .glo "BadAsk", .glo "BadReading", .glo "BadCode", .glo "BadPaper", .glo "BadCourse", .glo "BadDesk", .glo "ApartError"]
def ts : List He.Tab := []
def ex (K : PySem.W.Frag) : Bool := fxB K "BadNumber" ["what"]
abbrev hk : PySem.W.Hook := He.hookX 4 fa fn ts [] ex
def ob (s : PySem.W.SharedT) : He.AlX := He.obsX 4 fa fn ts [] ex (HandSHeadRun.getT s)
theorem ob_eq (s : PySem.W.SharedT) : ob s = hk.obs s.abs := He.obsX_eq (HandSHeadRun.getT_eq s)
def loose : List Str := ("ApartError" : Str) :: ("TooMany" : Str) :: ("BadText" : Str) :: ("BadMeaning" : Str) :: ("BadPolynomial" : Str) :: ("BadNumber" : Str) :: ("BadMove" : Str) :: ("BadBox" : Str) :: ("BadAsk" : Str) :: ("BadReading" : Str) :: ("BadCode" : Str) :: ("BadPaper" : Str) :: ("BadCourse" : Str) :: ("BadDesk" : Str) :: ("gcd_of" : Str) :: ("farthest_fits" : Str) :: ("as_good" : Str) :: ("_law_source" : Str) :: ("_law_pick" : Str) :: ("_law_same" : Str) :: ("_law_fault" : Str) :: ("_law_power" : Str) :: ("_law_common" : Str) :: ("_law_ratio" : Str) :: ("_law_gauge_lies" : Str) :: ("_law_gauge_slack" : Str) :: ("_law_gauge_tight" : Str) :: ("_law_done" : Str) :: []
theorem runE (w : World) : HandSHeadRun.RunEq R (PySem.W.view R.prog [32]) hk ob 4000 loose w :=
  PySem.W.byRow2 "special-get-raises" (P := fun w => HandSHeadRun.RunEq R (PySem.W.view R.prog [32]) hk ob 4000 loose w) (fun w => by
    intro os
    kernel_rfl) (fun w => by
    intro os
    kernel_rfl) w
set_option maxHeartbeats 0 in
theorem facts {P : Program} {w : World} {K : PySem.W.Frag} {h : Heap} {mg : Str → Option Value} {f : Addr} (X : K.In h) (G : h.Ns mainGlobals mg) (hfa : mg ("law" : Str) = some (.ref f)) (c : He.SaysX fa fn ts [] ex w h K) :
    ∃ fd : FuncData, (∀ (s : Shared) (v : Value), BindsTo s fd ⟨[v], []⟩ [("script", v)]) ∧ ∀ base : Heap, K.In base → base.Ns mainGlobals mg → FnOk P w K mg base CX0 10 f fd ["script"] (liftSp K sp_law) := by
  have b_abs : mg "abs" = none := free_of X G c.t.d 15 rfl
  have b_len : mg "len" = none := free_of X G c.t.d 16 rfl
  have b_int : mg "int" = none := free_of X G c.t.d 17 rfl
  have b_sum : mg "sum" = none := free_of X G c.t.d 18 rfl
  have b_bool : mg "bool" = none := free_of X G c.t.d 19 rfl
  have b_isinstance : mg "isinstance" = none := free_of X G c.t.d 20 rfl
  have b_str : mg "str" = none := free_of X G c.t.d 21 rfl
  have b_tuple : mg "tuple" = none := free_of X G c.t.d 22 rfl
  have b_list : mg "list" = none := free_of X G c.t.d 23 rfl
  have b_range : mg "range" = none := free_of X G c.t.d 24 rfl
  have b_all : mg "all" = none := free_of X G c.t.d 25 rfl
  have b_ValueError : mg "ValueError" = none := free_of X G c.t.d 26 rfl
  have D_gcd_of : DefAt K mg "gcd_of" s_gcd_of := defAt_of X G c.t.d 0 0 rfl rfl
  have D_farthest_fits : DefAt K mg "farthest_fits" s_farthest_fits := defAt_of X G c.t.d 1 1 rfl rfl
  have D_as_good : DefAt K mg "as_good" s_as_good := defAt_of X G c.t.d 2 2 rfl rfl
  have D_law_source : DefAt K mg "_law_source" s_law_source := defAt_of X G c.t.d 3 3 rfl rfl
  have D_law_pick : DefAt K mg "_law_pick" s_law_pick := defAt_of X G c.t.d 4 4 rfl rfl
  have D_law_same : DefAt K mg "_law_same" s_law_same := defAt_of X G c.t.d 5 5 rfl rfl
  have D_law_fault : DefAt K mg "_law_fault" s_law_fault := defAt_of X G c.t.d 6 6 rfl rfl
  have D_law_power : DefAt K mg "_law_power" s_law_power := defAt_of X G c.t.d 7 7 rfl rfl
  have D_law_common : DefAt K mg "_law_common" s_law_common := defAt_of X G c.t.d 8 8 rfl rfl
  have D_law_ratio : DefAt K mg "_law_ratio" s_law_ratio := defAt_of X G c.t.d 9 9 rfl rfl
  have D_law_gauge_lies : DefAt K mg "_law_gauge_lies" s_law_gauge_lies := defAt_of X G c.t.d 10 10 rfl rfl
  have D_law_gauge_slack : DefAt K mg "_law_gauge_slack" s_law_gauge_slack := defAt_of X G c.t.d 11 11 rfl rfl
  have D_law_gauge_tight : DefAt K mg "_law_gauge_tight" s_law_gauge_tight := defAt_of X G c.t.d 12 12 rfl rfl
  have D_law_done : DefAt K mg "_law_done" s_law_done := defAt_of X G c.t.d 13 13 rfl rfl
  have m_TooMany : mg "TooMany" = some (.ref (clA K "TooMany")) := He.glo_ok X G (c.t.d.fact 27 rfl)
  have m_BadText : mg "BadText" = some (.ref (clA K "BadText")) := He.glo_ok X G (c.t.d.fact 28 rfl)
  have m_BadMeaning : mg "BadMeaning" = some (.ref (clA K "BadMeaning")) := He.glo_ok X G (c.t.d.fact 29 rfl)
  have m_BadPolynomial : mg "BadPolynomial" = some (.ref (clA K "BadPolynomial")) := He.glo_ok X G (c.t.d.fact 30 rfl)
  have m_BadNumber : mg "BadNumber" = some (.ref (clA K "BadNumber")) := He.glo_ok X G (c.t.d.fact 31 rfl)
  have m_BadMove : mg "BadMove" = some (.ref (clA K "BadMove")) := He.glo_ok X G (c.t.d.fact 32 rfl)
  have m_BadBox : mg "BadBox" = some (.ref (clA K "BadBox")) := He.glo_ok X G (c.t.d.fact 33 rfl)
  have m_BadAsk : mg "BadAsk" = some (.ref (clA K "BadAsk")) := He.glo_ok X G (c.t.d.fact 34 rfl)
  have m_BadReading : mg "BadReading" = some (.ref (clA K "BadReading")) := He.glo_ok X G (c.t.d.fact 35 rfl)
  have m_BadCode : mg "BadCode" = some (.ref (clA K "BadCode")) := He.glo_ok X G (c.t.d.fact 36 rfl)
  have m_BadPaper : mg "BadPaper" = some (.ref (clA K "BadPaper")) := He.glo_ok X G (c.t.d.fact 37 rfl)
  have m_BadCourse : mg "BadCourse" = some (.ref (clA K "BadCourse")) := He.glo_ok X G (c.t.d.fact 38 rfl)
  have m_BadDesk : mg "BadDesk" = some (.ref (clA K "BadDesk")) := He.glo_ok X G (c.t.d.fact 39 rfl)
  have m_ApartError : mg "ApartError" = some (.ref (clA K "ApartError")) := He.glo_ok X G (c.t.d.fact 40 rfl)
  have G_BadNumber := fxB_ok c.more
  have E_BadNumber := G_BadNumber.ef
  have isx_mem : ∀ {cn : Str}, isx cn = some true → cn = "BadNumber" := fun h => by simpa [isl] using isxOf_mem h
  have FXs : ∀ cn, isx cn = some true → FX K cn (isL cn) := fun cn h => by
    rcases isx_mem h with rfl
    · exact G_BadNumber.fx
  have hx_ApartError : ∀ cn b, isx cn = some b → PySem.W.exmOne K (.ref (clA K cn)) (.ref (clA K "ApartError")) = some b := fun cn b h => by
    obtain rfl := isxOf_true h
    rcases isx_mem h with rfl
    · exact G_BadNumber.exm
  obtain ⟨fdI_BadNumber, FI_BadNumber⟩ := c.t.d.def_ 15 (d := ⟨("BadNumber", some "__init__"), "__init__", "BadNumber.__init__", defArgs s_init_BadNumber, defBody s_init_BadNumber, defScope s_init_BadNumber, [], []⟩) rfl
  obtain ⟨fd, F⟩ := c.t.d.def_ 14 (d := mkD "law" (top 32)) rfl
  have e := hfa.symm.trans (He.glo_ok X G (c.t.d.fact 14 (f := .glo "law") rfl))
  cases e
  have b := FunD.bindsA (ps := ["script"]) F fun _ _ _ _ _ _ us hl => match us, hl with | [_], _ => rfl
  let _g : Ghost := gh0
  refine ⟨fd, fun s v => b s [v] rfl, fun base _ _ => ?_⟩
  have X_BadNumber : XC P w K mg base 1 "BadNumber" ["what"] := xc_of E_BadNumber m_BadNumber (by decide) (init1 FI_BadNumber sc_init_BadNumber fun _ _ _ _ _ _ => initbody_BadNumber) (FI_BadNumber.bindsN fun _ _ _ _ _ _ us hl => match us, hl with | [_, _], _ => rfl)
  have C_gcd_of : Cal P w K mg base 1 "gcd_of" ["a", "b"] sp_gcd_of := cal_of D_gcd_of sc_gcd_of len_gcd_of (fun _ _ _ _ _ _ us hl => match us, hl with | [_, _], _ => rfl) (fun f cdv A outer s H E hr => body_gcd_of b_abs hr) sem_gcd_of
  have C_farthest_fits : Cal P w K mg base 2 "farthest_fits" ["scale", "other", "slack", "slack2"] sp_farthest_fits := cal_of D_farthest_fits sc_farthest_fits len_farthest_fits (fun _ _ _ _ _ _ us hl => match us, hl with | [_, _, _, _], _ => rfl) (fun f cdv A outer s H E hr => body_farthest_fits C_gcd_of hr) sem_farthest_fits
  have C_as_good : CalX P w K mg base 3 "as_good" ["base", "slack", "base2", "slack2"] sp_as_good := calX_of D_as_good sc_as_good len_as_good (fun _ _ _ _ _ _ us hl => match us, hl with | [_, _, _, _], _ => rfl) (fun f G W cdv A outer s H E hr tk => @body_as_good G _ _ _ _ _ _ _ _ _ _ _ _ _ C_farthest_fits X_BadNumber (by decide) _ tk hr) sem_as_good
  have C_law_source : Cal P w K mg base 1 "_law_source" ["script", "at"] sp_law_source := cal_of D_law_source sc_law_source len_law_source (fun _ _ _ _ _ _ us hl => match us, hl with | [_, _], _ => rfl) (fun f cdv A outer s H E hr => body_law_source b_len b_int b_sum b_abs hr) sem_law_source
  have C_law_pick : Cal P w K mg base 1 "_law_pick" ["source", "many"] sp_law_pick := cal_of D_law_pick sc_law_pick len_law_pick (fun _ _ _ _ _ _ us hl => match us, hl with | [_, _], _ => rfl) (fun f cdv A outer s H E hr => body_law_pick b_int hr) sem_law_pick
  have C_law_same : Cal P w K mg base 9 "_law_same" ["answer", "due"] sp_law_same := cal_same D_law_same sc_law_same rfl (fun n k C f cdv A outer s H E hr => body_law_same n C b_bool b_isinstance b_int b_str b_tuple b_list b_len b_range b_all hr) (fun _ _ _ _ _ _ us hl => match us, hl with | [_, _], _ => rfl) 9
  have C_law_fault : CalE P w K mg base 1 "_law_fault" ["error"] (fun cn => isx cn = some true) sp_law_fault := calE_of D_law_fault sc_law_fault len_law_fault (fun _ _ _ _ _ _ us hl => match us, hl with | [_], _ => rfl) (fun f cdv A outer s H p d cn hk hr hot => @body_law_fault gh0 _ _ _ _ _ _ _ _ _ _ _ _ m_TooMany m_BadText m_BadMeaning m_BadPolynomial m_BadNumber m_BadMove m_BadBox m_BadAsk m_BadReading m_BadCode m_BadPaper m_BadCourse m_BadDesk m_ApartError b_isinstance b_ValueError b_len _ _ _ (FXs cn hk) hot hr) sem_law_fault
  have C_law_power : Cal P w K mg base 1 "_law_power" ["base", "many"] sp_law_power := cal_of D_law_power sc_law_power len_law_power (fun _ _ _ _ _ _ us hl => match us, hl with | [_, _], _ => rfl) (fun f cdv A outer s H E hr => body_law_power b_range hr) sem_law_power
  have C_law_common : Cal P w K mg base 1 "_law_common" ["a", "b"] sp_law_common := cal_of D_law_common sc_law_common len_law_common (fun _ _ _ _ _ _ us hl => match us, hl with | [_, _], _ => rfl) (fun f cdv A outer s H E hr => body_law_common b_abs hr) sem_law_common
  have C_law_ratio : Cal P w K mg base 2 "_law_ratio" ["p", "q"] sp_law_ratio := cal_of D_law_ratio sc_law_ratio len_law_ratio (fun _ _ _ _ _ _ us hl => match us, hl with | [_, _], _ => rfl) (fun f cdv A outer s H E hr => body_law_ratio C_law_common hr) sem_law_ratio
  have C_law_gauge_lies : Cal P w K mg base 2 "_law_gauge_lies" ["one", "two", "place"] sp_law_gauge_lies := cal_of D_law_gauge_lies sc_law_gauge_lies len_law_gauge_lies (fun _ _ _ _ _ _ us hl => match us, hl with | [_, _, _], _ => rfl) (fun f cdv A outer s H E hr => body_law_gauge_lies C_law_power b_range hr) sem_law_gauge_lies
  have C_law_gauge_slack : Cal P w K mg base 3 "_law_gauge_slack" ["source"] sp_law_gauge_slack := cal_of D_law_gauge_slack sc_law_gauge_slack len_law_gauge_slack (fun _ _ _ _ _ _ us hl => match us, hl with | [_], _ => rfl) (fun f cdv A outer s H E hr => body_law_gauge_slack (C_law_pick.mono (by decide)) C_law_ratio hr) sem_law_gauge_slack
  have C_law_gauge_tight : Cal P w K mg base 3 "_law_gauge_tight" ["source", "one", "base"] sp_law_gauge_tight := cal_of D_law_gauge_tight sc_law_gauge_tight len_law_gauge_tight (fun _ _ _ _ _ _ us hl => match us, hl with | [_, _, _], _ => rfl) (fun f cdv A outer s H E hr => body_law_gauge_tight (C_law_common.mono (by decide)) (C_law_pick.mono (by decide)) C_law_ratio hr) sem_law_gauge_tight
  have C_law_done : Cal P w K mg base 4 "_law_done" ["one", "two"] sp_law_done := cal_of D_law_done sc_law_done len_law_done (fun _ _ _ _ _ _ us hl => match us, hl with | [_, _], _ => rfl) (fun f cdv A outer s H E hr => body_law_done C_as_good (C_law_fault.mono (by decide)) m_ApartError hx_ApartError hr) sem_law_done
  exact dfn F sc_law len_law (fun cdv A outer s H E hr => body_law (C_law_source.mono (by decide)) (C_law_pick.mono (by decide)) (C_law_gauge_slack.mono (by decide)) (C_law_gauge_tight.mono (by decide)) (C_law_gauge_lies.mono (by decide)) (C_law_done.mono (by decide)) C_law_same (C_law_ratio.mono (by decide)) b_range b_int b_isinstance b_bool hr) sem_law
end K19
open PySem PySem.W PySem.Calls PyProof.Rows
theorem PySem.Challenge.cw_readapart_k19_gauges_by_all_readings_holds : PySem.Challenge.rw_readapart_k19_gauges_by_all_readings.Holds := by
  w_on; o_law
  refine HandSHeadRun.head_any (r := OpenLaw.row PySem.Challenge.rw_readapart_k19_gauges_by_all_readings) (q := view (OpenLaw.row PySem.Challenge.rw_readapart_k19_gauges_by_all_readings).prog [32]) (H := K19.hk) (ob := K19.ob) (M := 4000) (loose := K19.loose) (d := HandSHeadRun.topDef (OpenLaw.row PySem.Challenge.rw_readapart_k19_gauges_by_all_readings).prog 32) (kwd := []) K19.ob_eq
    (by kernel_rfl) (fun s => by kernel_rfl) K19.runE (by kernel_rfl) (by kernel_rfl) (by kernel_rfl) (by rfl) (by first | assumption | decide +kernel) (by decide +kernel) ⟨rfl, rfl, rfl, rfl, rfl, by decide +kernel⟩ ?hw ?hc
  case hw => w_witness2
  case hc =>
    refine L2.walk_ofE (l := PySem.Challenge.rw_readapart_k19_gauges_by_all_readings) (n := 63) (k := 10) (x := "script") (CX := L2.CX0) rfl (by decide) (by kernel_rfl) ⟨rfl, by decide, by decide⟩ ?F (fun _ _ _ _ z => z)
    intro w mg fa h Y G hmg0
    obtain ⟨K, KX, c⟩ := Y
    have hmg : mg ("law" : PySem.Str) = some (.ref fa) := by
      have e : (HandSHeadRun.topDef (OpenLaw.row PySem.Challenge.rw_readapart_k19_gauges_by_all_readings).prog 32).name = ("law" : PySem.Str) := by kernel_rfl
      rw [← e]
      exact hmg0
    obtain ⟨fd, hb, hF⟩ := K19.facts (P := (PySem.Challenge.rw_readapart_k19_gauges_by_all_readings).prog) (w := w) KX G hmg c
    exact ⟨K, fd, DL.liftSp K K19.sp_law, KX, hb, fun H a ns _ _ hS => DL.law_sp (fun ns M Q E q => ⟨ns, rfl, q⟩) H a ns hS, hF⟩
