import PyProof.Rows.All
import Wide.All
import OpenK.AllK
import Wide.FinOn
import HandS.ForMost
import HandS.Defaults
import HandS.IsInst
import HandS.Wide
import HandS.WideBits
import HandS.Flow
import HandS.Exc
import HandS.TupAny
import HandS.Walk
import HandS.Evl
import HandS.More
import HandS.ReplaceLit
import HandS.ReplaceList
import HandS.Head0
import HandS.Head1
import HandS.Head2
import HandS.HeadEnd
import HandS.HeadHook1
import HandS.HeadHook2
import HandS.HeadHook3
import HandS.HeadHook4
import HandS.Rev
import HandS.Iter
import PyProof.Rows.RuleB_bool
import HandS.ExcInit
import HandS.ExcOwn
import HandS.WordsExc
import HandS.HotCalls
import HandS.ExcField
import KE.KExcIs
import HandS.ExcIs
import HandS.TupMul
import PySem.Challenge.RW_readapart_k15_heads_and_near_fractions
set_option Elab.async false
set_option linter.all false
set_option maxRecDepth 100000
set_option maxHeartbeats 2000000
set_option autoImplicit false
namespace DL
open PySem PySem.Spec PyProof.Rows L2 TL
def mkD (x : Str) (st : Stmt) : He.DefD := ⟨(x, none), x, x, defArgs st, defBody st, defScope st, [], []⟩
end DL
set_option maxHeartbeats 0
namespace K15
open PySem PySem.Spec PyProof.Rows L2 TL DL
def top (i : Nat) : Stmt := PySem.Challenge.pw_readapart_k15_heads_and_near_fractions.main.body.getD i (.Pass ⟨0, 0, 0, 0⟩)
abbrev R : PySem.W.OpenRow := PySem.W.OpenLaw.row PySem.Challenge.rw_readapart_k15_heads_and_near_fractions
def fn : List He.DefD := [mkD "gcd_of" (top 4), mkD "ratio" (top 5), mkD "less_q" (top 6), mkD "middle_q" (top 7), mkD "power_of" (top 8), mkD "trimmed" (top 10), mkD "content" (top 11), mkD "primitive" (top 12), mkD "homogeneous" (top 13), mkD "sign" (top 14), mkD "derived" (top 15), mkD "remainder" (top 16), mkD "quotient" (top 17), mkD "common" (top 18), mkD "free" (top 19), mkD "reduced" (top 21), mkD "inverse" (top 22), mkD "monic_m" (top 23), mkD "divided_m" (top 24), mkD "rest_m" (top 25), mkD "common_m" (top 26), mkD "derived_m" (top 27), mkD "is_prime" (top 28), mkD "usable" (top 29), mkD "usable_prime" (top 30), mkD "value_m" (top 31), mkD "lifted_root" (top 33), mkD "fraction_roots" (top 34), mkD "chain_of" (top 36), mkD "changes" (top 37), mkD "changes_at" (top 38), mkD "bound_of" (top 39), mkD "between" (top 40), mkD "parted" (top 41), mkD "span_round" (top 42), mkD "spans" (top 43), mkD "square_floor" (top 45), mkD "fraction_of" (top 46), mkD "sign_at" (top 47), mkD "probe_of" (top 48), mkD "side_of" (top 49), mkD "grid_of" (top 50), mkD "near" (top 51), mkD "head" (top 53), mkD "_law_source" (top 55), mkD "_law_pick" (top 56), mkD "_law_same" (top 57), mkD "_law_power" (top 58), mkD "_law_common" (top 59), mkD "_law_ratio" (top 60), mkD "_law_isqrt" (top 61), mkD "_law_surd" (top 62), mkD "_law_sign" (top 63), mkD "_law_sign_two" (top 64), mkD "_law_sign_three" (top 65), mkD "_law_surd_order" (top 66), mkD "_law_surd_floor" (top 67), mkD "_law_surd_key" (top 68), mkD "_law_wide" (top 69), mkD "_law_drawn_surd" (top 70), mkD "_law_radical" (top 71), mkD "_law_root_floor" (top 72), mkD "_law_thing" (top 73), mkD "_law_thing_floor" (top 74), mkD "_law_key_of" (top 75), mkD "_law_against" (top 76), mkD "_law_is_fraction" (top 77), mkD "_law_near" (top 78), mkD "law" (top 79)]
def fa : List He.Fa := [.glo "gcd_of", .glo "ratio", .glo "less_q", .glo "middle_q", .glo "power_of", .glo "trimmed", .glo "content", .glo "primitive", .glo "homogeneous", .glo "sign", .glo "derived", .glo "remainder", .glo "quotient", .glo "common", .glo "free", .glo "reduced", .glo "inverse", .glo "monic_m", .glo "divided_m", .glo "rest_m", .glo "common_m", .glo "derived_m", .glo "is_prime", .glo "usable", .glo "usable_prime", .glo "value_m", .glo "lifted_root", .glo "fraction_roots", .glo "chain_of", .glo "changes", .glo "changes_at", .glo "bound_of", .glo "between", .glo "parted", .glo "span_round", .glo "spans", .glo "square_floor", .glo "fraction_of", .glo "sign_at", .glo "probe_of", .glo "side_of", .glo "grid_of", .glo "near", .glo "head", .glo "_law_source", .glo "_law_pick", .glo "_law_same", .glo "_law_power", .glo "_law_common", .glo "_law_ratio", .glo "_law_isqrt", .glo "_law_surd", .glo "_law_sign", .glo "_law_sign_two", .glo "_law_sign_three", .glo "_law_surd_order", .glo "_law_surd_floor", .glo "_law_surd_key", .glo "_law_wide", .glo "_law_drawn_surd", .glo "_law_radical", .glo "_law_root_floor", .glo "_law_thing", .glo "_law_thing_floor", .glo "_law_key_of", .glo "_law_against", .glo "_law_is_fraction", .glo "_law_near", .glo "law", .free "abs", .free "divmod", .free "len", .free "tuple", .free "reversed", .free "range", .free "list", .free "any", .free "int", .free "max", .free "sum", .free "bool", .free "isinstance", .free "str", .free "all"]
abbrev hk : PySem.W.Hook := He.hookD 4 fa fn
def ob (s : PySem.W.SharedT) : He.AlD := He.obsDG 4 fa fn (HandSHeadRun.getT s)
theorem ob_eq (s : PySem.W.SharedT) : ob s = hk.obs s.abs := He.obsDG_eq (HandSHeadRun.getT_eq s)
def loose : List Str := ("ApartError" : Str) :: ("BadPolynomial" : Str) :: ("gcd_of" : Str) :: ("ratio" : Str) :: ("less_q" : Str) :: ("middle_q" : Str) :: ("power_of" : Str) :: ("trimmed" : Str) :: ("content" : Str) :: ("primitive" : Str) :: ("homogeneous" : Str) :: ("sign" : Str) :: ("derived" : Str) :: ("remainder" : Str) :: ("quotient" : Str) :: ("common" : Str) :: ("free" : Str) :: ("reduced" : Str) :: ("inverse" : Str) :: ("monic_m" : Str) :: ("divided_m" : Str) :: ("rest_m" : Str) :: ("common_m" : Str) :: ("derived_m" : Str) :: ("is_prime" : Str) :: ("usable" : Str) :: ("usable_prime" : Str) :: ("value_m" : Str) :: ("lifted_root" : Str) :: ("fraction_roots" : Str) :: ("chain_of" : Str) :: ("changes" : Str) :: ("changes_at" : Str) :: ("bound_of" : Str) :: ("between" : Str) :: ("parted" : Str) :: ("span_round" : Str) :: ("spans" : Str) :: ("square_floor" : Str) :: ("fraction_of" : Str) :: ("sign_at" : Str) :: ("probe_of" : Str) :: ("side_of" : Str) :: ("grid_of" : Str) :: ("near" : Str) :: ("head" : Str) :: ("_law_source" : Str) :: ("_law_pick" : Str) :: ("_law_same" : Str) :: ("_law_power" : Str) :: ("_law_common" : Str) :: ("_law_ratio" : Str) :: ("_law_isqrt" : Str) :: ("_law_surd" : Str) :: ("_law_sign" : Str) :: ("_law_sign_two" : Str) :: ("_law_sign_three" : Str) :: ("_law_surd_order" : Str) :: ("_law_surd_floor" : Str) :: ("_law_surd_key" : Str) :: ("_law_wide" : Str) :: ("_law_drawn_surd" : Str) :: ("_law_radical" : Str) :: ("_law_root_floor" : Str) :: ("_law_thing" : Str) :: ("_law_thing_floor" : Str) :: ("_law_key_of" : Str) :: ("_law_against" : Str) :: ("_law_is_fraction" : Str) :: ("_law_near" : Str) :: []
theorem runF (w : World) : HandSHeadRun.RunEq R (PySem.W.view R.prog [79]) hk ob 4000 loose (w.withFollow "special-get-raises" false) := by
  intro os
  kernel_rfl
theorem runT (w : World) : HandSHeadRun.RunEq R (PySem.W.view R.prog [79]) hk ob 4000 loose (w.withFollow "special-get-raises" true) := by
  intro os
  kernel_rfl
theorem runE (w : World) : HandSHeadRun.RunEq R (PySem.W.view R.prog [79]) hk ob 4000 loose w := PySem.W.byRow2 "special-get-raises" (P := fun w => HandSHeadRun.RunEq R (PySem.W.view R.prog [79]) hk ob 4000 loose w) runF runT w
end K15
set_option maxHeartbeats 2000000
/-! DL: the data layer. Nested data as values (D), mutable lists by address (Mu), readings as functions. -/
namespace DL
open PySem PySem.Spec PyProof.Rows L2 TL

/-- data: texts by their codes; tuples and lists that stay (lst) as values; ref: a thing that may change -/
inductive D where
  | non | bl (b : Bool) | int (i : Int) | str (cs : List Nat) | tup (ds : List D) | lst (ds : List D) | src (ns : List Int) | ref (a : Addr) | ty (n : String)
  | exc (a d : Addr) (c : Str) (ns : List Str) (ds : List D)
/-- what may change -/
inductive DO where
  | lst (ds : List D)
  | dic (kvs : List (Key × D))
abbrev Mu := Addr → Option DO
def mset (M : Mu) (a : Addr) (o : DO) : Mu := fun b => if b = a then some o else M b
def mdrop (M : Mu) (a : Addr) : Mu := fun b => if b = a then none else M b
theorem mset_same {M : Mu} {a : Addr} {o : DO} : mset M a o a = some o := if_pos rfl
theorem mset_ne {M : Mu} {a b : Addr} {o : DO} (h : b ≠ a) : mset M a o b = M b := if_neg h
theorem mset_mset {M : Mu} {a : Addr} {o u : DO} : mset (mset M a o) a u = mset M a u := by
  funext b; unfold mset; split <;> rfl
theorem mdrop_mset {M : Mu} {a : Addr} {o : DO} (h : M a = none) : mdrop (mset M a o) a = M := by
  funext b; unfold mdrop mset
  by_cases e : b = a
  · rw [if_pos e, e, h]
  · rw [if_neg e, if_neg e]
def mkS (cs : List Nat) : Str := ⟨cs.toArray⟩
theorem mkS_len (cs : List Nat) : (mkS cs).length = cs.length := by simp [mkS, Str.length]
theorem mkS_tl (cs : List Nat) : tl (mkS cs) = cs := rfl
theorem mkS_app (a b : List Nat) : mkS a ++ mkS b = mkS (a ++ b) := ext_tl (by rw [tl_append]; rfl)
theorem mkS_inj {a b : List Nat} (h : mkS a = mkS b) : a = b := by
  have := congrArg tl h
  exact this
theorem mkS_of (s : Str) : mkS (tl s) = s := mk_tl s

/-! ### data in the heap: F is what stays -/
mutual
def Rp (K : PySem.W.Frag) (F : Hp) : D → V → Prop
  | .non, v => v = .non
  | .bl b, v => v = .bl b
  | .int i, v => v = .int i
  | .str cs, v => v = .str (mkS cs)
  | .ref a, v => v = .ref a
  | .ty n, v => v = .ty n
  | .src ns, v => ∃ a, v = .ref a ∧ SqL K F a (ns.map V.int)
  | .tup ds, v => ∃ a xs, v = .ref a ∧ SqT K F a xs ∧ RpL K F ds xs
  | .lst ds, v => ∃ a xs, v = .ref a ∧ F a = some (.lst xs) ∧ RpL K F ds xs
  | .exc a d _ ns ds, v => v = .ref a ∧ ∃ xs, F d = some (.xd (ns.zip xs)) ∧ ns.length = xs.length ∧ RpL K F ds xs
def RpL (K : PySem.W.Frag) (F : Hp) : List D → List V → Prop
  | [], xs => xs = []
  | d :: ds, xs => ∃ x r, xs = x :: r ∧ Rp K F d x ∧ RpL K F ds r
end
def Le (F F' : Hp) : Prop := ∀ b o, F b = some o → F' b = some o
theorem Le.refl (F : Hp) : Le F F := fun _ _ h => h
theorem Le.trans {F G J : Hp} (a : Le F G) (b : Le G J) : Le F J := fun c o h => b c o (a c o h)
theorem Le.rd {F G : Hp} (l : Le F G) {a : Addr} {u : HO} (h : Rd F a u) : Rd G a u := by
  rcases h with h | ⟨o, h⟩
  · exact .inl (l _ _ h)
  · exact .inr ⟨o, l _ _ h⟩
theorem Le.sqL {K : PySem.W.Frag} {F G : Hp} (l : Le F G) {a : Addr} {xs : List V} (h : SqL K F a xs) : SqL K G a xs := by
  rcases h with h | h
  · exact .inl (l.rd h)
  · exact .inr h
theorem Le.sqT {K : PySem.W.Frag} {F G : Hp} (l : Le F G) {a : Addr} {xs : List V} (h : SqT K F a xs) : SqT K G a xs := by
  rcases h with h | h
  · exact .inl (l.rd h)
  · exact .inr h
theorem Le.new {F : Hp} {p : Addr} {o : HO} (h : F p = none) : Le F (upd F p o) := fun b u e => by
  rw [upd_ne (ne_of_none e h)]
  exact e
mutual
theorem Rp.mono {K : PySem.W.Frag} {F G : Hp} (l : Le F G) : ∀ {d : D} {v : V}, Rp K F d v → Rp K G d v
  | .non, _, h => by unfold Rp at h ⊢; exact h
  | .bl _, _, h => by unfold Rp at h ⊢; exact h
  | .int _, _, h => by unfold Rp at h ⊢; exact h
  | .str _, _, h => by unfold Rp at h ⊢; exact h
  | .ref _, _, h => by unfold Rp at h ⊢; exact h
  | .ty _, _, h => by unfold Rp at h ⊢; exact h
  | .src _, _, h => by
    unfold Rp at h ⊢
    obtain ⟨a, e, s⟩ := h
    exact ⟨a, e, l.sqL s⟩
  | .tup ds, _, h => by
    unfold Rp at h ⊢
    obtain ⟨a, xs, e, s, r⟩ := h
    exact ⟨a, xs, e, l.sqT s, RpL.mono l r⟩
  | .lst ds, _, h => by
    unfold Rp at h ⊢
    obtain ⟨a, xs, e, s, r⟩ := h
    exact ⟨a, xs, e, l _ _ s, RpL.mono l r⟩
  | .exc a d c ns ds, _, h => by
    unfold Rp at h ⊢
    obtain ⟨e, xs, s, n, r⟩ := h
    exact ⟨e, xs, l _ _ s, n, RpL.mono l r⟩
theorem RpL.mono {K : PySem.W.Frag} {F G : Hp} (l : Le F G) : ∀ {ds : List D} {xs : List V}, RpL K F ds xs → RpL K G ds xs
  | [], _, h => by unfold RpL at h ⊢; exact h
  | d :: ds, _, h => by
    unfold RpL at h ⊢
    obtain ⟨x, r, e, h1, h2⟩ := h
    exact ⟨x, r, e, Rp.mono l h1, RpL.mono l h2⟩
end
section
variable {K : PySem.W.Frag} {F : Hp}
theorem RpL.nil : RpL K F [] [] := by unfold RpL; rfl
theorem RpL.cons {d : D} {ds : List D} {x : V} {xs : List V} (h : Rp K F d x) (t : RpL K F ds xs) : RpL K F (d :: ds) (x :: xs) := by
  unfold RpL
  exact ⟨x, xs, rfl, h, t⟩
theorem RpL.len : ∀ {ds : List D} {xs : List V}, RpL K F ds xs → ds.length = xs.length
  | [], _, h => by unfold RpL at h; subst h; rfl
  | d :: ds, _, h => by
    unfold RpL at h
    obtain ⟨x, r, e, h1, h2⟩ := h
    subst e
    rw [List.length_cons, List.length_cons, RpL.len h2]
theorem RpL.app : ∀ {ds es : List D} {xs ys : List V}, RpL K F ds xs → RpL K F es ys → RpL K F (ds ++ es) (xs ++ ys)
  | [], _, _, _, h, t => by unfold RpL at h; subst h; exact t
  | d :: ds, es, _, ys, h, t => by
    unfold RpL at h
    obtain ⟨x, r, e, h1, h2⟩ := h
    subst e
    exact RpL.cons h1 (RpL.app h2 t)
theorem RpL.snoc {ds : List D} {xs : List V} {d : D} {x : V} (h : RpL K F ds xs) (t : Rp K F d x) : RpL K F (ds ++ [d]) (xs ++ [x]) := h.app (RpL.cons t RpL.nil)
theorem RpL.get : ∀ {ds : List D} {xs : List V} {i : Nat} {d : D}, RpL K F ds xs → ds[i]? = some d → ∃ x, xs[i]? = some x ∧ Rp K F d x
  | [], _, _, _, _, e => by simp at e
  | d :: ds, _, 0, _, h, e => by
    unfold RpL at h
    obtain ⟨x, r, e1, h1, h2⟩ := h
    subst e1
    simp at e
    subst e
    exact ⟨x, rfl, h1⟩
  | d :: ds, _, i + 1, _, h, e => by
    unfold RpL at h
    obtain ⟨x, r, e1, h1, h2⟩ := h
    subst e1
    obtain ⟨y, e2, h3⟩ := RpL.get (i := i) h2 (by simpa using e)
    exact ⟨y, by simpa using e2, h3⟩
theorem RpL.getV : ∀ {ds : List D} {xs : List V} {i : Nat} {x : V}, RpL K F ds xs → xs[i]? = some x → ∃ d, ds[i]? = some d ∧ Rp K F d x := fun {ds xs i x} h e => by
  have hl := h.len
  have hi : i < xs.length := (List.getElem?_eq_some_iff.mp e).1
  obtain ⟨y, e2, r⟩ := h.get (i := i) (d := ds[i]'(by omega)) (List.getElem?_eq_getElem (by omega))
  rw [e] at e2
  cases e2
  exact ⟨_, List.getElem?_eq_getElem (by omega), r⟩
theorem RpL.set : ∀ {ds : List D} {xs : List V} {d : D} {x : V} (i : Nat), RpL K F ds xs → Rp K F d x → RpL K F (ds.set i d) (xs.set i x)
  | [], _, _, _, i, h, t => by unfold RpL at h; subst h; exact RpL.nil
  | d :: ds, _, _, _, 0, h, t => by
    unfold RpL at h
    obtain ⟨x, r, e1, h1, h2⟩ := h
    subst e1
    exact RpL.cons t h2
  | d :: ds, _, _, _, i + 1, h, t => by
    unfold RpL at h
    obtain ⟨x, r, e1, h1, h2⟩ := h
    subst e1
    exact RpL.cons h1 (RpL.set i h2 t)
theorem RpL.take : ∀ {ds : List D} {xs : List V} (n : Nat), RpL K F ds xs → RpL K F (ds.take n) (xs.take n)
  | [], _, n, h => by unfold RpL at h; subst h; rw [List.take_nil, List.take_nil]; exact RpL.nil
  | d :: ds, _, 0, h => RpL.nil
  | d :: ds, _, n + 1, h => by
    unfold RpL at h
    obtain ⟨x, r, e1, h1, h2⟩ := h
    subst e1
    exact RpL.cons h1 (RpL.take n h2)
theorem RpL.drop : ∀ {ds : List D} {xs : List V} (n : Nat), RpL K F ds xs → RpL K F (ds.drop n) (xs.drop n)
  | [], _, n, h => by unfold RpL at h; subst h; rw [List.drop_nil, List.drop_nil]; exact RpL.nil
  | d :: ds, _, 0, h => h
  | d :: ds, _, n + 1, h => by
    unfold RpL at h
    obtain ⟨x, r, e1, h1, h2⟩ := h
    subst e1
    exact RpL.drop n h2
theorem RpL.rev : ∀ {ds : List D} {xs : List V}, RpL K F ds xs → RpL K F ds.reverse xs.reverse
  | [], _, h => by unfold RpL at h; subst h; exact RpL.nil
  | d :: ds, _, h => by
    unfold RpL at h
    obtain ⟨x, r, e1, h1, h2⟩ := h
    subst e1
    rw [List.reverse_cons, List.reverse_cons]
    exact (RpL.rev h2).snoc h1
theorem RpL.last {ds : List D} {xs : List V} (h : RpL K F ds xs) : RpL K F ds.dropLast xs.dropLast := by
  rw [List.dropLast_eq_take, List.dropLast_eq_take, h.len]
  exact h.take _
theorem RpL.ints : ∀ {ns : List Int}, RpL K F (ns.map D.int) (ns.map V.int)
  | [] => RpL.nil
  | n :: ns => RpL.cons (by unfold Rp; rfl) RpL.ints
theorem RpL.strs : ∀ {ns : List (List Nat)}, RpL K F (ns.map D.str) (ns.map fun c => V.str (mkS c))
  | [] => RpL.nil
  | n :: ns => RpL.cons (by unfold Rp; rfl) RpL.strs
end
def RpK (K : PySem.W.Frag) (F : Hp) (kvs : List (Key × D)) (vs : List (Key × V)) : Prop := kvs.map (·.1) = vs.map (·.1) ∧ RpL K F (kvs.map (·.2)) (vs.map (·.2))
def RpO (K : PySem.W.Frag) (F : Hp) : DO → HO → Prop
  | .lst ds, o => ∃ xs, o = .lst xs ∧ RpL K F ds xs
  | .dic kvs, o => ∃ vs, o = .dK vs ∧ RpK K F kvs vs
theorem RpO.mono {K : PySem.W.Frag} {F G : Hp} (l : Le F G) {o : DO} {ho : HO} (h : RpO K F o ho) : RpO K G o ho := by
  cases o with
  | lst ds =>
    obtain ⟨xs, e, r⟩ := h
    exact ⟨xs, e, r.mono l⟩
  | dic kvs =>
    obtain ⟨xs, e, r1, r2⟩ := h
    exact ⟨xs, e, r1, r2.mono l⟩

/-- from one state to a later one: what stays, stays; what is hidden, stays as it is and hidden -/
structure Go (H F : Hp) (M : Mu) (H' F' : Hp) (M' : Mu) : Prop where
  le : Le F F'
  kp : ∀ b o, H b = some o → M b = none → H' b = some o ∧ M' b = none ∧ (F b = none → F' b = none)
/-- what is remembered of the way to here -/
class Ghost where
  Z : Hp → Hp → Mu → Prop
  go : ∀ {H F : Hp} {M : Mu} {H' F' : Hp} {M' : Mu}, Z H F M → Go H F M H' F' M' → Z H' F' M'
/-- nothing is remembered -/
abbrev gh0 : Ghost := ⟨fun _ _ _ => True, fun _ _ => trivial⟩
/-- the heap H holds the staying part F and the changing part M; the rest of H is hidden -/
structure Sv0 (K : PySem.W.Frag) (H F : Hp) (M : Mu) : Prop where
  fh : Le F H
  fm : ∀ b o, F b = some o → M b = none
  mu : ∀ a o, M a = some o → ∃ ho, H a = some ho ∧ RpO K F o ho
structure Sv [Ghost] (K : PySem.W.Frag) (H F : Hp) (M : Mu) : Prop extends Sv0 K H F M where
  gh : Ghost.Z H F M
/-- other things are remembered -/
theorem Sv.re {G : Ghost} (G' : Ghost) {K : PySem.W.Frag} {H F : Hp} {M : Mu} (s : @Sv G K H F M) (z : G'.Z H F M) : @Sv G' K H F M :=
  let _ := G'
  ⟨(let _ := G; s.toSv0), z⟩
theorem svgo [Ghost] {K : PySem.W.Frag} {H F H' F' : Hp} {M M' : Mu} (s : Sv K H F M) (v : Sv0 K H' F' M') (g : Go H F M H' F' M') : Sv K H' F' M' ∧ Go H F M H' F' M' := ⟨⟨v, Ghost.go s.gh g⟩, g⟩
section
variable {K : PySem.W.Frag} {H H1 H2 F F1 F2 : Hp} {M M1 M2 : Mu}
theorem Go.refl : Go H F M H F M := ⟨Le.refl F, fun b o h m => ⟨h, m, fun z => z⟩⟩
theorem Go.trans (a : Go H F M H1 F1 M1) (b : Go H1 F1 M1 H2 F2 M2) : Go H F M H2 F2 M2 := ⟨a.le.trans b.le, fun c o h m => by
  obtain ⟨h1, m1, f1⟩ := a.kp c o h m
  obtain ⟨h2, m2, f2⟩ := b.kp c o h1 m1
  exact ⟨h2, m2, fun z => f2 (f1 z)⟩⟩
theorem Sv.fresh [Ghost] {p : Addr} (s : Sv K H F M) (h : H p = none) : F p = none ∧ M p = none := by
  constructor
  · cases e : F p with
    | none => rfl
    | some o => rw [s.fh p o e] at h; cases h
  · cases e : M p with
    | none => rfl
    | some o =>
      obtain ⟨ho, e2, _⟩ := s.mu p o e
      rw [e2] at h; cases h
/-- a new thing that stays -/
theorem Sv.newF [Ghost] {p : Addr} {o : HO} (s : Sv K H F M) (h : H p = none) : Sv K (upd H p o) (upd F p o) M ∧ Go H F M (upd H p o) (upd F p o) M := by
  obtain ⟨hF, hM⟩ := s.fresh h
  have l : Le F (upd F p o) := Le.new hF
  refine svgo s ⟨fun b u e => ?_, fun b u e => ?_, fun a u e => ?_⟩ ⟨l, fun b u e m => ?_⟩
  · by_cases hb : b = p
    · subst hb; rw [upd_same] at e ⊢; exact e
    · rw [upd_ne hb] at e ⊢; exact s.fh b u e
  · by_cases hb : b = p
    · subst hb; exact hM
    · rw [upd_ne hb] at e; exact s.fm b u e
  · obtain ⟨ho, e2, r⟩ := s.mu a u e
    refine ⟨ho, ?_, r.mono l⟩
    rw [upd_ne (ne_of_none e2 h)]
    exact e2
  · have hb : b ≠ p := ne_of_none e h
    exact ⟨by rw [upd_ne hb]; exact e, m, fun z => by rw [upd_ne hb]; exact z⟩
/-- a new thing that may change -/
theorem Sv.newM [Ghost] {p : Addr} {o : DO} {ho : HO} (s : Sv K H F M) (h : H p = none) (r : RpO K F o ho) : Sv K (upd H p ho) F (mset M p o) ∧ Go H F M (upd H p ho) F (mset M p o) := by
  obtain ⟨hF, hM⟩ := s.fresh h
  refine svgo s ⟨fun b u e => ?_, fun b u e => ?_, fun a u e => ?_⟩ ⟨Le.refl F, fun b u e m => ?_⟩
  · rw [upd_ne (ne_of_none e hF)]; exact s.fh b u e
  · rw [mset_ne (ne_of_none e hF)]; exact s.fm b u e
  · by_cases ha : a = p
    · subst ha
      rw [mset_same] at e
      cases e
      exact ⟨ho, upd_same, r⟩
    · rw [mset_ne ha] at e
      obtain ⟨ho', e2, r'⟩ := s.mu a u e
      exact ⟨ho', by rw [upd_ne ha]; exact e2, r'⟩
  · have hb : b ≠ p := ne_of_none e h
    exact ⟨by rw [upd_ne hb]; exact e, by rw [mset_ne hb]; exact m, fun z => z⟩
/-- a thing is changed -/
theorem Sv.wr [Ghost] {p : Addr} {o o' : DO} {ho : HO} (s : Sv K H F M) (h : M p = some o) (r : RpO K F o' ho) : Sv K (upd H p ho) F (mset M p o') ∧ Go H F M (upd H p ho) F (mset M p o') := by
  have hF : ∀ b u, F b = some u → b ≠ p := fun b u e z => by
    subst z
    rw [s.fm b u e] at h; cases h
  refine svgo s ⟨fun b u e => ?_, fun b u e => ?_, fun a u e => ?_⟩ ⟨Le.refl F, fun b u e m => ?_⟩
  · rw [upd_ne (hF b u e)]; exact s.fh b u e
  · rw [mset_ne (hF b u e)]; exact s.fm b u e
  · by_cases ha : a = p
    · subst ha
      rw [mset_same] at e
      cases e
      exact ⟨ho, upd_same, r⟩
    · rw [mset_ne ha] at e
      obtain ⟨ho', e2, r'⟩ := s.mu a u e
      exact ⟨ho', by rw [upd_ne ha]; exact e2, r'⟩
  · have hb : b ≠ p := fun z => by subst z; rw [m] at h; cases h
    exact ⟨by rw [upd_ne hb]; exact e, by rw [mset_ne hb]; exact m, fun z => z⟩
end

/-! ### slots -/
abbrev DEnv := List (Option D)
def ERel (K : PySem.W.Frag) (F : Hp) (δ : DEnv) (σ : L2.St) : Prop := δ.length = σ.length ∧ ∀ (i : Nat) (d : D), δ[i]? = some (some d) → ∃ v, σ[i]? = some (some v) ∧ Rp K F d v
section
variable {K : PySem.W.Frag} {F F1 : Hp} {δ : DEnv} {σ : L2.St}
theorem ERel.mono (l : Le F F1) (h : ERel K F δ σ) : ERel K F1 δ σ := ⟨h.1, fun i d e => by
  obtain ⟨v, e2, r⟩ := h.2 i d e
  exact ⟨v, e2, r.mono l⟩⟩
theorem ERel.set {i : Nat} {d : D} {v : V} (h : ERel K F δ σ) (r : Rp K F d v) : ERel K F (δ.set i (some d)) (σ.set i (some v)) := by
  refine ⟨by rw [List.length_set, List.length_set]; exact h.1, fun j e hj => ?_⟩
  by_cases hji : i = j
  · subst hji
    by_cases hl : i < δ.length
    · rw [List.getElem?_set_self hl] at hj
      have e1 : d = e := Option.some.inj (Option.some.inj hj)
      subst e1
      refine ⟨v, ?_, r⟩
      rw [List.getElem?_set_self (by rw [← h.1]; exact hl)]
    · rw [List.getElem?_eq_none (by rw [List.length_set]; omega)] at hj
      cases hj
  · rw [List.getElem?_set_ne hji] at hj ⊢
    exact h.2 j e hj
theorem ERel.start {N : List Str} {ds : List D} {vs : List V} (h : RpL K F ds vs) : ERel K F (ds.map some ++ List.replicate (N.length - ds.length) none) (L2.start N vs) := by
  have hl := h.len
  refine ⟨by unfold L2.start; rw [List.length_append, List.length_append, List.length_map, List.length_map, List.length_replicate, List.length_replicate, hl], fun i d e => ?_⟩
  by_cases hi : i < ds.length
  · rw [List.getElem?_append_left (by rw [List.length_map]; exact hi), List.getElem?_map] at e
    cases q : ds[i]? with
    | none => rw [q] at e; cases e
    | some d' =>
      rw [q] at e
      have e1 : d' = d := Option.some.inj (Option.some.inj e)
      subst e1
      obtain ⟨x, e2, r⟩ := h.get q
      refine ⟨x, ?_, r⟩
      unfold L2.start
      rw [List.getElem?_append_left (by rw [List.length_map]; omega), List.getElem?_map, e2]
      rfl
  · rw [List.getElem?_append_right (by rw [List.length_map]; omega), List.getElem?_replicate] at e
    split at e <;> cases e
end

/-! ### readings of data, and what they say of the heap -/
abbrev DK := D → Mu → Prop
abbrev DTE := DEnv → Mu → DK → Prop
abbrev DTT := DEnv → Mu → (Bool → Mu → Prop) → Prop
abbrev DTA := DEnv → Mu → (List D → Mu → Prop) → Prop
structure DEnds where
  nx : DEnv → Mu → Prop
  rt : DK
  bk : DEnv → Mu → Prop := fun _ _ => False
  ct : DEnv → Mu → Prop := fun _ _ => False
abbrev DTS := DEnds → DEnv → Mu → Prop

def Post [Ghost] (K : PySem.W.Frag) (H F : Hp) (M : Mu) (Qd : DK) (Q : VK) : Prop := ∀ d M' F' v H', Qd d M' → Go H F M H' F' M' → Sv K H' F' M' → Rp K F' d v → Q v H'
def PostT [Ghost] (K : PySem.W.Frag) (H F : Hp) (M : Mu) (Qd : Bool → Mu → Prop) (Q : Bool → Hp → Prop) : Prop := ∀ b M' F' H', Qd b M' → Go H F M H' F' M' → Sv K H' F' M' → Q b H'
def PostA [Ghost] (K : PySem.W.Frag) (H F : Hp) (M : Mu) (Qd : List D → Mu → Prop) (Q : List V → Hp → Prop) : Prop := ∀ ds M' F' vs H', Qd ds M' → Go H F M H' F' M' → Sv K H' F' M' → RpL K F' ds vs → Q vs H'
def PostE [Ghost] (K : PySem.W.Frag) (H F : Hp) (M : Mu) (Qd : DEnv → Mu → Prop) (Q : L2.St → Hp → Prop) : Prop := ∀ δ M' F' σ H', Qd δ M' → Go H F M H' F' M' → Sv K H' F' M' → ERel K F' δ σ → Q σ H'
structure PostS [Ghost] (K : PySem.W.Frag) (H F : Hp) (M : Mu) (Dd : DEnds) (Dv : Ends) : Prop where
  nx : PostE K H F M Dd.nx Dv.nx
  rt : Post K H F M Dd.rt Dv.rt
  bk : PostE K H F M Dd.bk Dv.bk
  ct : PostE K H F M Dd.ct Dv.ct
section
variable {K : PySem.W.Frag} {H H1 F F1 : Hp} {M M1 : Mu}
theorem Post.go [Ghost] {Qd : DK} {Q : VK} (p : Post K H F M Qd Q) (g : Go H F M H1 F1 M1) : Post K H1 F1 M1 Qd Q := fun d M' F' v H' q g' s r => p d M' F' v H' q (g.trans g') s r
theorem PostT.go [Ghost] {Qd : Bool → Mu → Prop} {Q : Bool → Hp → Prop} (p : PostT K H F M Qd Q) (g : Go H F M H1 F1 M1) : PostT K H1 F1 M1 Qd Q := fun d M' F' H' q g' s => p d M' F' H' q (g.trans g') s
theorem PostA.go [Ghost] {Qd : List D → Mu → Prop} {Q : List V → Hp → Prop} (p : PostA K H F M Qd Q) (g : Go H F M H1 F1 M1) : PostA K H1 F1 M1 Qd Q := fun d M' F' v H' q g' s r => p d M' F' v H' q (g.trans g') s r
theorem PostE.go [Ghost] {Qd : DEnv → Mu → Prop} {Q : L2.St → Hp → Prop} (p : PostE K H F M Qd Q) (g : Go H F M H1 F1 M1) : PostE K H1 F1 M1 Qd Q := fun d M' F' v H' q g' s r => p d M' F' v H' q (g.trans g') s r
theorem PostS.go [Ghost] {Dd : DEnds} {Dv : Ends} (p : PostS K H F M Dd Dv) (g : Go H F M H1 F1 M1) : PostS K H1 F1 M1 Dd Dv := ⟨p.nx.go g, p.rt.go g, p.bk.go g, p.ct.go g⟩
theorem Post.fin [Ghost] {Qd : DK} {Q : VK} (p : Post K H F M Qd Q) (s : Sv K H F M) {d : D} {v : V} (q : Qd d M) (r : Rp K F d v) : Q v H := p d M F v H q Go.refl s r
end
def lift [Ghost] (K : PySem.W.Frag) (u : DTE) : TE := fun σ H Q => ∃ δ M F Qd, ERel K F δ σ ∧ Sv K H F M ∧ u δ M Qd ∧ Post K H F M Qd Q
def liftT [Ghost] (K : PySem.W.Frag) (u : DTT) : TT := fun σ H Q => ∃ δ M F Qd, ERel K F δ σ ∧ Sv K H F M ∧ u δ M Qd ∧ PostT K H F M Qd Q
def liftA [Ghost] (K : PySem.W.Frag) (u : DTA) : TA := fun σ H Q => ∃ δ M F Qd, ERel K F δ σ ∧ Sv K H F M ∧ u δ M Qd ∧ PostA K H F M Qd Q
def liftS [Ghost] (K : PySem.W.Frag) (u : DTS) : TS := fun Dv σ H => ∃ δ M F Dd, ERel K F δ σ ∧ Sv K H F M ∧ u Dd δ M ∧ PostS K H F M Dd Dv
abbrev DE [Ghost] (X : Cx) (e : Expr) (u : DTE) : Prop := PE X e (lift X.K u)
abbrev DT [Ghost] (X : Cx) (e : Expr) (u : DTT) : Prop := PT X e (liftT X.K u)
abbrev DW [Ghost] (X : Cx) (e : Expr) (u : DTT) : Prop := PW X e (liftT X.K u)
abbrev DA [Ghost] (X : Cx) (es : List Expr) (u : DTA) : Prop := PA X es (liftA X.K u)
abbrev DS [Ghost] (X : Cx) (s : Stmt) (u : DTS) : Prop := PS X s (liftS X.K u)
abbrev DSs [Ghost] (X : Cx) (s : List Stmt) (u : DTS) : Prop := PSs X s (liftS X.K u)
section
variable {X : Cx}
theorem PE.weak {e : Expr} {t t' : TE} (h : PE X e t) (i : ∀ σ H Q, t' σ H Q → t σ H Q) : PE X e t' := ⟨fun pins s σ H Q I q => h.run pins s σ H Q I (i _ _ _ q)⟩
theorem PT.weak {e : Expr} {t t' : TT} (h : PT X e t) (i : ∀ σ H Q, t' σ H Q → t σ H Q) : PT X e t' := ⟨fun pins s σ H Q I q => h.run pins s σ H Q I (i _ _ _ q)⟩
theorem PW.weak {e : Expr} {t t' : TT} (h : PW X e t) (i : ∀ σ H Q, t' σ H Q → t σ H Q) : PW X e t' := ⟨fun wh pins s σ H Q I q => h.run wh pins s σ H Q I (i _ _ _ q)⟩
theorem PA.weak {e : List Expr} {t t' : TA} (h : PA X e t) (i : ∀ σ H Q, t' σ H Q → t σ H Q) : PA X e t' := ⟨fun pos pins s σ H Q I q => h.run pos pins s σ H Q I (i _ _ _ q)⟩
theorem PS.weak {e : Stmt} {t t' : TS} (h : PS X e t) (i : ∀ D σ H, t' D σ H → t D σ H) : PS X e t' := ⟨fun pins s σ H D I q => h.run pins s σ H D I (i _ _ _ q)⟩
theorem PSs.weak {e : List Stmt} {t t' : TS} (h : PSs X e t) (i : ∀ D σ H, t' D σ H → t D σ H) : PSs X e t' := ⟨fun pins s σ H D I q => h.run pins s σ H D I (i _ _ _ q)⟩
end
end DL

namespace DL
open PySem PySem.Spec PyProof.Rows L2 TL

/-! ### names, constants -/
def dVar (i : Nat) : DTE := fun δ M Q => match δ[i]? with
  | some (some d) => Q d M
  | _ => False
def dC (d : D) : DTE := fun _ M Q => Q d M
section
variable {X : Cx}
theorem de_var [Ghost] (i : Nat) {x : Str} {pos : Pos} (hN : X.N[i]? = some x := by rfl) (hv : Vis X.env.scope x := by first | exact Or.inl rfl | exact Or.inr (Or.inl rfl) | exact Or.inr (Or.inr rfl)) (hd : (x == ("__debug__" : Str)) = false := by decide)
    (hcd : (x == ("__classdict__" : Str)) = false := by decide) : DE X (.Name x pos) (dVar i) := by
  refine PE.weak (pe_var hN hv hd hcd) fun σ H Q h => ?_
  obtain ⟨δ, M, F, Qd, hE, s, hu, p⟩ := h
  have hu' : (match δ[i]? with | some (some d) => Qd d M | _ => False) := hu
  split at hu'
  · rename_i d e
    obtain ⟨v, e2, r⟩ := hE.2 i d e
    exact ⟨v, e2, p.fin s hu' r⟩
  · exact hu'.elim
theorem de_cst [Ghost] {e : Expr} {v : V} {d : D} (h : PE X e (tC v)) (r : ∀ F, Rp X.K F d v) : DE X e (dC d) := by
  refine PE.weak h fun σ H Q h => ?_
  obtain ⟨δ, M, F, Qd, hE, s, hu, p⟩ := h
  exact p.fin s hu (r F)
theorem de_int [Ghost] {i : Int} {j : Nat} {pos : Pos} : DE X (.Constant (.int i) j pos) (dC (.int i)) := de_cst pe_int fun F => by unfold Rp; rfl
theorem de_bl [Ghost] {i : Bool} {j : Nat} {pos : Pos} : DE X (.Constant (.bool i) j pos) (dC (.bl i)) := de_cst pe_bl fun F => by unfold Rp; rfl
theorem de_non [Ghost] {j : Nat} {pos : Pos} : DE X (.Constant .none j pos) (dC .non) := de_cst pe_non fun F => by unfold Rp; rfl
theorem de_str [Ghost] {x : Str} {j : Nat} {pos : Pos} (cs : List Nat) (h : x = mkS cs := by decide +kernel) : DE X (.Constant (.str x) j pos) (dC (.str cs)) := de_cst pe_str fun F => by unfold Rp; rw [h]
theorem de_glob [Ghost] {x : Str} {pos : Pos} {d : D} {v : V} {u : Value} (hg : Gl X x) (hm : X.mg x = some u) (r : RelV v u) (rp : ∀ F, Rp X.K F d v) (hd : (x == ("__debug__" : Str)) = false := by decide) : DE X (.Name x pos) (dC d) := de_cst (pe_glob hg hm r hd) rp
theorem de_ty [Ghost] {x : Str} {pos : Pos} (n : String) (hg : Gl X x) (hm : X.mg x = none) (hv : bootBuiltins x = some (.type n)) (hn : x ≠ "__name__" := by decide) (hd : (x == ("__debug__" : Str)) = false := by decide) : DE X (.Name x pos) (dC (.ty n)) := de_cst (pe_bltn (v := .ty n) hg hm hv rfl hn hd) fun F => by unfold Rp; rfl
end

/-! ### operators -/
abbrev DR2 := D → D → Mu → DK → Prop
def dOp (rd : DR2) (ua ub : DTE) : DTE := fun δ M Q => ua δ M fun x M1 => ub δ M1 fun y M2 => rd x y M2 Q
/-- what a rule by data says of a rule by values -/
def Rel2 [Ghost] (K : PySem.W.Frag) (r : R2) (rd : DR2) : Prop := ∀ x y vx vy H F M Qd Q, Rp K F x vx → Rp K F y vy → Sv K H F M → rd x y M Qd → Post K H F M Qd Q → r vx vy H Q
theorem OpR.or {X : Cx} {f : Value → Value → Sem Value} {r r' : R2} (h : OpR X f r) (h' : OpR X f r') : OpR X f (fun x y H Q => r x y H Q ∨ r' x y H Q) := fun pins s σ H x y v u Q I rx ry q => by
  rcases q with q | q
  · exact h pins s σ H x y v u Q I rx ry q
  · exact h' pins s σ H x y v u Q I rx ry q
section
variable {X : Cx} {a b c : Expr} {ua ub uc : DTE} {pos : Pos}
theorem bin2 [Ghost] {r : R2} {rd : DR2} (hr : Rel2 X.K r rd) : ∀ σ H Q, lift X.K (dOp rd ua ub) σ H Q → tOp r (lift X.K ua) (lift X.K ub) σ H Q := fun σ H Q h => by
  obtain ⟨δ, M, F, Qd, hE, s, hu, p⟩ := h
  refine ⟨δ, M, F, _, hE, s, hu, fun x M1 F1 vx H1 q1 g1 s1 r1 => ?_⟩
  refine ⟨δ, M1, F1, _, hE.mono g1.le, s1, q1, fun y M2 F2 vy H2 q2 g2 s2 r2 => ?_⟩
  exact hr x y vx vy H2 F2 M2 Qd Q (r1.mono g2.le) r2 s2 q2 (p.go (g1.trans g2))
theorem de_op [Ghost] {op : Operator} {r : R2} {rd : DR2} (ho : OpR X (binaryOp op) r) (hr : Rel2 X.K r rd) (ha : DE X a ua) (hb : DE X b ub) : DE X (.BinOp a op b pos) (dOp rd ua ub) := PE.weak (pe_op ho ha hb) (bin2 hr)
theorem de_cmp [Ghost] {op : CmpOp} {r : R2} {rd : DR2} (ho : OpR X (compareOp op) r) (hr : Rel2 X.K r rd) (ha : DE X a ua) (hb : DE X b ub) (hm : behindInMarks op b = false) : DE X (.Compare a [op] [b] pos) (dOp rd ua ub) := PE.weak (pe_cmpR ho ha hb hm) (bin2 hr)
end
def DUn := D → Mu → DK → Prop
def dUn (rd : DUn) (ua : DTE) : DTE := fun δ M Q => ua δ M fun x M1 => rd x M1 Q
def Rel1 [Ghost] (K : PySem.W.Frag) (r : V → Hp → VK → Prop) (rd : DUn) : Prop := ∀ x vx H F M Qd Q, Rp K F x vx → Sv K H F M → rd x M Qd → Post K H F M Qd Q → r vx H Q
section
variable {X : Cx} {a b c : Expr} {ua ub uc : DTE} {pos : Pos}
theorem un1 [Ghost] {r : V → Hp → VK → Prop} {rd : DUn} (hr : Rel1 X.K r rd) : ∀ σ H Q, lift X.K (dUn rd ua) σ H Q → tUn r (lift X.K ua) σ H Q := fun σ H Q h => by
  obtain ⟨δ, M, F, Qd, hE, s, hu, p⟩ := h
  exact ⟨δ, M, F, _, hE, s, hu, fun x M1 F1 vx H1 q1 g1 s1 r1 => hr x vx H1 F1 M1 Qd Q r1 s1 q1 (p.go g1)⟩
theorem de_un [Ghost] {op : UnaryOp} {r : V → Hp → VK → Prop} {rd : DUn} (ho : UnR X (unaryOp op) r) (hr : Rel1 X.K r rd) (ha : DE X a ua) : DE X (.UnaryOp op a pos) (dUn rd ua) := PE.weak (pe_un ho ha) (un1 hr)
end

/-! ### sequences by data -/
/-- the items of a list -/
def dseq (M : Mu) : D → Option (List D)
  | .lst ds => some ds
  | .ref a => match M a with
    | some (.lst ds) => some ds
    | _ => none
  | _ => none
theorem dseq_at [Ghost] {K : PySem.W.Frag} {H F : Hp} {M : Mu} {d : D} {v : V} {ds : List D} (s : Sv K H F M) (r : Rp K F d v) (h : dseq M d = some ds) : ∃ a xs, v = .ref a ∧ H a = some (.lst xs) ∧ RpL K F ds xs := by
  cases d with
  | lst es =>
    unfold Rp at r
    obtain ⟨a, xs, e, h1, r1⟩ := r
    cases h
    exact ⟨a, xs, e, s.fh _ _ h1, r1⟩
  | ref a =>
    unfold Rp at r
    have h' : (match M a with | some (.lst ds) => some ds | _ => none) = some ds := h
    cases q : M a with
    | none => rw [q] at h'; cases h'
    | some o =>
      rw [q] at h'
      cases o with
      | lst es =>
        cases h'
        obtain ⟨ho, e, xs, e2, r1⟩ := s.mu a _ q
        subst e2
        exact ⟨a, xs, r, e, r1⟩
      | dic kvs => cases h'
  | _ => cases h
/-- a new list: one that stays, or (mu) one that may change -/
def dNew (mu : Bool) (ds : List D) (M : Mu) (Q : DK) : Prop := match mu with
  | false => Q (.lst ds) M
  | true => ∀ p, M p = none → Q (.ref p) (mset M p (.lst ds))
theorem dNew_at [Ghost] {K : PySem.W.Frag} {H F : Hp} {M : Mu} {mu : Bool} {ds : List D} {xs : List V} {Qd : DK} {Q : VK} {p : Addr} (s : Sv K H F M) (r : RpL K F ds xs) (h : dNew mu ds M Qd) (po : Post K H F M Qd Q) (hp : H p = none) : Q (.ref p) (upd H p (.lst xs)) := by
  cases mu with
  | false =>
    obtain ⟨s1, g1⟩ := s.newF (o := .lst xs) hp
    refine po _ _ _ _ _ h g1 s1 ?_
    unfold Rp
    exact ⟨p, xs, rfl, upd_same, r.mono g1.le⟩
  | true =>
    obtain ⟨s1, g1⟩ := s.newM (o := .lst ds) (ho := .lst xs) hp ⟨xs, rfl, r⟩
    refine po _ _ _ _ _ (h p (s.fresh hp).2) g1 s1 ?_
    unfold Rp
    rfl
theorem newT_at [Ghost] {K : PySem.W.Frag} {H F : Hp} {M : Mu} {ds : List D} {xs : List V} {Qd : DK} {Q : VK} {p : Addr} (s : Sv K H F M) (r : RpL K F ds xs) (h : Qd (.tup ds) M) (po : Post K H F M Qd Q) (hp : H p = none) : Q (.ref p) (upd H p (.tup xs)) := by
  obtain ⟨s1, g1⟩ := s.newF (o := .tup xs) hp
  refine po _ _ _ _ _ h g1 s1 ?_
  unfold Rp
  exact ⟨p, xs, rfl, .inl (.inl upd_same), r.mono g1.le⟩

/-! ### + -/
def dAdd (mu : Bool) : DR2
  | .int i, .int j, M, Q => Q (.int (i + j)) M
  | .str a, .str b, M, Q => a.length + b.length ≤ sizeLine ∧ Q (.str (a ++ b)) M
  | .tup a, .tup b, M, Q => a.length + b.length ≤ sizeLine ∧ Q (.tup (a ++ b)) M
  | x, y, M, Q => match dseq M x, dseq M y with
    | some a, some b => a.length + b.length ≤ sizeLine ∧ dNew mu (a ++ b) M Q
    | _, _ => False
def rAddAll (K : PySem.W.Frag) : R2 := fun x y H Q => ((rI0 (fun i j => .int (i + j))) x y H Q ∨ (∃ i j, x = .str i ∧ y = .str j ∧ i.length + j.length ≤ sizeLine ∧ Q (.str (i ++ j)) H)) ∨ (rCatA K x y H Q ∨ rCat x y H Q)
theorem op_addAll {X : Cx} : OpR X (binaryOp .Add) (rAddAll X.K) := OpR.or (OpR.or op_add op_add_str) (OpR.or op_catA op_cat)
theorem rel_cat [Ghost] {K : PySem.W.Frag} {mu : Bool} {x y : D} {vx vy : V} {H F : Hp} {M : Mu} {Qd : DK} {Q : VK} (rx : Rp K F x vx) (ry : Rp K F y vy) (s : Sv K H F M) (po : Post K H F M Qd Q)
    (h : match dseq M x, dseq M y with | some a, some b => a.length + b.length ≤ sizeLine ∧ dNew mu (a ++ b) M Qd | _, _ => False) : rCat vx vy H Q := by
  cases qx : dseq M x with
  | none => rw [qx] at h; exact h.elim
  | some a =>
    cases qy : dseq M y with
    | none => rw [qx, qy] at h; exact h.elim
    | some b =>
      rw [qx, qy] at h
      obtain ⟨hl, h⟩ := h
      obtain ⟨p, xs, e1, h1, r1⟩ := dseq_at s rx qx
      obtain ⟨q, ys, e2, h2, r2⟩ := dseq_at s ry qy
      exact ⟨p, q, xs, ys, e1, e2, h1, h2, by rw [← r1.len, ← r2.len]; exact hl, fun l hl => dNew_at s (r1.app r2) h po hl⟩
theorem rel_add [Ghost] {K : PySem.W.Frag} {mu : Bool} : Rel2 K (rAddAll K) (dAdd mu) := by
  intro x y vx vy H F M Qd Q rx ry s h po
  unfold dAdd at h
  split at h
  · unfold Rp at rx ry
    exact .inl (.inl ⟨_, _, rx, ry, po.fin s h (by unfold Rp; rfl)⟩)
  · unfold Rp at rx ry
    obtain ⟨hl, h⟩ := h
    refine .inl (.inr ⟨_, _, rx, ry, by rw [mkS_len, mkS_len]; exact hl, po.fin s h (by unfold Rp; rw [mkS_app])⟩)
  · unfold Rp at rx ry
    obtain ⟨a, xs, e1, h1, r1⟩ := rx
    obtain ⟨b, ys, e2, h2, r2⟩ := ry
    obtain ⟨hl, h⟩ := h
    rename_i as bs
    refine .inr (.inl ⟨a, b, xs, ys, e1, e2, s.fh.sqT h1, s.fh.sqT h2, by rw [← r1.len, ← r2.len]; exact hl, fun z => ?_, fun _ z => ?_, fun _ _ p hp => newT_at s (r1.app r2) h po hp⟩)
    · subst z
      have ha : as = [] := List.length_eq_zero_iff.mp (by rw [r1.len]; rfl)
      subst ha
      exact po.fin s h (by unfold Rp; exact ⟨b, ys, rfl, h2, r2⟩)
    · subst z
      have hb : bs = [] := List.length_eq_zero_iff.mp (by rw [r2.len]; rfl)
      subst hb
      rw [List.append_nil] at h
      exact po.fin s h (by unfold Rp; exact ⟨a, xs, rfl, h1, r1⟩)
  · exact .inr (.inr (rel_cat rx ry s po h))

/-! ### other arithmetic -/
def dSub : DR2
  | .int i, .int j, M, Q => Q (.int (i - j)) M
  | _, _, _, _ => False
theorem rel_sub [Ghost] {K : PySem.W.Frag} : Rel2 K (rI0 fun i j => .int (i - j)) dSub := by
  intro x y vx vy H F M Qd Q rx ry s h po
  unfold dSub at h
  split at h
  · unfold Rp at rx ry
    exact ⟨_, _, rx, ry, po.fin s h (by unfold Rp; rfl)⟩
  · exact h.elim
def CMulD (i j : Int) : Prop := CMulX i j
def dMul (mu : Bool) : DR2
  | .int i, .int j, M, Q => CMulX i j ∧ Q (.int (i * j)) M
  | x, .int k, M, Q => match dseq M x with
    | some a => -(2 ^ 63) ≤ k ∧ k < 2 ^ 63 ∧ a.length * k.toNat ≤ sizeLine ∧ dNew mu (List.replicate k.toNat a).flatten M Q
    | none => False
  | _, _, _, _ => False
theorem RpL.rep {K : PySem.W.Frag} {F : Hp} {ds : List D} {xs : List V} (h : RpL K F ds xs) : ∀ k : Nat, RpL K F (List.replicate k ds).flatten (List.replicate k xs).flatten
  | 0 => RpL.nil
  | k + 1 => by
    rw [List.replicate_succ, List.replicate_succ, List.flatten_cons, List.flatten_cons]
    exact h.app (RpL.rep h k)
def rMulAll : R2 := fun x y H Q => (rI CMulX (fun i j => .int (i * j))) x y H Q ∨ rRep x y H Q
theorem op_mulAll {X : Cx} : OpR X (binaryOp .Mult) rMulAll := OpR.or op_mulX op_rep
theorem rel_mul [Ghost] {K : PySem.W.Frag} {mu : Bool} : Rel2 K rMulAll (dMul mu) := by
  intro x y vx vy H F M Qd Q rx ry s h po
  unfold dMul at h
  split at h
  · unfold Rp at rx ry
    exact .inl ⟨_, _, rx, ry, h.1, po.fin s h.2 (by unfold Rp; rfl)⟩
  · split at h
    · rename_i a e
      obtain ⟨h1, h2, h3, h4⟩ := h
      obtain ⟨p, xs, e1, e2, r1⟩ := dseq_at s rx e
      unfold Rp at ry
      exact .inr ⟨p, _, xs, e1, ry, e2, h1, h2, by rw [← r1.len]; exact h3, fun l hl => dNew_at s (r1.rep _) h4 po hl⟩
    · exact h.elim
  · exact h.elim
def CDivX (j : Int) : Prop := j ≠ 0 ∧ j.natAbs.log2 < 9000
def dFdiv : DR2
  | .int i, .int j, M, Q => CDivX j ∧ Q (.int (i.fdiv j)) M
  | _, _, _, _ => False
theorem op_fdivX {X : Cx} : OpR X (binaryOp .FloorDiv) (rI (fun _ j => CDivX j) fun i j => .int (i.fdiv j)) := opI fun _ _ _ _ _ _ _ hc q => floordiv_int hc.1 q (.inl (PyProof.noPylong_of_log2 hc.2))
theorem rel_fdiv [Ghost] {K : PySem.W.Frag} : Rel2 K (rI (fun _ j => CDivX j) fun i j => .int (i.fdiv j)) dFdiv := by
  intro x y vx vy H F M Qd Q rx ry s h po
  unfold dFdiv at h
  split at h
  · unfold Rp at rx ry
    exact ⟨_, _, rx, ry, h.1, po.fin s h.2 (by unfold Rp; rfl)⟩
  · exact h.elim
def dMod : DR2
  | .int i, .int j, M, Q => j ≠ 0 ∧ Q (.int (i.fmod j)) M
  | _, _, _, _ => False
theorem rel_mod [Ghost] {K : PySem.W.Frag} : Rel2 K (rI (fun _ j => j ≠ 0) fun i j => .int (i.fmod j)) dMod := by
  intro x y vx vy H F M Qd Q rx ry s h po
  unfold dMod at h
  split at h
  · unfold Rp at rx ry
    exact ⟨_, _, rx, ry, h.1, po.fin s h.2 (by unfold Rp; rfl)⟩
  · exact h.elim
def dPow : DR2
  | .int i, .int j, M, Q => CPow i j ∧ Q (.int (i ^ j.toNat)) M
  | _, _, _, _ => False
theorem rel_pow [Ghost] {K : PySem.W.Frag} : Rel2 K (rI CPow fun i j => .int (i ^ j.toNat)) dPow := by
  intro x y vx vy H F M Qd Q rx ry s h po
  unfold dPow at h
  split at h
  · unfold Rp at rx ry
    exact ⟨_, _, rx, ry, h.1, po.fin s h.2 (by unfold Rp; rfl)⟩
  · exact h.elim
def dShl : DR2
  | .int i, .int j, M, Q => CShl i j ∧ Q (.int (i * 2 ^ j.toNat)) M
  | _, _, _, _ => False
theorem rel_shl [Ghost] {K : PySem.W.Frag} : Rel2 K (rI CShl fun i j => .int (i * 2 ^ j.toNat)) dShl := by
  intro x y vx vy H F M Qd Q rx ry s h po
  unfold dShl at h
  split at h
  · unfold Rp at rx ry
    exact ⟨_, _, rx, ry, h.1, po.fin s h.2 (by unfold Rp; rfl)⟩
  · exact h.elim
def dNeg : DUn
  | .int i, M, Q => Q (.int (-i)) M
  | _, _, _ => False
theorem rel_neg [Ghost] {K : PySem.W.Frag} : Rel1 K (rU fun i => .int (-i)) dNeg := by
  intro x vx H F M Qd Q rx s h po
  unfold dNeg at h
  split at h
  · unfold Rp at rx
    exact ⟨_, rx, po.fin s h (by unfold Rp; rfl)⟩
  · exact h.elim
section
variable {X : Cx} {a b c : Expr} {ua ub uc : DTE} {pos : Pos}
theorem de_add [Ghost] (mu : Bool) (ha : DE X a ua) (hb : DE X b ub) : DE X (.BinOp a .Add b pos) (dOp (dAdd mu) ua ub) := de_op op_addAll rel_add ha hb
theorem de_sub [Ghost] (ha : DE X a ua) (hb : DE X b ub) : DE X (.BinOp a .Sub b pos) (dOp dSub ua ub) := de_op op_sub rel_sub ha hb
theorem de_mul [Ghost] (mu : Bool) (ha : DE X a ua) (hb : DE X b ub) : DE X (.BinOp a .Mult b pos) (dOp (dMul mu) ua ub) := de_op op_mulAll rel_mul ha hb
theorem de_fdiv [Ghost] (ha : DE X a ua) (hb : DE X b ub) : DE X (.BinOp a .FloorDiv b pos) (dOp dFdiv ua ub) := de_op op_fdivX rel_fdiv ha hb
theorem de_mod [Ghost] (ha : DE X a ua) (hb : DE X b ub) : DE X (.BinOp a .Mod b pos) (dOp dMod ua ub) := de_op op_modN rel_mod ha hb
theorem de_pow [Ghost] (ha : DE X a ua) (hb : DE X b ub) : DE X (.BinOp a .Pow b pos) (dOp dPow ua ub) := de_op op_pow rel_pow ha hb
theorem de_shl [Ghost] (ha : DE X a ua) (hb : DE X b ub) : DE X (.BinOp a .LShift b pos) (dOp dShl ua ub) := de_op op_shlW rel_shl ha hb
theorem de_neg [Ghost] (ha : DE X a ua) : DE X (.UnaryOp .USub a pos) (dUn dNeg ua) := de_un un_neg rel_neg ha
end

/-! ### comparisons -/
mutual
def pyd : D → Option PyData
  | .non => some .none
  | .bl b => some (.bool b)
  | .int i => some (.int i)
  | .str cs => some (.str (mkS cs))
  | .tup ds => (pydL ds).map .tuple
  | .lst ds => (pydL ds).map .list
  | .src ns => some (.list (ns.map .int))
  | _ => none
def pydL : List D → Option (List PyData)
  | [] => some []
  | d :: ds => match pyd d, pydL ds with
    | some p, some ps => some (p :: ps)
    | _, _ => none
end
theorem dpAll_ints {K : PySem.W.Frag} {H : Hp} : ∀ ns : List Int, DpAll K H (ns.map V.int) (ns.map PyData.int)
  | [] => .nil
  | n :: ns => .cons (.int n) (dpAll_ints ns)
mutual
theorem pyd_at {K : PySem.W.Frag} {H F : Hp} (l : Le F H) : ∀ {d : D} {v : V} {p : PyData}, Rp K F d v → pyd d = some p → Dp K H v p
  | .non, _, _, r, e => by unfold Rp at r; unfold pyd at e; cases e; subst r; exact .non
  | .bl _, _, _, r, e => by unfold Rp at r; unfold pyd at e; cases e; subst r; exact .bl _
  | .int _, _, _, r, e => by unfold Rp at r; unfold pyd at e; cases e; subst r; exact .int _
  | .str _, _, _, r, e => by unfold Rp at r; unfold pyd at e; cases e; subst r; exact .str _
  | .ref _, _, _, r, e => by unfold pyd at e; cases e
  | .ty _, _, _, r, e => by unfold pyd at e; cases e
  | .src ns, _, _, r, e => by
    unfold Rp at r; unfold pyd at e; cases e
    obtain ⟨a, e1, h1⟩ := r
    subst e1
    exact .lst (l.sqL h1) (dpAll_ints ns)
  | .tup ds, _, _, r, e => by
    unfold Rp at r; unfold pyd at e
    obtain ⟨a, xs, e1, h1, r1⟩ := r
    subst e1
    cases q : pydL ds with
    | none => rw [q] at e; cases e
    | some ps => rw [q] at e; cases e; exact .tup (l.sqT h1) (pydL_at l r1 q)
  | .lst ds, _, _, r, e => by
    unfold Rp at r; unfold pyd at e
    obtain ⟨a, xs, e1, h1, r1⟩ := r
    subst e1
    cases q : pydL ds with
    | none => rw [q] at e; cases e
    | some ps => rw [q] at e; cases e; exact .lst (.inl (.inl (l _ _ h1))) (pydL_at l r1 q)
theorem pydL_at {K : PySem.W.Frag} {H F : Hp} (l : Le F H) : ∀ {ds : List D} {vs : List V} {ps : List PyData}, RpL K F ds vs → pydL ds = some ps → DpAll K H vs ps
  | [], _, _, r, e => by unfold RpL at r; unfold pydL at e; cases e; subst r; exact .nil
  | d :: ds, _, _, r, e => by
    unfold RpL at r
    obtain ⟨x, xs, e1, r1, r2⟩ := r
    subst e1
    unfold pydL at e
    cases q1 : pyd d with
    | none => rw [q1] at e; cases e
    | some p =>
      cases q2 : pydL ds with
      | none => rw [q1, q2] at e; cases e
      | some ps =>
        rw [q1, q2] at e; cases e
        exact .cons (pyd_at l r1 q1) (pydL_at l r2 q2)
end
/-- a list that may change, as data at its top -/
def pydM (M : Mu) : D → Option PyData
  | .ref a => match M a with
    | some (.lst ds) => (pydL ds).map .list
    | _ => none
  | d => pyd d
theorem pydM_at [Ghost] {K : PySem.W.Frag} {H F : Hp} {M : Mu} (s : Sv K H F M) {d : D} {v : V} {p : PyData} (r : Rp K F d v) (e : pydM M d = some p) : Dp K H v p := by
  cases d with
  | ref a =>
    unfold Rp at r
    subst r
    have e' : (match M a with | some (.lst ds) => (pydL ds).map .list | _ => none) = some p := e
    cases q : M a with
    | none => rw [q] at e'; cases e'
    | some o =>
      rw [q] at e'
      cases o with
      | dic _ => cases e'
      | lst ds =>
        obtain ⟨ho, e2, xs, e3, r1⟩ := s.mu a _ q
        subst e3
        have e4 : (pydL ds).map PyData.list = some p := e'
        cases q2 : pydL ds with
        | none => rw [q2] at e4; cases e4
        | some ps => rw [q2] at e4; cases e4; exact .lst (.inl (.inl e2)) (pydL_at s.fh r1 q2)
  | _ => exact pyd_at s.fh r e
/-- data whose == is told -/
def dEqv (M : Mu) (x y : D) (Q : Bool → Prop) : Prop := match x, y with
  | .int i, .int j => Q (decide (i = j))
  | .str a, .str b => Q (decide (a = b))
  | .bl a, .bl b => Q (decide (a = b))
  | .non, .non => Q true
  | .non, .int _ => Q false
  | .int _, .non => Q false
  | .non, .str _ => Q false
  | .str _, .non => Q false
  | .non, .bl _ => Q false
  | .bl _, .non => Q false
  | .int _, .str _ => Q false
  | .str _, .int _ => Q false
  | x, y => ∃ d e, pydM M x = some d ∧ pydM M y = some e ∧ SeqAt.shaped d = true ∧ SeqAt.shaped e = true ∧ Q (PyData.eqv d e)
def dEq : DR2 := fun x y M Q => dEqv M x y fun b => Q (.bl b) M
def dNe : DR2 := fun x y M Q => dEqv M x y fun b => Q (.bl (!b)) M
def rEqAll (K : PySem.W.Frag) : R2 := fun x y H Q => rEq x y H Q ∨ rEqD K x y H Q
def rNeAll (K : PySem.W.Frag) : R2 := fun x y H Q => rNe x y H Q ∨ rNeD K x y H Q
theorem dec_mkS (a b : List Nat) : decide (V.str (mkS a) = V.str (mkS b)) = decide (a = b) := by
  by_cases e : a = b
  · subst e; simp
  · rw [decide_eq_false e]
    exact decide_eq_false fun z => e (mkS_inj (V.str.inj z))
theorem rel_eqv [Ghost] {K : PySem.W.Frag} {x y : D} {vx vy : V} {H F : Hp} {M : Mu} {Qd : Bool → Prop} {Q : Bool → Prop} (rx : Rp K F x vx) (ry : Rp K F y vy) (s : Sv K H F M) (h : dEqv M x y Qd) (po : ∀ b, Qd b → Q b) :
    (scal vx vy = true ∧ Q (decide (vx = vy))) ∨ ∃ d e, Dp K H vx d ∧ Dp K H vy e ∧ SeqAt.shaped d = true ∧ SeqAt.shaped e = true ∧ Q (PyData.eqv d e) := by
  unfold dEqv at h
  split at h
  · unfold Rp at rx ry; subst rx ry
    refine .inl ⟨rfl, ?_⟩
    rename_i i j
    have e : decide (V.int i = V.int j) = decide (i = j) := by rw [dec_int]; rfl
    rw [e]; exact po _ h
  · unfold Rp at rx ry; subst rx ry
    refine .inl ⟨rfl, ?_⟩
    rw [dec_mkS]; exact po _ h
  · unfold Rp at rx ry; subst rx ry
    refine .inl ⟨rfl, ?_⟩
    rename_i i j
    have e : decide (V.bl i = V.bl j) = decide (i = j) := by cases i <;> cases j <;> rfl
    rw [e]; exact po _ h
  · unfold Rp at rx ry; subst rx ry
    exact .inl ⟨rfl, po _ h⟩
  all_goals first
    | (unfold Rp at rx ry; subst rx ry; exact .inl ⟨rfl, by rw [decide_eq_false (by intro z; cases z)]; exact po _ h⟩)
    | skip
  obtain ⟨d, e, e1, e2, s1, s2, q⟩ := h
  exact .inr ⟨d, e, pydM_at s rx e1, pydM_at s ry e2, s1, s2, po _ q⟩
theorem rel_eq [Ghost] {K : PySem.W.Frag} : Rel2 K (rEqAll K) dEq := by
  intro x y vx vy H F M Qd Q rx ry s h po
  rcases rel_eqv (Q := fun b => Q (.bl b) H) rx ry s h (fun b q => po.fin s q (by unfold Rp; rfl)) with h | h
  · exact .inl h
  · exact .inr h
theorem rel_ne [Ghost] {K : PySem.W.Frag} : Rel2 K (rNeAll K) dNe := by
  intro x y vx vy H F M Qd Q rx ry s h po
  rcases rel_eqv (Q := fun b => Q (.bl (!b)) H) rx ry s h (fun b q => po.fin s q (by unfold Rp; rfl)) with h | h
  · exact .inl h
  · exact .inr h
theorem op_eqAll {X : Cx} (hu : X.A.units + 64 < cLine) : OpR X (compareOp .Eq) (rEqAll X.K) := OpR.or op_eq (op_eqD hu)
theorem op_neAll {X : Cx} (hu : X.A.units + 64 < cLine) : OpR X (compareOp .NotEq) (rNeAll X.K) := OpR.or op_ne (op_neD hu)
def dLt : DR2
  | .int i, .int j, M, Q => Q (.bl (decide (i < j))) M
  | .str a, .str b, M, Q => Q (.bl (decide (a < b))) M
  | _, _, _, _ => False
def dGt : DR2
  | .int i, .int j, M, Q => Q (.bl (decide (j < i))) M
  | .str a, .str b, M, Q => Q (.bl (decide (b < a))) M
  | _, _, _, _ => False
def dLe : DR2
  | .int i, .int j, M, Q => Q (.bl (decide (i ≤ j))) M
  | .str a, .str b, M, Q => Q (.bl (!decide (b < a))) M
  | _, _, _, _ => False
def dGe : DR2
  | .int i, .int j, M, Q => Q (.bl (decide (j ≤ i))) M
  | .str a, .str b, M, Q => Q (.bl (!decide (a < b))) M
  | _, _, _, _ => False
def rCmpAll (f : Int → Int → Bool) (g : List Nat → List Nat → Bool) : R2 := fun x y H Q => (rI0 fun i j => .bl (f i j)) x y H Q ∨ (∃ i j, x = .str i ∧ y = .str j ∧ Q (.bl (g i.cps.toList j.cps.toList)) H)
theorem op_ltAll {X : Cx} : OpR X (compareOp .Lt) (rCmpAll (fun i j => decide (i < j)) fun a b => decide (a < b)) := OpR.or op_lt op_lt_str
theorem op_gtAll {X : Cx} : OpR X (compareOp .Gt) (rCmpAll (fun i j => decide (j < i)) fun a b => decide (b < a)) := OpR.or op_gt op_gt_str
theorem op_leAll {X : Cx} : OpR X (compareOp .LtE) (rCmpAll (fun i j => decide (i ≤ j)) fun a b => !decide (b < a)) := OpR.or op_le op_le_str
theorem op_geAll {X : Cx} : OpR X (compareOp .GtE) (rCmpAll (fun i j => decide (j ≤ i)) fun a b => !decide (a < b)) := OpR.or op_ge op_ge_str
theorem rel_lt [Ghost] {K : PySem.W.Frag} : Rel2 K (rCmpAll (fun i j => decide (i < j)) fun a b => decide (a < b)) dLt := by
  intro x y vx vy H F M Qd Q rx ry s h po
  unfold dLt at h
  split at h
  · unfold Rp at rx ry; exact .inl ⟨_, _, rx, ry, po.fin s h (by unfold Rp; rfl)⟩
  · unfold Rp at rx ry; exact .inr ⟨_, _, rx, ry, po.fin s h (by unfold Rp; rfl)⟩
  · exact h.elim
theorem rel_gt [Ghost] {K : PySem.W.Frag} : Rel2 K (rCmpAll (fun i j => decide (j < i)) fun a b => decide (b < a)) dGt := by
  intro x y vx vy H F M Qd Q rx ry s h po
  unfold dGt at h
  split at h
  · unfold Rp at rx ry; exact .inl ⟨_, _, rx, ry, po.fin s h (by unfold Rp; rfl)⟩
  · unfold Rp at rx ry; exact .inr ⟨_, _, rx, ry, po.fin s h (by unfold Rp; rfl)⟩
  · exact h.elim
theorem rel_le [Ghost] {K : PySem.W.Frag} : Rel2 K (rCmpAll (fun i j => decide (i ≤ j)) fun a b => !decide (b < a)) dLe := by
  intro x y vx vy H F M Qd Q rx ry s h po
  unfold dLe at h
  split at h
  · unfold Rp at rx ry; exact .inl ⟨_, _, rx, ry, po.fin s h (by unfold Rp; rfl)⟩
  · unfold Rp at rx ry; exact .inr ⟨_, _, rx, ry, po.fin s h (by unfold Rp; rfl)⟩
  · exact h.elim
theorem rel_ge [Ghost] {K : PySem.W.Frag} : Rel2 K (rCmpAll (fun i j => decide (j ≤ i)) fun a b => !decide (a < b)) dGe := by
  intro x y vx vy H F M Qd Q rx ry s h po
  unfold dGe at h
  split at h
  · unfold Rp at rx ry; exact .inl ⟨_, _, rx, ry, po.fin s h (by unfold Rp; rfl)⟩
  · unfold Rp at rx ry; exact .inr ⟨_, _, rx, ry, po.fin s h (by unfold Rp; rfl)⟩
  · exact h.elim
def isNon : D → Bool
  | .non => true
  | _ => false
theorem isNon_at {K : PySem.W.Frag} {F : Hp} {d : D} {v : V} (r : Rp K F d v) : decide (v = .non) = isNon d := by
  cases d with
  | non => unfold Rp at r; subst r; rfl
  | bl _ => unfold Rp at r; subst r; rfl
  | int _ => unfold Rp at r; subst r; rfl
  | str _ => unfold Rp at r; subst r; rfl
  | ref _ => unfold Rp at r; subst r; rfl
  | ty _ => unfold Rp at r; subst r; rfl
  | src _ => unfold Rp at r; obtain ⟨a, e, _⟩ := r; subst e; rfl
  | tup _ => unfold Rp at r; obtain ⟨a, _, e, _⟩ := r; subst e; rfl
  | lst _ => unfold Rp at r; obtain ⟨a, _, e, _⟩ := r; subst e; rfl
  | exc _ _ _ _ _ => unfold Rp at r; obtain ⟨e, _⟩ := r; subst e; rfl
def dIsN : DR2 := fun x y M Q => isNon y = true ∧ Q (.bl (isNon x)) M
def dNotN : DR2 := fun x y M Q => isNon y = true ∧ Q (.bl (!isNon x)) M
theorem non_at {K : PySem.W.Frag} {F : Hp} {d : D} {v : V} (r : Rp K F d v) (h : isNon d = true) : v = .non := by
  rw [← isNon_at r] at h
  exact of_decide_eq_true h
theorem rel_isN [Ghost] {K : PySem.W.Frag} : Rel2 K (fun x y H Q => y = .non ∧ Q (.bl (decide (x = .non))) H) dIsN := fun x y vx vy H F M Qd Q rx ry s h po =>
  ⟨non_at ry h.1, po.fin s h.2 (by unfold Rp; rw [isNon_at rx])⟩
theorem rel_notN [Ghost] {K : PySem.W.Frag} : Rel2 K (fun x y H Q => y = .non ∧ Q (.bl (!decide (x = .non))) H) dNotN := fun x y vx vy H F M Qd Q rx ry s h po =>
  ⟨non_at ry h.1, po.fin s h.2 (by unfold Rp; rw [isNon_at rx])⟩
/-! ### in -/
def flatD : D → Bool
  | .non => true
  | .bl _ => true
  | .int _ => true
  | .str _ => true
  | _ => false
def eqFl : D → D → Bool
  | .non, .non => true
  | .bl a, .bl b => a == b
  | .bl a, .int b => (if a then 1 else 0) == b
  | .int a, .bl b => a == (if b then 1 else 0)
  | .int a, .int b => decide (a = b)
  | .str a, .str b => decide (a = b)
  | _, _ => false
theorem flat_of {K : PySem.W.Frag} {F : Hp} {d : D} {v : V} (r : Rp K F d v) (h : flatD d = true) : flatV v = true := by
  cases d <;> first | (cases h; done) | (unfold Rp at r; subst r; rfl)
theorem eqFl_of {K : PySem.W.Frag} {F : Hp} {d e : D} {v u : V} (r : Rp K F d v) (q : Rp K F e u) (h : flatD d = true) (h' : flatD e = true) : eqV v u = eqFl d e := by
  cases d <;> first | (cases h; done) | (cases e <;> first | (cases h'; done) | (unfold Rp at r q; subst r q; first | rfl | skip))
  · rename_i a b
    show (mkS a == mkS b) = decide (a = b)
    by_cases e : a = b
    · subst e; simp
    · rw [decide_eq_false e]
      exact beq_eq_false_iff_ne.mpr fun z => e (mkS_inj z)
theorem flats_of {K : PySem.W.Frag} {F : Hp} : ∀ {ds : List D} {vs : List V}, RpL K F ds vs → ds.all flatD = true → vs.all flatV = true
  | [], _, r, _ => by unfold RpL at r; subst r; rfl
  | d :: ds, _, r, h => by
    unfold RpL at r
    obtain ⟨x, xs, e, r1, r2⟩ := r
    subst e
    rw [List.all_cons, Bool.and_eq_true] at h ⊢
    exact ⟨flat_of r1 h.1, flats_of r2 h.2⟩
def inD (x : D) (ds : List D) : Bool := ds.any fun y => eqFl y x
theorem inD_of {K : PySem.W.Frag} {F : Hp} {x : D} {vx : V} (rx : Rp K F x vx) (hx : flatD x = true) : ∀ {ds : List D} {vs : List V}, RpL K F ds vs → ds.all flatD = true → inV vx vs = inD x ds
  | [], _, r, _ => by unfold RpL at r; subst r; rfl
  | d :: ds, _, r, h => by
    unfold RpL at r
    obtain ⟨y, xs, e, r1, r2⟩ := r
    subst e
    rw [List.all_cons, Bool.and_eq_true] at h
    have ih := inD_of rx hx r2 h.2
    unfold inV inD at ih ⊢
    rw [List.any_cons, List.any_cons, eqFl_of r1 rx h.1 hx, ih]
/-- the items of a list, a tuple -/
def dits (M : Mu) : D → Option (List D)
  | .tup ds => some ds
  | .src ns => some (ns.map .int)
  | d => dseq M d
theorem dits_at [Ghost] {K : PySem.W.Frag} {H F : Hp} {M : Mu} {d : D} {v : V} {ds : List D} (s : Sv K H F M) (r : Rp K F d v) (h : dits M d = some ds) : ∃ a xs, v = .ref a ∧ (SqL K H a xs ∨ SqT K H a xs) ∧ RpL K F ds xs := by
  have old : dseq M d = some ds → ∃ a xs, v = .ref a ∧ (SqL K H a xs ∨ SqT K H a xs) ∧ RpL K F ds xs := fun q => by
    obtain ⟨a, xs, e, h1, r1⟩ := dseq_at s r q
    exact ⟨a, xs, e, .inl (.inl (.inl h1)), r1⟩
  cases d with
  | tup es =>
    unfold Rp at r
    obtain ⟨a, xs, e, h1, r1⟩ := r
    cases h
    exact ⟨a, xs, e, .inr (s.fh.sqT h1), r1⟩
  | src ns =>
    unfold Rp at r
    obtain ⟨a, e, h1⟩ := r
    cases h
    exact ⟨a, _, e, .inl (s.fh.sqL h1), RpL.ints⟩
  | _ => exact old h
def dInB (neg : Bool) : DR2 := fun x y M Q => match x, y with
  | .str [c], .str cs => Q (.bl (if neg then !decide (c ∈ cs) else decide (c ∈ cs))) M
  | x, y => match dits M y with
    | some ds => flatD x = true ∧ ds.all flatD = true ∧ Q (.bl (if neg then !inD x ds else inD x ds)) M
    | none => False
def rInAll (K : PySem.W.Frag) (neg : Bool) : R2 := fun x y H Q => (∃ (c : Nat) (z : Str), x = .str ⟨#[c]⟩ ∧ y = .str z ∧ Q (.bl (if neg then !decide (c ∈ z.cps.toList) else decide (c ∈ z.cps.toList))) H) ∨ rIn K neg x y H Q
theorem op_inAll {X : Cx} : OpR X (compareOp .In) (rInAll X.K false) := OpR.or op_in_sign op_in_seq
theorem op_ninAll {X : Cx} : OpR X (compareOp .NotIn) (rInAll X.K true) := OpR.or op_notIn_sign op_notIn_seq
theorem rel_in [Ghost] {K : PySem.W.Frag} {neg : Bool} : Rel2 K (rInAll K neg) (dInB neg) := by
  intro x y vx vy H F M Qd Q rx ry s h po
  unfold dInB at h
  split at h
  · unfold Rp at rx ry
    exact .inl ⟨_, _, rx, ry, po.fin s h (by unfold Rp; rfl)⟩
  · split at h
    · rename_i ds e
      obtain ⟨h1, h2, h3⟩ := h
      obtain ⟨a, xs, e1, hs, r1⟩ := dits_at s ry e
      refine .inr ⟨a, xs, e1, hs, flat_of rx h1, flats_of r1 h2, ?_⟩
      rw [inD_of rx h1 r1 h2]
      exact po.fin s h3 (by unfold Rp; rfl)
    · exact h.elim
section
variable {X : Cx} {a b c : Expr} {ua ub uc : DTE} {pos : Pos}
theorem de_eq [Ghost] (hu : X.A.units + 64 < cLine) (ha : DE X a ua) (hb : DE X b ub) : DE X (.Compare a [.Eq] [b] pos) (dOp dEq ua ub) := de_cmp (op_eqAll hu) rel_eq ha hb (nomark _)
theorem de_ne [Ghost] (hu : X.A.units + 64 < cLine) (ha : DE X a ua) (hb : DE X b ub) : DE X (.Compare a [.NotEq] [b] pos) (dOp dNe ua ub) := de_cmp (op_neAll hu) rel_ne ha hb (nomark _)
theorem de_lt [Ghost] (ha : DE X a ua) (hb : DE X b ub) : DE X (.Compare a [.Lt] [b] pos) (dOp dLt ua ub) := de_cmp op_ltAll rel_lt ha hb (nomark _)
theorem de_gt [Ghost] (ha : DE X a ua) (hb : DE X b ub) : DE X (.Compare a [.Gt] [b] pos) (dOp dGt ua ub) := de_cmp op_gtAll rel_gt ha hb (nomark _)
theorem de_le [Ghost] (ha : DE X a ua) (hb : DE X b ub) : DE X (.Compare a [.LtE] [b] pos) (dOp dLe ua ub) := de_cmp op_leAll rel_le ha hb (nomark _)
theorem de_ge [Ghost] (ha : DE X a ua) (hb : DE X b ub) : DE X (.Compare a [.GtE] [b] pos) (dOp dGe ua ub) := de_cmp op_geAll rel_ge ha hb (nomark _)
theorem de_isN [Ghost] (ha : DE X a ua) (hb : DE X b ub) : DE X (.Compare a [.Is] [b] pos) (dOp dIsN ua ub) := de_cmp op_isN rel_isN ha hb (nomark _)
theorem de_notN [Ghost] (ha : DE X a ua) (hb : DE X b ub) : DE X (.Compare a [.IsNot] [b] pos) (dOp dNotN ua ub) := de_cmp op_notN rel_notN ha hb (nomark _)
theorem de_in [Ghost] (ha : DE X a ua) (hb : DE X b ub) (hm : behindInMarks .In b = false := by rfl) : DE X (.Compare a [.In] [b] pos) (dOp (dInB false) ua ub) := de_cmp op_inAll rel_in ha hb hm
theorem de_nin [Ghost] (ha : DE X a ua) (hb : DE X b ub) (hm : behindInMarks .NotIn b = false := by rfl) : DE X (.Compare a [.NotIn] [b] pos) (dOp (dInB true) ua ub) := de_cmp op_ninAll rel_in ha hb hm
end
end DL

namespace DL
open PySem PySem.Spec PyProof.Rows L2 TL

/-! ### tests -/
def dTest (u : DTE) : DTT := fun δ M Q => u δ M fun d M1 => match d with
  | .bl b => Q b M1
  | _ => False
theorem lift_test [Ghost] {K : PySem.W.Frag} {u : DTE} {σ : L2.St} {H : Hp} {Q : Bool → Hp → Prop} (h : liftT K (dTest u) σ H Q) : lift K u σ H fun x H' => ∃ k, x = .bl k ∧ Q k H' := by
  obtain ⟨δ, M, F, Qd, hE, s, hu, p⟩ := h
  refine ⟨δ, M, F, _, hE, s, hu, fun d M' F' v H' q g s' r => ?_⟩
  cases d <;> first | exact False.elim q | skip
  unfold Rp at r
  subst r
  exact ⟨_, rfl, p _ _ _ _ q g s'⟩
/-- truth of data -/
def dTruB (M : Mu) (d : D) (Q : Bool → Prop) : Prop := match d with
  | .non => Q false
  | .bl b => Q b
  | .int i => Q (i != 0)
  | .str cs => cs.length ≤ sizeLine ∧ Q (!cs.isEmpty)
  | d => match dits M d with
    | some ds => Q (!ds.isEmpty)
    | none => False
def dTru (u : DTE) : DTT := fun δ M Q => u δ M fun d M1 => dTruB M1 d fun b => Q b M1
def dNot (t : DTT) : DTT := fun δ M Q => t δ M fun b M1 => Q (!b) M1
def dAnd (t u : DTT) : DTT := fun δ M Q => t δ M fun b M1 => match b with
  | true => u δ M1 Q
  | false => Q false M1
def dOr (t u : DTT) : DTT := fun δ M Q => t δ M fun b M1 => match b with
  | true => Q true M1
  | false => u δ M1 Q
def dIf (t : DTT) (ua ub : DTE) : DTE := fun δ M Q => t δ M fun b M1 => match b with
  | true => ua δ M1 Q
  | false => ub δ M1 Q
/-- and, or, not as values: all but the last True or False -/
def dAndV (ua ub : DTE) : DTE := fun δ M Q => ua δ M fun d M1 => match d with
  | .bl true => ub δ M1 Q
  | .bl false => Q (.bl false) M1
  | _ => False
def dOrV (ua ub : DTE) : DTE := fun δ M Q => ua δ M fun d M1 => match d with
  | .bl true => Q (.bl true) M1
  | .bl false => ub δ M1 Q
  | _ => False
def dNotV (ua : DTE) : DTE := fun δ M Q => ua δ M fun d M1 => match d with
  | .bl b => Q (.bl (!b)) M1
  | _ => False
theorem isEmpty_rel {K : PySem.W.Frag} {F : Hp} {ds : List D} {xs : List V} (r : RpL K F ds xs) : (!xs.isEmpty) = !ds.isEmpty := by
  have := r.len
  cases ds <;> cases xs <;> first | rfl | (simp at this)
theorem tru_rel [Ghost] {K : PySem.W.Frag} {H F : Hp} {M : Mu} {d : D} {v : V} {Q : Bool → Prop} (s : Sv K H F M) (r : Rp K F d v) (h : dTruB M d Q) : ∃ k, TruV K v H k ∧ Q k := by
  have old : (match dits M d with | some ds => Q (!ds.isEmpty) | none => False) → ∃ k, TruV K v H k ∧ Q k := fun h => by
    split at h
    · rename_i ds e
      obtain ⟨a, xs, e1, hs, r1⟩ := dits_at s r e
      subst e1
      refine ⟨_, ?_, h⟩
      rcases hs with hs | hs
      · exact .inl ⟨xs, hs, (isEmpty_rel r1).symm⟩
      · exact .inr (.inl ⟨xs, hs, (isEmpty_rel r1).symm⟩)
    · exact h.elim
  cases d with
  | non => unfold Rp at r; subst r; exact ⟨false, rfl, h⟩
  | bl b => unfold Rp at r; subst r; exact ⟨b, rfl, h⟩
  | int i => unfold Rp at r; subst r; exact ⟨_, rfl, h⟩
  | str cs =>
    unfold Rp at r
    subst r
    refine ⟨_, ⟨by rw [mkS_len]; exact h.1, rfl⟩, ?_⟩
    have e : (((mkS cs).length : Int) != 0) = !cs.isEmpty := by
      rw [mkS_len]
      cases cs with
      | nil => rfl
      | cons c cs => simp [bne]; omega
    rw [e]
    exact h.2
  | _ => exact old h
section
variable {X : Cx} {a b c : Expr} {ua ub uc : DTE} {t u : DTT} {pos : Pos} {rest : List Expr}
theorem dt_cmp [Ghost] {op : CmpOp} {r : R2} {rd : DR2} (ho : OpR X (compareOp op) r) (hr : Rel2 X.K r rd) (ha : DE X a ua) (hb : DE X b ub) (hm : behindInMarks op b = false) : DT X (.Compare a [op] [b] pos) (dTest (dOp rd ua ub)) :=
  PT.weak (pt_cmpR ho ha hb hm) fun σ H Q h => bin2 hr _ _ _ (lift_test h)
theorem dt_eq [Ghost] (hu : X.A.units + 64 < cLine) (ha : DE X a ua) (hb : DE X b ub) : DT X (.Compare a [.Eq] [b] pos) (dTest (dOp dEq ua ub)) := dt_cmp (op_eqAll hu) rel_eq ha hb (nomark _)
theorem dt_ne [Ghost] (hu : X.A.units + 64 < cLine) (ha : DE X a ua) (hb : DE X b ub) : DT X (.Compare a [.NotEq] [b] pos) (dTest (dOp dNe ua ub)) := dt_cmp (op_neAll hu) rel_ne ha hb (nomark _)
theorem dt_lt [Ghost] (ha : DE X a ua) (hb : DE X b ub) : DT X (.Compare a [.Lt] [b] pos) (dTest (dOp dLt ua ub)) := dt_cmp op_ltAll rel_lt ha hb (nomark _)
theorem dt_gt [Ghost] (ha : DE X a ua) (hb : DE X b ub) : DT X (.Compare a [.Gt] [b] pos) (dTest (dOp dGt ua ub)) := dt_cmp op_gtAll rel_gt ha hb (nomark _)
theorem dt_le [Ghost] (ha : DE X a ua) (hb : DE X b ub) : DT X (.Compare a [.LtE] [b] pos) (dTest (dOp dLe ua ub)) := dt_cmp op_leAll rel_le ha hb (nomark _)
theorem dt_ge [Ghost] (ha : DE X a ua) (hb : DE X b ub) : DT X (.Compare a [.GtE] [b] pos) (dTest (dOp dGe ua ub)) := dt_cmp op_geAll rel_ge ha hb (nomark _)
theorem dt_isN [Ghost] (ha : DE X a ua) (hb : DE X b ub) : DT X (.Compare a [.Is] [b] pos) (dTest (dOp dIsN ua ub)) := dt_cmp op_isN rel_isN ha hb (nomark _)
theorem dt_notN [Ghost] (ha : DE X a ua) (hb : DE X b ub) : DT X (.Compare a [.IsNot] [b] pos) (dTest (dOp dNotN ua ub)) := dt_cmp op_notN rel_notN ha hb (nomark _)
theorem dt_in [Ghost] (ha : DE X a ua) (hb : DE X b ub) (hm : behindInMarks .In b = false := by rfl) : DT X (.Compare a [.In] [b] pos) (dTest (dOp (dInB false) ua ub)) := dt_cmp op_inAll rel_in ha hb hm
theorem dt_nin [Ghost] (ha : DE X a ua) (hb : DE X b ub) (hm : behindInMarks .NotIn b = false := by rfl) : DT X (.Compare a [.NotIn] [b] pos) (dTest (dOp (dInB true) ua ub)) := dt_cmp op_ninAll rel_in ha hb hm
/-- an expression that gives True or False -/
theorem dt_val [Ghost] (h : DE X a ua) (he : ∀ whole, isTrue a X.env whole = (do let v ← whole; standAt a.pos; holding [v] (truthy v)) := by intro _; rfl) : DT X a (dTest ua) := PT.weak (pt_val h he) fun σ H Q h => lift_test h
theorem dt_tru [Ghost] (h : DE X a ua) (he : ∀ whole, isTrue a X.env whole = (do let v ← whole; standAt a.pos; holding [v] (truthy v)) := by intro _; rfl) : DT X a (dTru ua) := by
  refine PT.weak (pt_truth h he) fun σ H Q h => ?_
  obtain ⟨δ, M, F, Qd, hE, s, hu, p⟩ := h
  refine ⟨δ, M, F, _, hE, s, hu, fun d M' F' v H' q g s' r => ?_⟩
  obtain ⟨k, tk, q⟩ := tru_rel s' r q
  exact ⟨k, tk, p _ _ _ _ q g s'⟩
theorem dt_not [Ghost] (h : DT X a t) : DT X (.UnaryOp .Not a pos) (dNot t) := by
  refine PT.weak (pt_not h) fun σ H Q h => ?_
  obtain ⟨δ, M, F, Qd, hE, s, hu, p⟩ := h
  exact ⟨δ, M, F, _, hE, s, hu, fun d M' F' H' q g s' => p _ _ _ _ q g s'⟩
theorem dw_and1 [Ghost] (h : DT X a t) : DW X (.BoolOp .And [a] pos) t := pw_and1 h
theorem dw_or1 [Ghost] (h : DT X a t) : DW X (.BoolOp .Or [a] pos) t := pw_or1 h
theorem dw_and [Ghost] (ha : DT X a t) (hb : DW X (.BoolOp .And (b :: rest) pos) u) : DW X (.BoolOp .And (a :: b :: rest) pos) (dAnd t u) := by
  refine PW.weak (pw_and ha hb) fun σ H Q h => ?_
  obtain ⟨δ, M, F, Qd, hE, s, hu, p⟩ := h
  refine ⟨δ, M, F, _, hE, s, hu, fun d M' F' H' q g s' => ?_⟩
  cases d with
  | true => exact ⟨δ, M', F', Qd, hE.mono g.le, s', q, p.go g⟩
  | false => exact p _ _ _ _ q g s'
theorem dw_or [Ghost] (ha : DT X a t) (hb : DW X (.BoolOp .Or (b :: rest) pos) u) : DW X (.BoolOp .Or (a :: b :: rest) pos) (dOr t u) := by
  refine PW.weak (pw_or ha hb) fun σ H Q h => ?_
  obtain ⟨δ, M, F, Qd, hE, s, hu, p⟩ := h
  refine ⟨δ, M, F, _, hE, s, hu, fun d M' F' H' q g s' => ?_⟩
  cases d with
  | true => exact p _ _ _ _ q g s'
  | false => exact ⟨δ, M', F', Qd, hE.mono g.le, s', q, p.go g⟩
theorem de_ifx [Ghost] (hc : DT X c t) (ha : DE X a ua) (hb : DE X b ub) : DE X (.IfExp c a b pos) (dIf t ua ub) := by
  refine PE.weak (pe_ifExp hc ha hb) fun σ H Q h => ?_
  obtain ⟨δ, M, F, Qd, hE, s, hu, p⟩ := h
  refine ⟨δ, M, F, _, hE, s, hu, fun d M' F' H' q g s' => ?_⟩
  cases d with
  | true => exact ⟨δ, M', F', Qd, hE.mono g.le, s', q, p.go g⟩
  | false => exact ⟨δ, M', F', Qd, hE.mono g.le, s', q, p.go g⟩
theorem de_one [Ghost] {op : BoolOp} (h : DE X a ua) : DE X (.BoolOp op [a] pos) ua := pe_one h
theorem de_and [Ghost] (ha : DE X a ua) (hb : DE X (.BoolOp .And (b :: rest) pos) ub) : DE X (.BoolOp .And (a :: b :: rest) pos) (dAndV ua ub) := by
  refine PE.weak (pe_and ha hb) fun σ H Q h => ?_
  obtain ⟨δ, M, F, Qd, hE, s, hu, p⟩ := h
  refine ⟨δ, M, F, _, hE, s, hu, fun d M' F' v H' q g s' r => ?_⟩
  cases d <;> first | exact False.elim q | skip
  rename_i k
  unfold Rp at r
  subst r
  refine ⟨k, rfl, ?_⟩
  cases k with
  | true => exact ⟨δ, M', F', Qd, hE.mono g.le, s', q, p.go g⟩
  | false => exact p _ _ _ _ _ q g s' (by unfold Rp; rfl)
theorem de_or [Ghost] (ha : DE X a ua) (hb : DE X (.BoolOp .Or (b :: rest) pos) ub) : DE X (.BoolOp .Or (a :: b :: rest) pos) (dOrV ua ub) := by
  refine PE.weak (pe_or ha hb) fun σ H Q h => ?_
  obtain ⟨δ, M, F, Qd, hE, s, hu, p⟩ := h
  refine ⟨δ, M, F, _, hE, s, hu, fun d M' F' v H' q g s' r => ?_⟩
  cases d <;> first | exact False.elim q | skip
  rename_i k
  unfold Rp at r
  subst r
  refine ⟨k, rfl, ?_⟩
  cases k with
  | false => exact ⟨δ, M', F', Qd, hE.mono g.le, s', q, p.go g⟩
  | true => exact p _ _ _ _ _ q g s' (by unfold Rp; rfl)
theorem de_not [Ghost] (ha : DE X a ua) : DE X (.UnaryOp .Not a pos) (dNotV ua) := by
  refine PE.weak (pe_not ha) fun σ H Q h => ?_
  obtain ⟨δ, M, F, Qd, hE, s, hu, p⟩ := h
  refine ⟨δ, M, F, _, hE, s, hu, fun d M' F' v H' q g s' r => ?_⟩
  cases d <;> first | exact False.elim q | skip
  unfold Rp at r
  subst r
  exact ⟨_, rfl, p _ _ _ _ _ q g s' (by unfold Rp; rfl)⟩
end

/-! ### argument lists, displays -/
def dNil : DTA := fun _ M Q => Q [] M
def dCons (ua : DTE) (ur : DTA) : DTA := fun δ M Q => ua δ M fun d M1 => ur δ M1 fun ds M2 => Q (d :: ds) M2
def dTup (ua : DTA) : DTE := fun δ M Q => ua δ M fun ds M1 => ds.length ≤ sizeLine ∧ Q (.tup ds) M1
def dLst (mu : Bool) (ua : DTA) : DTE := fun δ M Q => ua δ M fun ds M1 => ds.length ≤ sizeLine ∧ dNew mu ds M1 Q
section
variable {X : Cx} {e a b c : Expr} {es : List Expr} {ua ub uc : DTE} {ur : DTA} {pos : Pos}
theorem da_nil [Ghost] : DA X [] dNil := PA.weak pa_nil fun σ H Q h => by
  obtain ⟨δ, M, F, Qd, hE, s, hu, p⟩ := h
  exact p _ _ _ _ _ hu Go.refl s RpL.nil
theorem da_cons [Ghost] (ha : DE X e ua) (hr : DA X es ur) (hs : starEach (e :: es) X.env = (false, eval e X.env) :: starEach es X.env := by rfl) : DA X (e :: es) (dCons ua ur) := PA.weak (pa_cons ha hr hs) fun σ H Q h => by
  obtain ⟨δ, M, F, Qd, hE, s, hu, p⟩ := h
  refine ⟨δ, M, F, _, hE, s, hu, fun d M' F' v H' q g s' r => ?_⟩
  refine ⟨δ, M', F', _, hE.mono g.le, s', q, fun ds M2 F2 vs H2 q2 g2 s2 r2 => ?_⟩
  exact p _ _ _ _ _ q2 (g.trans g2) s2 (RpL.cons (r.mono g2.le) r2)
theorem de_tup [Ghost] {x1 : Nat} (h : DA X es ur) : DE X (.Tuple es x1 pos) (dTup ur) := PE.weak (pe_tup h) fun σ H Q h => by
  obtain ⟨δ, M, F, Qd, hE, s, hu, p⟩ := h
  refine ⟨δ, M, F, _, hE, s, hu, fun d M' F' v H' q g s' r => ?_⟩
  exact ⟨by rw [← r.len]; exact q.1, fun l hl => newT_at s' r q.2 (p.go g) hl⟩
theorem de_lst [Ghost] (mu : Bool) (h : DA X es ur) : DE X (.List es pos) (dLst mu ur) := PE.weak (pe_lst h) fun σ H Q h => by
  obtain ⟨δ, M, F, Qd, hE, s, hu, p⟩ := h
  refine ⟨δ, M, F, _, hE, s, hu, fun d M' F' v H' q g s' r => ?_⟩
  exact ⟨by rw [← r.len]; exact q.1, fun l hl => dNew_at s' r q.2 (p.go g) hl⟩
end

/-! ### calls of built-ins -/
abbrev DRC := List D → Mu → DK → Prop
def RelC [Ghost] (K : PySem.W.Frag) (r : List V → Hp → VK → Prop) (rd : DRC) : Prop := ∀ ds vs H F M Qd Q, RpL K F ds vs → Sv K H F M → rd ds M Qd → Post K H F M Qd Q → r vs H Q
def dCB (rd : DRC) (ua : DTA) : DTE := fun δ M Q => ua δ M fun ds M1 => rd ds M1 Q
section
variable {X : Cx} {x : Str} {p pos : Pos} {e : Expr} {es : List Expr} {u : DTA} {id T : String} {r : List V → Hp → VK → Prop} {rd : DRC}
theorem cb_rel [Ghost] (hr : RelC X.K r rd) : ∀ σ H Q, lift X.K (dCB rd u) σ H Q → tCB r (liftA X.K u) σ H Q := fun σ H Q h => by
  obtain ⟨δ, M, F, Qd, hE, s, hu, p⟩ := h
  exact ⟨δ, M, F, _, hE, s, hu, fun ds M' F' vs H' q g s' r' => hr ds vs H' F' M' Qd Q r' s' q (p.go g)⟩
theorem de_callB [Ghost] (hc : CallR X (.builtin id) r) (hr : RelC X.K r rd) (hg : Gl X x) (hm : X.mg x = none) (hv : bootBuiltins x = some (.builtin id)) (ha : DA X (e :: es) u) (hn : x ≠ "__name__" := by decide) (hdb : (x == ("__debug__" : Str)) = false := by decide)
    (he : starEach (e :: es) X.env = (false, eval e X.env) :: starEach es X.env := by rfl) (hpl : (backTo pos (starEach es X.env)).any (·.1) = false := by rfl) : DE X (.Call (.Name x p) (e :: es) [] pos) (dCB rd u) := PE.weak (pe_callB hc hg hm hv ha hn hdb he hpl) (cb_rel hr)
theorem de_callTy [Ghost] (hc : CallR X (.type T) r) (hr : RelC X.K r rd) (hg : Gl X x) (hm : X.mg x = none) (hv : bootBuiltins x = some (.type T)) (ha : DA X (e :: es) u) (hn : x ≠ "__name__" := by decide) (hdb : (x == ("__debug__" : Str)) = false := by decide)
    (he : starEach (e :: es) X.env = (false, eval e X.env) :: starEach es X.env := by rfl) (hpl : (backTo pos (starEach es X.env)).any (·.1) = false := by rfl) : DE X (.Call (.Name x p) (e :: es) [] pos) (dCB rd u) := PE.weak (pe_callTy hc hg hm hv ha hn hdb he hpl) (cb_rel hr)
end
theorem RpL.one {K : PySem.W.Frag} {F : Hp} {d : D} {vs : List V} (h : RpL K F [d] vs) : ∃ v, vs = [v] ∧ Rp K F d v := by
  unfold RpL at h
  obtain ⟨x, r, e, h1, h2⟩ := h
  unfold RpL at h2
  subst h2
  exact ⟨x, e, h1⟩
theorem RpL.two {K : PySem.W.Frag} {F : Hp} {d e : D} {vs : List V} (h : RpL K F [d, e] vs) : ∃ v u, vs = [v, u] ∧ Rp K F d v ∧ Rp K F e u := by
  unfold RpL at h
  obtain ⟨x, r, e, h1, h2⟩ := h
  obtain ⟨y, e2, h3⟩ := RpL.one h2
  subst e2
  exact ⟨x, y, e, h1, h3⟩
/-- len -/
def dLen : DRC := fun ds M Q => match ds with
  | [.str cs] => cs.length ≤ sizeLine ∧ Q (.int cs.length) M
  | [d] => match dits M d with
    | some es => Q (.int es.length) M
    | none => False
  | _ => False
def rLenAll (K : PySem.W.Frag) : List V → Hp → VK → Prop := fun xs H Q => ∃ x n, xs = [x] ∧ LenV K x H n ∧ Q (.int n) H
theorem rel_len [Ghost] {K : PySem.W.Frag} : RelC K (rLenAll K) dLen := by
  intro ds vs H F M Qd Q r s h po
  unfold dLen at h
  split at h
  · obtain ⟨v, e, r1⟩ := r.one
    unfold Rp at r1
    subst e r1
    exact ⟨_, _, rfl, ⟨by rw [mkS_len]; exact h.1, rfl⟩, po.fin s h.2 (by unfold Rp; rw [mkS_len])⟩
  · obtain ⟨v, e, r1⟩ := r.one
    subst e
    split at h
    · rename_i es e
      obtain ⟨a, xs, e1, hs, r2⟩ := dits_at s r1 e
      subst e1
      refine ⟨_, xs.length, rfl, ?_, po.fin s h (by unfold Rp; rw [r2.len])⟩
      rcases hs with hs | hs
      · exact .inl ⟨xs, hs, rfl⟩
      · exact .inr ⟨xs, hs, rfl⟩
    · exact h.elim
  · exact h.elim
def dAbs : DRC := fun ds M Q => match ds with
  | [.int i] => Q (.int (i.natAbs : Int)) M
  | _ => False
theorem rel_abs [Ghost] {K : PySem.W.Frag} : RelC K (fun xs H Q => ∃ i, xs = [.int i] ∧ Q (.int (if i < 0 then -i else i)) H) dAbs := by
  intro ds vs H F M Qd Q r s h po
  unfold dAbs at h
  split at h
  · obtain ⟨v, e, r1⟩ := r.one
    unfold Rp at r1
    subst e r1
    refine ⟨_, rfl, po.fin s h ?_⟩
    unfold Rp
    congr 1
    split <;> omega
  · exact h.elim
def dMin2 : DRC := fun ds M Q => match ds with
  | [.int i, .int j] => Q (.int (if j < i then j else i)) M
  | _ => False
theorem rel_min2 [Ghost] {K : PySem.W.Frag} : RelC K (fun xs H Q => ∃ i j, xs = [.int i, .int j] ∧ Q (.int (if j < i then j else i)) H) dMin2 := by
  intro ds vs H F M Qd Q r s h po
  unfold dMin2 at h
  split at h
  · obtain ⟨v, u, e, r1, r2⟩ := r.two
    unfold Rp at r1 r2
    subst e r1 r2
    exact ⟨_, _, rfl, po.fin s h (by unfold Rp; rfl)⟩
  · exact h.elim
def dMax2 : DRC := fun ds M Q => match ds with
  | [.int i, .int j] => Q (.int (if j > i then j else i)) M
  | _ => False
theorem rel_max2 [Ghost] {K : PySem.W.Frag} : RelC K (fun xs H Q => ∃ i j, xs = [.int i, .int j] ∧ Q (.int (if j > i then j else i)) H) dMax2 := by
  intro ds vs H F M Qd Q r s h po
  unfold dMax2 at h
  split at h
  · obtain ⟨v, u, e, r1, r2⟩ := r.two
    unfold Rp at r1 r2
    subst e r1 r2
    exact ⟨_, _, rfl, po.fin s h (by unfold Rp; rfl)⟩
  · exact h.elim
theorem CallR.or2 {X : Cx} {f : Value} {r r' : List V → Hp → VK → Prop} (h : CallR X f r) (h' : CallR X f r') : CallR X f (fun xs H Q => r xs H Q ∨ r' xs H Q) := CallR.or h h'
/-- int(..) of an int, a bool, a text -/
def dInt : DRC := fun ds M Q => match ds with
  | [.int i] => Q (.int i) M
  | [.bl b] => Q (.int (if b then 1 else 0)) M
  | [.str cs] => ∃ n, PySem.intText? (mkS cs) = some n ∧ cs.length ≤ 640 ∧ Q (.int n) M
  | _ => False
def rIntAll : List V → Hp → VK → Prop := fun xs H Q => ((∃ i, xs = [.int i] ∧ Q (.int i) H) ∨ ∃ k, xs = [.bl k] ∧ Q (.int (if k then 1 else 0)) H) ∨ (∃ a n, xs = [.str a] ∧ PySem.intText? a = some n ∧ a.length ≤ 640 ∧ Q (.int n) H)
theorem call_intAll {X : Cx} : CallR X (.type "int") rIntAll := CallR.or call_int1 call_int_str
theorem rel_int [Ghost] {K : PySem.W.Frag} : RelC K rIntAll dInt := by
  intro ds vs H F M Qd Q r s h po
  unfold dInt at h
  split at h
  · obtain ⟨v, e, r1⟩ := r.one
    unfold Rp at r1
    subst e r1
    exact .inl (.inl ⟨_, rfl, po.fin s h (by unfold Rp; rfl)⟩)
  · obtain ⟨v, e, r1⟩ := r.one
    unfold Rp at r1
    subst e r1
    exact .inl (.inr ⟨_, rfl, po.fin s h (by unfold Rp; rfl)⟩)
  · obtain ⟨v, e, r1⟩ := r.one
    unfold Rp at r1
    subst e r1
    obtain ⟨n, h1, h2, h3⟩ := h
    exact .inr ⟨_, n, rfl, h1, by rw [mkS_len]; exact h2, po.fin s h3 (by unfold Rp; rfl)⟩
  · exact h.elim
/-- the signs of an int's text -/
def numI (i : Int) : List Nat := tl (Str.ofString (toString i))
def dStr : DRC := fun ds M Q => match ds with
  | [.int i] => i.natAbs.log2 < 1920 ∧ Q (.str (numI i)) M
  | _ => False
theorem rel_str [Ghost] {K : PySem.W.Frag} : RelC K (fun xs H Q => ∃ i : Int, xs = [.int i] ∧ i.natAbs.log2 < 1920 ∧ Q (.str (toString i)) H) dStr := by
  intro ds vs H F M Qd Q r s h po
  unfold dStr at h
  split at h
  · obtain ⟨v, e, r1⟩ := r.one
    unfold Rp at r1
    subst e r1
    refine ⟨_, rfl, h.1, po.fin s h.2 ?_⟩
    unfold Rp numI
    rw [mkS_of]
  · exact h.elim
def intsOf : List D → Option (List Int)
  | [] => some []
  | .int i :: ds => (intsOf ds).map (i :: ·)
  | _ :: _ => none
theorem intsOf_at {K : PySem.W.Frag} {F : Hp} : ∀ {ds : List D} {vs : List V} {ns : List Int}, RpL K F ds vs → intsOf ds = some ns → vs = ns.map V.int
  | [], _, _, r, e => by unfold RpL at r; cases e; exact r
  | d :: ds, _, _, r, e => by
    unfold RpL at r
    obtain ⟨x, xs, e1, r1, r2⟩ := r
    cases d <;> first | (cases e; done) | skip
    unfold intsOf at e
    cases q : intsOf ds with
    | none => rw [q] at e; cases e
    | some ms =>
      rw [q] at e
      cases e
      unfold Rp at r1
      rw [e1, r1, intsOf_at r2 q]
      rfl
theorem intsOf_map : ∀ ns : List Int, intsOf (ns.map D.int) = some ns
  | [] => rfl
  | n :: ns => by
    show (intsOf (ns.map D.int)).map (n :: ·) = _
    rw [intsOf_map ns]
    rfl
def dSum : DRC := fun ds M Q => match ds with
  | [d] => match (dseq M d).bind intsOf with
    | some ns => Q (.int ns.sum) M
    | none => False
  | _ => False
theorem rel_sum [Ghost] {K : PySem.W.Frag} : RelC K (rSum K) dSum := by
  intro ds vs H F M Qd Q r s h po
  unfold dSum at h
  split at h
  · obtain ⟨v, e, r1⟩ := r.one
    subst e
    split at h
    · rename_i ns e
      obtain ⟨es, e1, e2⟩ := Option.bind_eq_some_iff.mp e
      obtain ⟨a, xs, e3, h1, r2⟩ := dseq_at s r1 e1
      have e4 := intsOf_at r2 e2
      subst e3 e4
      exact ⟨a, ns, rfl, .inl (.inl h1), po.fin s h (by unfold Rp; rfl)⟩
    · exact h.elim
  · exact h.elim
def blsOf : List D → Option (List Bool)
  | [] => some []
  | .bl i :: ds => (blsOf ds).map (i :: ·)
  | _ :: _ => none
theorem blsOf_at {K : PySem.W.Frag} {F : Hp} : ∀ {ds : List D} {vs : List V} {ns : List Bool}, RpL K F ds vs → blsOf ds = some ns → vs = ns.map V.bl
  | [], _, _, r, e => by unfold RpL at r; cases e; exact r
  | d :: ds, _, _, r, e => by
    unfold RpL at r
    obtain ⟨x, xs, e1, r1, r2⟩ := r
    cases d <;> first | (cases e; done) | skip
    unfold blsOf at e
    cases q : blsOf ds with
    | none => rw [q] at e; cases e
    | some ms =>
      rw [q] at e
      cases e
      unfold Rp at r1
      rw [e1, r1, blsOf_at r2 q]
      rfl
theorem blsOf_map : ∀ ns : List Bool, blsOf (ns.map D.bl) = some ns
  | [] => rfl
  | n :: ns => by
    show (blsOf (ns.map D.bl)).map (n :: ·) = _
    rw [blsOf_map ns]
    rfl
def dAll : DRC := fun ds M Q => match ds with
  | [d] => match (dseq M d).bind blsOf with
    | some ns => Q (.bl (ns.all id)) M
    | none => False
  | _ => False
def dAny : DRC := fun ds M Q => match ds with
  | [d] => match (dseq M d).bind blsOf with
    | some ns => Q (.bl (ns.any id)) M
    | none => False
  | _ => False
theorem rel_all [Ghost] {K : PySem.W.Frag} : RelC K (rAll K) dAll := by
  intro ds vs H F M Qd Q r s h po
  unfold dAll at h
  split at h
  · obtain ⟨v, e, r1⟩ := r.one
    subst e
    split at h
    · rename_i ns e
      obtain ⟨es, e1, e2⟩ := Option.bind_eq_some_iff.mp e
      obtain ⟨a, xs, e3, h1, r2⟩ := dseq_at s r1 e1
      have e4 := blsOf_at r2 e2
      subst e3 e4
      exact ⟨a, ns, rfl, .inl (.inl h1), po.fin s h (by unfold Rp; rfl)⟩
    · exact h.elim
  · exact h.elim
theorem rel_any [Ghost] {K : PySem.W.Frag} : RelC K (rAny K) dAny := by
  intro ds vs H F M Qd Q r s h po
  unfold dAny at h
  split at h
  · obtain ⟨v, e, r1⟩ := r.one
    subst e
    split at h
    · rename_i ns e
      obtain ⟨es, e1, e2⟩ := Option.bind_eq_some_iff.mp e
      obtain ⟨a, xs, e3, h1, r2⟩ := dseq_at s r1 e1
      have e4 := blsOf_at r2 e2
      subst e3 e4
      exact ⟨a, ns, rfl, .inl (.inl h1), po.fin s h (by unfold Rp; rfl)⟩
    · exact h.elim
  · exact h.elim
/-- the items of a list -/
def dlis (M : Mu) : D → Option (List D)
  | .src ns => some (ns.map .int)
  | d => dseq M d
theorem dlis_at [Ghost] {K : PySem.W.Frag} {H F : Hp} {M : Mu} {d : D} {v : V} {ds : List D} (s : Sv K H F M) (r : Rp K F d v) (h : dlis M d = some ds) : ∃ a xs, v = .ref a ∧ SqL K H a xs ∧ RpL K F ds xs := by
  have old : dseq M d = some ds → ∃ a xs, v = .ref a ∧ SqL K H a xs ∧ RpL K F ds xs := fun q => by
    obtain ⟨a, xs, e, h1, r1⟩ := dseq_at s r q
    exact ⟨a, xs, e, .inl (.inl h1), r1⟩
  cases d with
  | src ns =>
    unfold Rp at r
    obtain ⟨a, e, h1⟩ := r
    cases h
    exact ⟨a, _, e, s.fh.sqL h1, RpL.ints⟩
  | _ => exact old h
/-- tuple(..), list(..) -/
def dTupOf : DRC := fun ds M Q => match ds with
  | [.tup es] => Q (.tup es) M
  | [d] => match dlis M d with
    | some es => Q (.tup es) M
    | none => False
  | _ => False
def rTupOf (K : PySem.W.Frag) : List V → Hp → VK → Prop := fun xs H Q => ∃ p ys, xs = [.ref p] ∧ ((SqL K H p ys ∧ ∀ l, H l = none → Q (.ref l) (upd H l (.tup ys))) ∨ (SqT K H p ys ∧ Q (.ref p) H))
theorem rel_tupOf [Ghost] {K : PySem.W.Frag} : RelC K (rTupOf K) dTupOf := by
  intro ds vs H F M Qd Q r s h po
  unfold dTupOf at h
  split at h
  · obtain ⟨v, e, r1⟩ := r.one
    subst e
    unfold Rp at r1
    obtain ⟨a, xs, e1, h1, r2⟩ := r1
    subst e1
    exact ⟨a, xs, rfl, .inr ⟨s.fh.sqT h1, po.fin s h (by unfold Rp; exact ⟨a, xs, rfl, h1, r2⟩)⟩⟩
  · obtain ⟨v, e, r1⟩ := r.one
    subst e
    split at h
    · rename_i es e
      obtain ⟨a, xs, e1, hs, r2⟩ := dlis_at s r1 e
      subst e1
      exact ⟨a, xs, rfl, .inl ⟨hs, fun l hl => newT_at s r2 h po hl⟩⟩
    · exact h.elim
  · exact h.elim
def dListOf (mu : Bool) : DRC := fun ds M Q => match ds with
  | [d] => match dits M d with
    | some es => dNew mu es M Q
    | none => False
  | _ => False
def rListOf (K : PySem.W.Frag) : List V → Hp → VK → Prop := fun xs H Q => ∃ p ys, xs = [.ref p] ∧ (SqL K H p ys ∨ SqT K H p ys) ∧ ∀ l, H l = none → Q (.ref l) (upd H l (.lst ys))
theorem rel_listOf [Ghost] {K : PySem.W.Frag} {mu : Bool} : RelC K (rListOf K) (dListOf mu) := by
  intro ds vs H F M Qd Q r s h po
  unfold dListOf at h
  split at h
  · obtain ⟨v, e, r1⟩ := r.one
    subst e
    split at h
    · rename_i es e
      obtain ⟨a, xs, e1, hs, r2⟩ := dits_at s r1 e
      subst e1
      exact ⟨a, xs, rfl, hs, fun l hl => dNew_at s r2 h po hl⟩
    · exact h.elim
  · exact h.elim
/-- divmod -/
def dDivmod : DRC := fun ds M Q => match ds with
  | [.int i, .int j] => CDivP i j ∧ Q (.tup [.int (i / j), .int (i % j)]) M
  | _ => False
theorem rel_divmod [Ghost] {K : PySem.W.Frag} : RelC K (fun xs H Q => ∃ i j, xs = [.int i, .int j] ∧ CDivP i j ∧ ∀ p, H p = none → Q (.ref p) (upd H p (.tup [.int (i / j), .int (i % j)]))) dDivmod := by
  intro ds vs H F M Qd Q r s h po
  unfold dDivmod at h
  split at h
  · obtain ⟨v, u, e, r1, r2⟩ := r.two
    unfold Rp at r1 r2
    subst e r1 r2
    exact ⟨_, _, rfl, h.1, fun l hl => newT_at s (RpL.cons (by unfold Rp; rfl) (RpL.cons (by unfold Rp; rfl) RpL.nil)) h.2 po hl⟩
  · exact h.elim
/-- isinstance of a built-in class -/
def tyNm (M : Mu) : D → Option String
  | .non => some "NoneType"
  | .bl _ => some "bool"
  | .int _ => some "int"
  | .str _ => some "str"
  | .tup _ => some "tuple"
  | .lst _ => some "list"
  | .src _ => some "list"
  | .ref a => match M a with
    | some (.lst _) => some "list"
    | some (.dic _) => some "dict"
    | none => none
  | .ty _ => none
  | .exc _ _ _ _ _ => none
def dIsi : DRC := fun ds M Q => match ds with
  | [d, .ty T] => match (tyNm M d).bind fun n => kitB n T with
    | some b => Q (.bl b) M
    | none => False
  | _ => False
theorem ty_sqL {K : PySem.W.Frag} {H : Hp} {a : Addr} {xs : List V} (h : SqL K H a xs) : TyX K H (.ref a) (.type "list") := by
  rcases h with (h | ⟨o, h⟩) | ⟨o, its, n, h, c, _⟩
  · exact .base (.lst h)
  · exact .base (.frz h)
  · exact .kList h c
theorem ty_sqT {K : PySem.W.Frag} {H : Hp} {a : Addr} {xs : List V} (h : SqT K H a xs) : TyX K H (.ref a) (.type "tuple") := by
  rcases h with (h | ⟨o, h⟩) | ⟨o, its, n, h, c, _⟩
  · exact .base (.tup h)
  · exact .fTuple h
  · exact .kTuple h c
theorem tyNm_at [Ghost] {K : PySem.W.Frag} {H F : Hp} {M : Mu} {d : D} {v : V} {n : String} (s : Sv K H F M) (r : Rp K F d v) (h : tyNm M d = some n) : TyX K H v (.type n) := by
  cases d with
  | non => unfold Rp at r; subst r; cases h; exact .base .non
  | bl b => unfold Rp at r; subst r; cases h; exact .base (.bl b)
  | int b => unfold Rp at r; subst r; cases h; exact .base (.int b)
  | str b => unfold Rp at r; subst r; cases h; exact .base (.str _)
  | tup b => unfold Rp at r; obtain ⟨a, xs, e, h1, _⟩ := r; subst e; cases h; exact ty_sqT (s.fh.sqT h1)
  | lst b => unfold Rp at r; obtain ⟨a, xs, e, h1, _⟩ := r; subst e; cases h; exact .base (.lst (s.fh _ _ h1))
  | src b => unfold Rp at r; obtain ⟨a, e, h1⟩ := r; subst e; cases h; exact ty_sqL (s.fh.sqL h1)
  | ty b => cases h
  | exc _ _ _ _ _ => cases h
  | ref a =>
    unfold Rp at r
    subst r
    have h' : (match M a with | some (.lst _) => some "list" | some (.dic _) => some "dict" | none => none) = some n := h
    cases q : M a with
    | none => rw [q] at h'; cases h'
    | some o =>
      rw [q] at h'
      obtain ⟨ho, e2, r2⟩ := s.mu a _ q
      cases o with
      | lst ds =>
        obtain ⟨xs, e3, _⟩ := r2
        subst e3
        cases h'
        exact .base (.lst e2)
      | dic ds =>
        obtain ⟨xs, e3, _⟩ := r2
        subst e3
        cases h'
        exact .base (.dK e2)
theorem rel_isi [Ghost] {K : PySem.W.Frag} : RelC K (rIsi K) dIsi := by
  intro ds vs H F M Qd Q r s h po
  unfold dIsi at h
  split at h
  · obtain ⟨v, u, e, r1, r2⟩ := r.two
    unfold Rp at r2
    subst e r2
    split at h
    · rename_i b e
      obtain ⟨n, e1, e2⟩ := Option.bind_eq_some_iff.mp e
      exact ⟨v, _, _, _, b, rfl, .ty _, tyNm_at s r1 e1, kit_ty e2, po.fin s h (by unfold Rp; rfl)⟩
    · exact h.elim
  · exact h.elim

/-! ### subscripts -/
def dIdx : DR2 := fun x y M Q => match y with
  | .int i => match x with
    | .str cs => match atI cs i with
      | some c => cs.length ≤ sizeLine ∧ Q (.str [c]) M
      | none => False
    | x => match (dits M x).bind fun ds => atI ds i with
      | some d => Q d M
      | none => False
  | _ => False
theorem atI_rel {K : PySem.W.Frag} {F : Hp} {ds : List D} {xs : List V} {i : Int} {d : D} (r : RpL K F ds xs) (h : atI ds i = some d) : ∃ v, atI xs i = some v ∧ Rp K F d v := by
  unfold atI at h ⊢
  rw [r.len] at h
  cases q : ixN xs.length i with
  | none => rw [q] at h; cases h
  | some j =>
    rw [q] at h
    exact r.get (i := j) h
theorem rel_idx [Ghost] {K : PySem.W.Frag} : Rel2 K (rIx K) dIdx := by
  intro x y vx vy H F M Qd Q rx ry s h po
  unfold dIdx at h
  split at h
  · unfold Rp at ry
    subst ry
    split at h
    · unfold Rp at rx
      subst rx
      split at h
      · rename_i c e
        exact .inr (.inr ⟨_, _, c, rfl, rfl, by rw [mkS_len]; exact h.1, e, po.fin s h.2 (by unfold Rp; rfl)⟩)
      · exact h.elim
    · split at h
      · rename_i d e
        obtain ⟨ds, e1, e2⟩ := Option.bind_eq_some_iff.mp e
        obtain ⟨a, xs, e3, hs, r1⟩ := dits_at s rx e1
        obtain ⟨v, e4, r2⟩ := atI_rel r1 e2
        subst e3
        rcases hs with hs | hs
        · exact .inl ⟨a, xs, _, v, rfl, rfl, hs, e4, po.fin s h r2⟩
        · exact .inr (.inl ⟨a, xs, _, v, rfl, rfl, hs, e4, po.fin s h r2⟩)
      · exact h.elim
  · exact h.elim
section
variable {X : Cx} {a b c : Expr} {ua ub uc : DTE} {pos : Pos}
theorem de_idx [Ghost] (ha : DE X a ua) (hb : DE X b ub) (hs : PlainIx b := by intro _ _; rfl) : DE X (.Subscript a b pos) (dOp dIdx ua ub) := PE.weak (pe_ix ix_seq ha hb hs) (bin2 rel_idx)
end

/-! ### slices -/
abbrev DTO := DEnv → Mu → (Option Int → Mu → Prop) → Prop
def dNoP : DTO := fun _ M Q => Q none M
def dPart (u : DTE) : DTO := fun δ M Q => u δ M fun d M1 => match d with
  | .int i => Q (some i) M1
  | _ => False
def PostO [Ghost] (K : PySem.W.Frag) (H F : Hp) (M : Mu) (Qd : Option Int → Mu → Prop) (Q : Option Int → Hp → Prop) : Prop := ∀ o M' F' H', Qd o M' → Go H F M H' F' M' → Sv K H' F' M' → Q o H'
def liftO [Ghost] (K : PySem.W.Frag) (u : DTO) : TO := fun σ H Q => ∃ δ M F Qd, ERel K F δ σ ∧ Sv K H F M ∧ u δ M Qd ∧ PostO K H F M Qd Q
/-- the part of a list from lo to hi -/
def cutL {α : Type} (xs : List α) (lo hi : Option Int) : List α := (xs.drop (HT.sIx xs.length 0 lo)).take (HT.sIx xs.length xs.length hi - HT.sIx xs.length 0 lo)
def dSlV (mu : Bool) (x : D) (lo hi : Option Int) (M : Mu) (Q : DK) : Prop := match x with
  | .str cs => cs.length ≤ sizeLine ∧ Q (.str (cutL cs lo hi)) M
  | .tup ds => Q (.tup (cutL ds lo hi)) M
  | x => match dlis M x with
    | some ds => dNew mu (cutL ds lo hi) M Q
    | none => False
def dSl (mu : Bool) (u : DTE) (ul uh : DTO) : DTE := fun δ M Q => u δ M fun x M1 => ul δ M1 fun lo M2 => uh δ M2 fun hi M3 => dSlV mu x lo hi M3 Q
theorem cutL_rel {K : PySem.W.Frag} {F : Hp} {ds : List D} {xs : List V} (r : RpL K F ds xs) (lo hi : Option Int) : RpL K F (cutL ds lo hi) (cutV xs lo hi) := by
  unfold cutL cutV
  rw [r.len]
  exact (r.drop _).take _
theorem cutL_str (cs : List Nat) (lo hi : Option Int) : cutS (mkS cs) lo hi = mkS (cutL cs lo hi) := by
  unfold cutS cutL
  rw [mkS_len]
  rfl
def rSlAll (K : PySem.W.Frag) : V → Option Int → Option Int → Hp → VK → Prop := fun x lo hi H Q => (rSlS x lo hi H Q ∨ rSlA K x lo hi H Q) ∨ rSlL K x lo hi H Q
theorem sl_all {X : Cx} : SlR X (rSlAll X.K) := SlR.or (SlR.or sl_str sl_tupA) sl_list
theorem rel_sl [Ghost] {K : PySem.W.Frag} {mu : Bool} {x : D} {vx : V} {lo hi : Option Int} {H F : Hp} {M : Mu} {Qd : DK} {Q : VK} (rx : Rp K F x vx) (s : Sv K H F M) (h : dSlV mu x lo hi M Qd) (po : Post K H F M Qd Q) : rSlAll K vx lo hi H Q := by
  unfold dSlV at h
  split at h
  · unfold Rp at rx
    exact .inl (.inl ⟨_, rx, by rw [mkS_len]; exact h.1, po.fin s h.2 (by unfold Rp; rw [cutL_str])⟩)
  · rename_i ds
    unfold Rp at rx
    obtain ⟨a, xs, e, h1, r⟩ := rx
    refine .inl (.inr ⟨a, xs, e, s.fh.sqT h1, fun z => ?_, fun _ p hp => newT_at s (cutL_rel r lo hi) h po hp⟩)
    refine po.fin s h ?_
    have e2 : cutL ds lo hi = ds := by
      unfold cutL
      rw [r.len, z.1, z.2, List.drop_zero, Nat.sub_zero]
      exact List.take_of_length_le (Nat.le_of_eq r.len)
    rw [e2]
    unfold Rp
    exact ⟨a, xs, rfl, h1, r⟩
  · split at h
    · rename_i ds e
      obtain ⟨a, xs, e1, hs, r1⟩ := dlis_at s rx e
      exact .inr ⟨a, xs, e1, hs, fun p hp => dNew_at s (cutL_rel r1 lo hi) h po hp⟩
    · exact h.elim
section
variable {X : Cx} {e : Expr} {lo hi : Option Expr} {u : DTE} {ul uh : DTO} {pos p2 : Pos}
theorem do_none [Ghost] : PO X none (liftO X.K dNoP) := ⟨fun pins s σ H Q I h => po_none.run pins s σ H Q I (by
  obtain ⟨δ, M, F, Qd, hE, s, hu, p⟩ := h
  exact p _ _ _ _ hu Go.refl s)⟩
theorem do_some [Ghost] {e : Expr} (h : DE X e u) : PO X (some e) (liftO X.K (dPart u)) := ⟨fun pins s σ H Q I hq => (po_some h).run pins s σ H Q I (by
  obtain ⟨δ, M, F, Qd, hE, s, hu, p⟩ := hq
  refine ⟨δ, M, F, _, hE, s, hu, fun d M' F' v H' q g s' r => ?_⟩
  cases d <;> first | exact False.elim q | skip
  unfold Rp at r
  subst r
  exact ⟨_, rfl, p _ _ _ _ q g s'⟩)⟩
theorem de_slice [Ghost] (mu : Bool) (h : DE X e u) (hl : PO X lo (liftO X.K ul)) (hh : PO X hi (liftO X.K uh)) : DE X (.Subscript e (.Slice lo hi none p2) pos) (dSl mu u ul uh) := PE.weak (pe_slice sl_all h hl hh) fun σ H Q h => by
  obtain ⟨δ, M, F, Qd, hE, s, hu, p⟩ := h
  refine ⟨δ, M, F, _, hE, s, hu, fun d M1 F1 v H1 q g s1 r => ?_⟩
  refine ⟨δ, M1, F1, _, hE.mono g.le, s1, q, fun lo M2 F2 H2 q2 g2 s2 => ?_⟩
  refine ⟨δ, M2, F2, _, hE.mono (g.le.trans g2.le), s2, q2, fun hi M3 F3 H3 q3 g3 s3 => ?_⟩
  exact rel_sl (r.mono (g2.le.trans g3.le)) s3 q3 (p.go (g.trans (g2.trans g3)))
end

/-! ### methods of texts -/
def DM := D → List D → Mu → DK → Prop
def RelM [Ghost] (K : PySem.W.Frag) (T : String) (r : V → List V → Hp → VK → Prop) (rd : DM) : Prop := ∀ x vx ds vs H F M Qd Q, Rp K F x vx → RpL K F ds vs → Sv K H F M → rd x ds M Qd → Post K H F M Qd Q → r vx vs H Q
/-- of what type the receiver is -/
def isTy (M : Mu) (T : String) (d : D) : Prop := tyNm M d = some T
def dBM (T : String) (rd : DM) (uo : DTE) (ua : DTA) : DTE := fun δ M Q => uo δ M fun x M1 => tyNm M1 x = some T ∧ ua δ M1 fun ds M2 => rd x ds M2 Q
theorem tyV_str [Ghost] {K : PySem.W.Frag} {H F : Hp} {M : Mu} {d : D} {v : V} (s : Sv K H F M) (r : Rp K F d v) (h : tyNm M d = some "str") : tyV K "str" v H := by
  cases d with
  | str cs => unfold Rp at r; subst r; rfl
  | ref a =>
    have h' : (match M a with | some (.lst _) => some "list" | some (.dic _) => some "dict" | none => none) = some "str" := h
    cases q : M a with
    | none => rw [q] at h'; cases h'
    | some o => rw [q] at h'; cases o <;> exact absurd (Option.some.inj h') (by decide)
  | ty _ => cases h
  | exc _ _ _ _ _ => cases h
  | _ => exact absurd (Option.some.inj h) (by decide)
theorem tyV_list [Ghost] {K : PySem.W.Frag} {H F : Hp} {M : Mu} {d : D} {v : V} (s : Sv K H F M) (r : Rp K F d v) (h : tyNm M d = some "list") : tyV K "list" v H := by
  cases d with
  | lst ds =>
    unfold Rp at r
    obtain ⟨a, xs, e, h1, _⟩ := r
    subst e
    exact .inl ⟨rfl, xs, .inl (.inl (s.fh _ _ h1))⟩
  | src ns =>
    unfold Rp at r
    obtain ⟨a, e, h1⟩ := r
    subst e
    exact .inl ⟨rfl, _, s.fh.sqL h1⟩
  | ref a =>
    have h' : (match M a with | some (.lst _) => some "list" | some (.dic _) => some "dict" | none => none) = some "list" := h
    unfold Rp at r
    subst r
    cases q : M a with
    | none => rw [q] at h'; cases h'
    | some o =>
      rw [q] at h'
      cases o with
      | lst ds =>
        obtain ⟨ho, e2, xs, e3, _⟩ := s.mu a _ q
        subst e3
        exact .inl ⟨rfl, xs, .inl (.inl e2)⟩
      | dic _ => exact absurd (Option.some.inj h') (by decide)
  | ty _ => cases h
  | exc _ _ _ _ _ => cases h
  | _ => exact absurd (Option.some.inj h) (by decide)
section
variable {X : Cx} {o e : Expr} {es : List Expr} {uo : DTE} {ua : DTA} {name : Str} {apos cpos : Pos} {T id : String} {r : V → List V → Hp → VK → Prop} {rd : DM}
theorem de_bm0 [Ghost] (hT : ∀ {H F : Hp} {M : Mu} {d : D} {v : V}, Sv X.K H F M → Rp X.K F d v → tyNm M d = some T → tyV X.K T v H) (hr : RelM X.K T r rd) (pa : PlainAttrs T) (slot : Slot T name id) (hty : typeOf (.builtin id) = pure (.type "method_descriptor")) (hm : MtR X id r) (ho : DE X o uo)
    (hbase : attributeBase o name X.env (eval o X.env) = eval o X.env := by rfl) (hline : (apos.endLine == cpos.line) = true := by rfl) : DE X (.Call (.Attribute o name apos) [] [] cpos) (dBM T rd uo dNil) := PE.weak (pe_bm0 pa slot hty hm ho hbase hline) fun σ H Q h => by
  obtain ⟨δ, M, F, Qd, hE, s, hu, p⟩ := h
  refine ⟨δ, M, F, _, hE, s, hu, fun d M1 F1 v H1 q g s1 r1 => ?_⟩
  exact ⟨hT s1 r1 q.1, hr _ _ _ _ _ _ _ _ _ r1 RpL.nil s1 q.2 (p.go g)⟩
theorem de_bm [Ghost] (hT : ∀ {H F : Hp} {M : Mu} {d : D} {v : V}, Sv X.K H F M → Rp X.K F d v → tyNm M d = some T → tyV X.K T v H) (hr : RelM X.K T r rd) (pa : PlainAttrs T) (slot : Slot T name id) (hty : typeOf (.builtin id) = pure (.type "method_descriptor")) (hm : MtR X id r) (ho : DE X o uo) (ha : DA X (e :: es) ua)
    (hbase : attributeBase o name X.env (eval o X.env) = eval o X.env := by rfl)
    (hfew : ((backTo cpos (starEach (e :: es) X.env)).all (fun x => !x.1) && (backToKw cpos (keywordEach [] X.env)).all (fun x => x.1.isSome)
      && decide ((e :: es).length + ([] : List Keyword).length + (if ([] : List Keyword).isEmpty then 0 else 1) < 30)) = true := by rfl)
    (hline : (apos.endLine == cpos.line) = true := by rfl) (hs : starEach (e :: es) X.env = (false, eval e X.env) :: starEach es X.env := by rfl) (hplain : (backTo cpos (starEach es X.env)).any (·.1) = false := by rfl) :
    DE X (.Call (.Attribute o name apos) (e :: es) [] cpos) (dBM T rd uo ua) := PE.weak (pe_bm pa slot hty hm ho ha hbase hfew hline hs hplain) fun σ H Q h => by
  obtain ⟨δ, M, F, Qd, hE, s, hu, p⟩ := h
  refine ⟨δ, M, F, _, hE, s, hu, fun d M1 F1 v H1 q g s1 r1 => ?_⟩
  refine ⟨hT s1 r1 q.1, δ, M1, F1, _, hE.mono g.le, s1, q.2, fun ds M2 F2 vs H2 q2 g2 s2 r2 => ?_⟩
  exact hr _ _ _ _ _ _ _ _ _ (r1.mono g2.le) r2 s2 q2 (p.go (g.trans g2))
end
/-- list.append -/
def dAppend : DM := fun x ds M Q => match x, ds with
  | .ref a, [d] => match M a with
    | some (.lst es) => es.length < sizeLine ∧ Q .non (mset M a (.lst (es ++ [d])))
    | _ => False
  | _, _ => False
theorem rel_append [Ghost] {K : PySem.W.Frag} : RelM K "list" rAppend dAppend := by
  intro x vx ds vs H F M Qd Q rx rs s h po
  unfold dAppend at h
  split at h
  · obtain ⟨v, e, r1⟩ := rs.one
    unfold Rp at rx
    subst e rx
    split at h
    · rename_i es q
      obtain ⟨ho, e2, xs, e3, r2⟩ := s.mu _ _ q
      subst e3
      obtain ⟨s1, g1⟩ := s.wr (o' := .lst (es ++ [_])) (ho := .lst (xs ++ [v])) q ⟨_, rfl, r2.snoc r1⟩
      exact ⟨_, xs, v, rfl, rfl, e2, by rw [← r2.len]; exact h.1, po _ _ _ _ _ h.2 g1 s1 (by unfold Rp; rfl)⟩
    · exact h.elim
  · exact h.elim
/-- list.pop() -/
def dPop : DM := fun x ds M Q => match x, ds with
  | .ref a, [] => match M a with
    | some (.lst es) => match es[es.length - 1]? with
      | some d => Q d (mset M a (.lst es.dropLast))
      | none => False
    | _ => False
  | _, _ => False
theorem rel_pop [Ghost] {K : PySem.W.Frag} : RelM K "list" rPop dPop := by
  intro x vx ds vs H F M Qd Q rx rs s h po
  unfold dPop at h
  split at h
  · unfold RpL at rs
    unfold Rp at rx
    subst rs rx
    split at h
    · rename_i es q
      obtain ⟨ho, e2, xs, e3, r2⟩ := s.mu _ _ q
      subst e3
      split at h
      · rename_i d e
        obtain ⟨v, e4, r3⟩ := r2.get e
        obtain ⟨s1, g1⟩ := s.wr (o' := .lst es.dropLast) (ho := .lst xs.dropLast) q ⟨_, rfl, r2.last⟩
        exact ⟨_, xs, v, rfl, rfl, e2, by rw [← r2.len]; exact e4, po _ _ _ _ _ h g1 s1 r3⟩
      · exact h.elim
    · exact h.elim
  · exact h.elim
/-- list.extend(a list) -/
def dExtend : DM := fun x ds M Q => match x, ds with
  | .ref a, [d] => match M a, dseq M d with
    | some (.lst es), some fs => es.length + fs.length ≤ sizeLine ∧ Q .non (mset M a (.lst (es ++ fs)))
    | _, _ => False
  | _, _ => False
theorem rel_extend [Ghost] {K : PySem.W.Frag} : RelM K "list" rExtend dExtend := by
  intro x vx ds vs H F M Qd Q rx rs s h po
  unfold dExtend at h
  split at h
  · obtain ⟨v, e, r1⟩ := rs.one
    unfold Rp at rx
    subst e rx
    split at h
    · rename_i es fs q q2
      obtain ⟨ho, e2, xs, e3, r2⟩ := s.mu _ _ q
      subst e3
      obtain ⟨b, ys, e4, h4, r4⟩ := dseq_at s r1 q2
      subst e4
      obtain ⟨s1, g1⟩ := s.wr (o' := .lst (es ++ fs)) (ho := .lst (xs ++ ys)) q ⟨_, rfl, r2.app r4⟩
      exact ⟨_, b, xs, ys, rfl, rfl, e2, h4, by rw [← r2.len, ← r4.len]; exact h.1, po _ _ _ _ _ h.2 g1 s1 (by unfold Rp; rfl)⟩
    · exact h.elim
  · exact h.elim
/-- list.reverse() -/
def dReverse : DM := fun x ds M Q => match x, ds with
  | .ref a, [] => match M a with
    | some (.lst es) => Q .non (mset M a (.lst es.reverse))
    | _ => False
  | _, _ => False
theorem rel_reverse [Ghost] {K : PySem.W.Frag} : RelM K "list" rReverse dReverse := by
  intro x vx ds vs H F M Qd Q rx rs s h po
  unfold dReverse at h
  split at h
  · unfold RpL at rs
    unfold Rp at rx
    subst rs rx
    split at h
    · rename_i es q
      obtain ⟨ho, e2, xs, e3, r2⟩ := s.mu _ _ q
      subst e3
      obtain ⟨s1, g1⟩ := s.wr (o' := .lst es.reverse) (ho := .lst xs.reverse) q ⟨_, rfl, r2.rev⟩
      exact ⟨_, xs, rfl, rfl, e2, po _ _ _ _ _ h g1 s1 (by unfold Rp; rfl)⟩
    · exact h.elim
  · exact h.elim
/-! texts: by lists of codes -/
def dSplit (mu : Bool) : DM := fun x ds M Q => match x, ds with
  | .str a, [.str b] => b ≠ [] ∧ a.length + 2 ≤ sizeLine ∧ b.all (· < 256) = true ∧ dNew mu ((spl b 0 [] a).map .str) M Q
  | _, _ => False
def rSplit : V → List V → Hp → VK → Prop := fun x xs H Q => ∃ a b, x = .str a ∧ xs = [.str b] ∧ (b.length == 0) = false ∧ a.length + 2 ≤ sizeLine ∧ rNewStrs (Txt.split a b) H Q
theorem RpL.ofStrs {K : PySem.W.Frag} {F : Hp} : ∀ {ys : List Str}, RpL K F ((ys.map tl).map D.str) (ys.map V.str)
  | [] => RpL.nil
  | y :: ys => RpL.cons (by unfold Rp; rw [mkS_of]) RpL.ofStrs
theorem rel_split [Ghost] {K : PySem.W.Frag} {mu : Bool} : RelM K "str" rSplit (dSplit mu) := by
  intro x vx ds vs H F M Qd Q rx rs s h po
  unfold dSplit at h
  split at h
  · rename_i a b
    obtain ⟨v, e, r1⟩ := rs.one
    unfold Rp at rx r1
    subst e r1 rx
    obtain ⟨h1, h2, h3, h4⟩ := h
    refine ⟨_, _, rfl, rfl, ?_, by rw [mkS_len]; exact h2, fun p hp => ?_⟩
    · rw [mkS_len]
      cases b with
      | nil => exact absurd rfl h1
      | cons c b => rfl
    · have e2 : (Txt.split (mkS a) (mkS b)).map tl = spl b 0 [] a := split_spl _ _ h1 (kind_ok (by simpa [mkS] using h3))
      have r2 : RpL K F ((spl b 0 [] a).map .str) ((Txt.split (mkS a) (mkS b)).map V.str) := by rw [← e2]; exact RpL.ofStrs
      exact dNew_at s r2 h4 po hp
  · exact h.elim
def strsOf : List D → Option (List (List Nat))
  | [] => some []
  | .str i :: ds => (strsOf ds).map (i :: ·)
  | _ :: _ => none
theorem strsOf_at {K : PySem.W.Frag} {F : Hp} : ∀ {ds : List D} {vs : List V} {ns : List (List Nat)}, RpL K F ds vs → strsOf ds = some ns → vs = (ns.map mkS).map V.str
  | [], _, _, r, e => by unfold RpL at r; cases e; exact r
  | d :: ds, _, _, r, e => by
    unfold RpL at r
    obtain ⟨x, xs, e1, r1, r2⟩ := r
    cases d <;> first | (cases e; done) | skip
    unfold strsOf at e
    cases q : strsOf ds with
    | none => rw [q] at e; cases e
    | some ms =>
      rw [q] at e
      cases e
      unfold Rp at r1
      rw [e1, r1, strsOf_at r2 q]
      rfl
theorem strsOf_map : ∀ ns : List (List Nat), strsOf (ns.map D.str) = some ns
  | [] => rfl
  | n :: ns => by
    show (strsOf (ns.map D.str)).map (n :: ·) = _
    rw [strsOf_map ns]
    rfl
def dJoin : DM := fun x ds M Q => match x, ds with
  | .str a, [d] => match (dits M d).bind strsOf with
    | some ys => (ys.map (·.length)).sum + ys.length * a.length ≤ 16777216 ∧ Q (.str (joinL a ys)) M
    | none => False
  | _, _ => False
def rJoin (K : PySem.W.Frag) : V → List V → Hp → VK → Prop := fun x xs H Q => ∃ a p, ∃ ys : List Str, x = .str a ∧ xs = [.ref p] ∧ (SqL K H p (ys.map V.str) ∨ SqT K H p (ys.map V.str)) ∧
    (ys.map (·.length)).sum + ys.length * a.length ≤ 16777216 ∧ Q (.str (Txt.join a ys)) H
theorem rel_join [Ghost] {K : PySem.W.Frag} : RelM K "str" (rJoin K) dJoin := by
  intro x vx ds vs H F M Qd Q rx rs s h po
  unfold dJoin at h
  split at h
  · rename_i a d
    obtain ⟨v, e, r1⟩ := rs.one
    unfold Rp at rx
    subst e rx
    split at h
    · rename_i ys e
      obtain ⟨es, e1, e2⟩ := Option.bind_eq_some_iff.mp e
      obtain ⟨p, xs, e3, hs, r2⟩ := dits_at s r1 e1
      have e4 := strsOf_at r2 e2
      subst e3 e4
      refine ⟨mkS a, p, ys.map mkS, rfl, rfl, hs, ?_, po.fin s h.2 ?_⟩
      · have e5 : (ys.map mkS).map (·.length) = ys.map (·.length) := by
          rw [List.map_map]
          exact List.map_congr_left fun y _ => mkS_len y
        rw [e5, List.length_map, mkS_len]
        exact h.1
      · unfold Rp
        congr 1
        refine ext_tl ?_
        rw [join_eq, tl_join, List.map_map]
        have e6 : (ys.map (tl ∘ mkS)) = ys := by
          have : (tl ∘ mkS) = id := by funext y; rfl
          rw [this, List.map_id]
        rw [e6]
        rfl
    · exact h.elim
  · exact h.elim
/-- startswith -/
def dStarts : DM := fun x ds M Q => match x, ds with
  | .str a, [.str b] => Q (.bl (Txt.startswith (mkS a) (mkS b))) M
  | _, _ => False
def r1S (g : Str → Str → V) : V → List V → Hp → VK → Prop := fun x xs H Q => ∃ a b, x = .str a ∧ xs = [.str b] ∧ Q (g a b) H
theorem rel_starts [Ghost] {K : PySem.W.Frag} : RelM K "str" (r1S fun a b => .bl (Txt.startswith a b)) dStarts := by
  intro x vx ds vs H F M Qd Q rx rs s h po
  unfold dStarts at h
  split at h
  · obtain ⟨v, e, r1⟩ := rs.one
    unfold Rp at rx r1
    subst e r1 rx
    exact ⟨_, _, rfl, rfl, po.fin s h (by unfold Rp; rfl)⟩
  · exact h.elim
def dCount : DM := fun x ds M Q => match x, ds with
  | .str a, [.str b] => Q (.int (Txt.count (mkS a) (mkS b))) M
  | _, _ => False
theorem rel_count [Ghost] {K : PySem.W.Frag} : RelM K "str" (r1S fun a b => .int (Txt.count a b)) dCount := by
  intro x vx ds vs H F M Qd Q rx rs s h po
  unfold dCount at h
  split at h
  · obtain ⟨v, e, r1⟩ := rs.one
    unfold Rp at rx r1
    subst e r1 rx
    exact ⟨_, _, rfl, rfl, po.fin s h (by unfold Rp; rfl)⟩
  · exact h.elim
end DL

namespace DL
open PySem PySem.Spec PyProof.Rows L2 TL

/-! ### weaker knowledge: a list that may change is said to stay, a thing is forgotten -/
def Wk (d : D) (M : Mu) (d' : D) (M' : Mu) : Prop := ∀ (K : PySem.W.Frag) (H F : Hp) (v : V), Sv0 K H F M → Rp K F d v → ∃ F', Sv0 K H F' M' ∧ Go H F M H F' M' ∧ Rp K F' d' v
theorem Wk.refl {d : D} {M : Mu} : Wk d M d M := fun K H F v s r => ⟨F, s, Go.refl, r⟩
theorem Wk.trans {d d1 d2 : D} {M M1 M2 : Mu} (a : Wk d M d1 M1) (b : Wk d1 M1 d2 M2) : Wk d M d2 M2 := fun K H F v s r => by
  obtain ⟨F1, s1, g1, r1⟩ := a K H F v s r
  obtain ⟨F2, s2, g2, r2⟩ := b K H F1 v s1 r1
  exact ⟨F2, s2, g1.trans g2, r2⟩
def Sub (M' M : Mu) : Prop := ∀ b o, M' b = some o → M b = some o
theorem Sub.refl {M : Mu} : Sub M M := fun _ _ h => h
theorem Sub.trans {M M1 M2 : Mu} (a : Sub M M1) (b : Sub M1 M2) : Sub M M2 := fun c o h => b c o (a c o h)
theorem Sub.set {M M' : Mu} {p : Addr} {o : DO} (h : Sub M M') (n : M p = none) : Sub M (mset M' p o) := fun b u e => by
  rw [mset_ne (fun z => by subst z; rw [n] at e; cases e)]
  exact h b u e
theorem Sub.none {M M' : Mu} {p : Addr} (h : Sub M M') (n : M' p = none) : M p = none := by
  cases e : M p with
  | none => rfl
  | some o => rw [h p o e] at n; cases n
theorem Sv0.sub {K : PySem.W.Frag} {H F : Hp} {M M' : Mu} (s : Sv0 K H F M) (h : Sub M' M) : Sv0 K H F M' ∧ Go H F M H F M' := by
  refine ⟨⟨s.fh, fun b o e => ?_, fun a o e => s.mu a o (h a o e)⟩, ⟨Le.refl F, fun b o e m => ⟨e, ?_, fun z => z⟩⟩⟩
  · exact h.none (s.fm b o e)
  · exact h.none m
theorem Wk.drop {d : D} {M M' : Mu} (h : Sub M' M) : Wk d M d M' := fun K H F v s r => by
  obtain ⟨s1, g1⟩ := s.sub h
  exact ⟨F, s1, g1, r⟩
theorem Sv0.frz {K : PySem.W.Frag} {H F : Hp} {M M' : Mu} {a : Addr} {ds : List D} (s : Sv0 K H F M) (e : M a = some (.lst ds)) (h : Sub M' M) (n : M' a = none) : ∃ xs, Sv0 K H (upd F a (.lst xs)) M' ∧ Go H F M H (upd F a (.lst xs)) M' ∧ RpL K (upd F a (.lst xs)) ds xs := by
  obtain ⟨ho, e2, xs, e3, r⟩ := s.mu a _ e
  subst e3
  have hF : F a = none := by
    cases q : F a with
    | none => rfl
    | some u => rw [s.fm a u q] at e; cases e
  have l : Le F (upd F a (.lst xs)) := Le.new hF
  refine ⟨xs, ⟨fun b u q => ?_, fun b u q => ?_, fun b u q => ?_⟩, ⟨l, fun b u q m => ⟨q, ?_, fun z => ?_⟩⟩, r.mono l⟩
  · by_cases hb : b = a
    · subst hb; rw [upd_same] at q; cases q; exact e2
    · rw [upd_ne hb] at q; exact s.fh b u q
  · by_cases hb : b = a
    · subst hb; exact n
    · rw [upd_ne hb] at q; exact h.none (s.fm b u q)
  · obtain ⟨ho, e4, r4⟩ := s.mu b u (h b u q)
    exact ⟨ho, e4, r4.mono l⟩
  · exact h.none m
  · have hb : b ≠ a := fun z => by subst z; rw [m] at e; cases e
    rw [upd_ne hb]; exact z
theorem Wk.frz {M M' : Mu} {a : Addr} {ds : List D} (e : M a = some (.lst ds)) (h : Sub M' M) (n : M' a = none) : Wk (.ref a) M (.lst ds) M' := fun K H F v s r => by
  obtain ⟨xs, s1, g1, r1⟩ := s.frz e h n
  unfold Rp at r
  obtain ⟨ho, e2, ys, e3, _⟩ := s.mu a _ e
  refine ⟨_, s1, g1, ?_⟩
  unfold Rp
  exact ⟨a, xs, r, upd_same, r1⟩
theorem Sub.drop {M : Mu} {a : Addr} : Sub (mdrop M a) M := fun b o e => by
  unfold mdrop at e
  by_cases hb : b = a
  · rw [if_pos hb] at e; cases e
  · rw [if_neg hb] at e; exact e
/-- wanted of a value up to weaker knowledge -/
def Wq (Q : DK) : DK := fun d M => ∃ d' M', Wk d M d' M' ∧ Q d' M'
theorem Wq.now {Q : DK} {d : D} {M : Mu} (h : Q d M) : Wq Q d M := ⟨d, M, Wk.refl, h⟩
theorem Wq.drop {Q : DK} {d : D} {M M' : Mu} (h : Sub M' M) (q : Q d M') : Wq Q d M := ⟨d, M', Wk.drop h, q⟩
theorem Wq.frz {Q : DK} {a : Addr} {ds : List D} {M M' : Mu} (e : M a = some (.lst ds)) (h : Sub M' M) (n : M' a = none) (q : Q (.lst ds) M') : Wq Q (.ref a) M := ⟨_, M', Wk.frz e h n, q⟩
theorem Post.wq [Ghost] {K : PySem.W.Frag} {H F : Hp} {M : Mu} {Qd : DK} {Q : VK} (p : Post K H F M Qd Q) : Post K H F M (Wq Qd) Q := fun d M' F' v H' q g s r => by
  obtain ⟨d2, M2, w, q⟩ := q
  obtain ⟨F2, s2, g2, r2⟩ := w K H' F' v s.toSv0 r
  exact p d2 M2 F2 v H' q (g.trans g2) (svgo s s2 g2).1 r2
def dWq (u : DTE) : DTE := fun δ M Q => u δ M (Wq Q)
theorem de_wq [Ghost] {X : Cx} {e : Expr} {u : DTE} (h : DE X e u) : DE X e (dWq u) := PE.weak h fun σ H Q h => by
  obtain ⟨δ, M, F, Qd, hE, s, hu, p⟩ := h
  exact ⟨δ, M, F, _, hE, s, hu, p.wq⟩

/-! ### targets -/
abbrev DTg := D → DEnv → Mu → (DEnv → Mu → Prop) → Prop
def dgN (i : Nat) : DTg := fun d δ M Q => Q (δ.set i (some d)) M
def dgAll : List DTg → List D → DEnv → Mu → (DEnv → Mu → Prop) → Prop
  | [], [], δ, M, Q => Q δ M
  | t :: ts, d :: ds, δ, M, Q => t d δ M fun δ' M' => dgAll ts ds δ' M' Q
  | _, _, _, _, _ => False
def dgT (ts : List DTg) : DTg := fun d δ M Q => match d with
  | .tup ds => ds.length = ts.length ∧ dgAll ts ds δ M Q
  | _ => False
/-- vs: slots of a block's own; what is wanted tells that nothing else was stored -/
def RelG [Ghost] (K : PySem.W.Frag) (vs : List Nat) (g : TG) (dg : DTg) : Prop := ∀ d x δ σ σ0 H F M Qd Q, Rp K F d x → ERel K F δ σ → Sv K H F M → dg d δ M Qd → PostE K H F M Qd (fun σ2 H2 => wipe σ2 vs = wipe σ0 vs → Q σ2 H2) → wipe σ vs = wipe σ0 vs → g x σ H Q
def RelGs [Ghost] (K : PySem.W.Frag) (vs : List Nat) (g : TGs) (dg : List DTg) : Prop := ∀ ds xs δ σ σ0 H F M Qd Q, RpL K F ds xs → ERel K F δ σ → Sv K H F M → dgAll dg ds δ M Qd → PostE K H F M Qd (fun σ2 H2 => wipe σ2 vs = wipe σ0 vs → Q σ2 H2) → wipe σ vs = wipe σ0 vs → g xs σ H Q
theorem wipe_in {σ : L2.St} {i : Nat} : ∀ {vs : List Nat}, i ∈ vs → i < σ.length → (wipe σ vs)[i]? = some none
  | v :: vs, h, hl => by
    unfold wipe
    by_cases e : v = i
    · subst e
      rw [List.getElem?_set_self (by rw [wipe_length]; exact hl)]
    · rw [List.getElem?_set_ne e]
      exact wipe_in ((List.mem_cons.mp h).resolve_left fun z => e z.symm) hl
theorem wipe_set {σ : L2.St} {j : Nat} {v : Option V} {vs : List Nat} (h : j ∈ vs) : wipe (σ.set j v) vs = wipe σ vs := by
  refine List.ext_getElem? fun i => ?_
  by_cases hi : i ∈ vs
  · by_cases hl : i < σ.length
    · rw [wipe_in hi (by rw [List.length_set]; exact hl), wipe_in hi hl]
    · rw [List.getElem?_eq_none (by rw [wipe_length, List.length_set]; omega), List.getElem?_eq_none (by rw [wipe_length]; omega)]
  · rw [wipe_out hi, wipe_out hi, List.getElem?_set_ne (fun z => hi (by rw [← z]; exact h))]
theorem relg_name [Ghost] {K : PySem.W.Frag} {vs : List Nat} (i : Nat) (hi : i ∈ vs := by decide) : RelG K vs (gName i) (dgN i) := fun d x δ σ σ0 H F M Qd Q r e s h po w => po _ _ _ _ _ h Go.refl s (e.set r) (by rw [wipe_set hi]; exact w)
theorem relgs_nil [Ghost] {K : PySem.W.Frag} {vs : List Nat} : RelGs K vs gNil [] := fun ds xs δ σ σ0 H F M Qd Q r e s h po w => by
  cases ds with
  | nil =>
    unfold RpL at r
    exact ⟨r, po _ _ _ _ _ h Go.refl s e w⟩
  | cons _ _ => exact False.elim h
theorem relgs_cons [Ghost] {K : PySem.W.Frag} {vs : List Nat} {g : TG} {gs : TGs} {dg : DTg} {dgs : List DTg} (h1 : RelG K vs g dg) (h2 : RelGs K vs gs dgs) : RelGs K vs (gCons g gs) (dg :: dgs) := fun ds xs δ σ σ0 H F M Qd Q r e s h po w => by
  cases ds with
  | nil => exact False.elim h
  | cons d ds =>
    unfold RpL at r
    obtain ⟨x, ys, e1, r1, r2⟩ := r
    refine ⟨x, ys, e1, ?_⟩
    refine h1 d x δ σ σ0 H F M _ _ r1 e s h (fun δ2 M2 F2 σ2 H2 q2 g2 s2 e2 w2 => ?_) w
    exact h2 ds ys δ2 σ2 σ0 H2 F2 M2 Qd Q (r2.mono g2.le) e2 s2 q2 (po.go g2) w2
theorem relg_tup [Ghost] {K : PySem.W.Frag} {vs : List Nat} {gs : TGs} {dgs : List DTg} (n : Nat) (hn : dgs.length = n) (h : RelGs K vs gs dgs) : RelG K vs (gTup K n gs) (dgT dgs) := fun d x δ σ σ0 H F M Qd Q r e s hd po w => by
  cases d <;> first | exact False.elim hd | skip
  rename_i ds
  unfold Rp at r
  obtain ⟨a, xs, e1, h1, r1⟩ := r
  exact ⟨a, xs, e1, s.fh.sqT h1, by rw [← r1.len, hd.1, hn], h ds xs δ σ σ0 H F M Qd Q r1 e s hd.2 po w⟩

/-! ### statements -/
def dNx : DTS := fun D δ M => D.nx δ M
def dBk : DTS := fun D δ M => D.bk δ M
def dCt : DTS := fun D δ M => D.ct δ M
def dSq (t u : DTS) : DTS := fun D δ M => t { D with nx := u D } δ M
def dNo : DTS := fun _ _ _ => False
def dEx (u : DTE) : DTS := fun D δ M => u δ M fun _ M1 => D.nx δ M1
def dRt (u : DTE) : DTS := fun D δ M => u δ M D.rt
def dRtN : DTS := fun D _ M => D.rt .non M
def dIfS (c : DTT) (t u : DTS) : DTS := fun D δ M => c δ M fun b M1 => match b with
  | true => t D δ M1
  | false => u D δ M1
def dAs (u : DTE) (g : DTg) : DTS := fun D δ M => u δ M fun d M1 => g d δ M1 D.nx
def dAu (i : Nat) (rd : DR2) (u : DTE) : DTS := fun D δ M => match δ[i]? with
  | some (some x) => u δ M fun y M1 => rd x y M1 fun z M2 => D.nx (δ.set i (some z)) M2
  | _ => False
def dPar (i j : Nat) (ua : DTA) : DTS := fun D δ M => ua δ M fun ds M1 => match ds with
  | [v, w] => D.nx ((δ.set i (some v)).set j (some w)) M1
  | _ => False
def dWhile (c : DTT) (b : DTS) : DTS := fun D δ M => ∃ W : Nat → DEnv → Mu → Prop, (∃ m, W m δ M) ∧ ∀ m δ M, W m δ M →
  c δ M fun k M1 => match k with
    | true => b { D with nx := fun δ' M' => ∃ m', m' < m ∧ W m' δ' M', ct := fun δ' M' => ∃ m', m' < m ∧ W m' δ' M', bk := D.nx } δ M1
    | false => D.nx δ M1
section
variable {X : Cx} {st : Stmt} {rest : List Stmt} {t u : DTS} {e : Expr} {ue : DTE} {pos : Pos}
theorem dss_nil [Ghost] : DSs X [] dNx := PSs.weak pss_nil fun D σ H h => by
  obtain ⟨δ, M, F, Dd, hE, s, hu, p⟩ := h
  exact p.nx _ _ _ _ _ hu Go.refl s hE
theorem dss_cons [Ghost] (h1 : DS X st t) (h2 : DSs X rest u) : DSs X (st :: rest) (dSq t u) := PSs.weak (pss_cons h1 h2) fun D σ H h => by
  obtain ⟨δ, M, F, Dd, hE, s, hu, p⟩ := h
  exact ⟨δ, M, F, { Dd with nx := u Dd }, hE, s, hu, ⟨fun δ' M' F' σ' H' q g s' e => ⟨δ', M', F', Dd, e, s', q, p.go g⟩, p.rt, p.bk, p.ct⟩⟩
theorem dss_one [Ghost] (h1 : DS X st t) : DSs X [st] t := pss_one h1
theorem ds_pass [Ghost] : DS X (.Pass pos) dNx := PS.weak ps_pass fun D σ H h => by
  obtain ⟨δ, M, F, Dd, hE, s, hu, p⟩ := h
  exact p.nx _ _ _ _ _ hu Go.refl s hE
theorem ds_break [Ghost] : DS X (.Break pos) dBk := PS.weak ps_break fun D σ H h => by
  obtain ⟨δ, M, F, Dd, hE, s, hu, p⟩ := h
  exact p.bk _ _ _ _ _ hu Go.refl s hE
theorem ds_cont [Ghost] : DS X (.Continue pos) dCt := PS.weak ps_continue fun D σ H h => by
  obtain ⟨δ, M, F, Dd, hE, s, hu, p⟩ := h
  exact p.ct _ _ _ _ _ hu Go.refl s hE
theorem ds_doc [Ghost] {x : Str} {j : Nat} {pos' : Pos} : DS X (.Expr (.Constant (.str x) j pos) pos') dNx := PS.weak ps_doc fun D σ H h => by
  obtain ⟨δ, M, F, Dd, hE, s, hu, p⟩ := h
  exact p.nx _ _ _ _ _ hu Go.refl s hE
theorem ds_never [Ghost] : DS X st dNo := PS.weak ps_never fun D σ H h => by
  obtain ⟨δ, M, F, Dd, hE, s, hu, p⟩ := h
  exact hu
theorem dss_never [Ghost] : DSs X rest dNo := PSs.weak pss_never fun D σ H h => by
  obtain ⟨δ, M, F, Dd, hE, s, hu, p⟩ := h
  exact hu
theorem ds_expr [Ghost] (he : DE X e ue) (hs : swapsWith e none pos.line X.env = pure false := by rfl) : DS X (.Expr e pos) (dEx ue) := PS.weak (ps_expr he hs) fun D σ H h => by
  obtain ⟨δ, M, F, Dd, hE, s, hu, p⟩ := h
  exact ⟨δ, M, F, _, hE, s, hu, fun d M' F' v H' q g s' r => p.nx _ _ _ _ _ q g s' (hE.mono g.le)⟩
theorem ds_ret [Ghost] (he : DE X e ue) : DS X (.Return (some e) pos) (dRt ue) := PS.weak (ps_ret he) fun D σ H h => by
  obtain ⟨δ, M, F, Dd, hE, s, hu, p⟩ := h
  exact ⟨δ, M, F, _, hE, s, hu, p.rt⟩
theorem ds_retN [Ghost] : DS X (.Return none pos) dRtN := PS.weak ps_retN fun D σ H h => by
  obtain ⟨δ, M, F, Dd, hE, s, hu, p⟩ := h
  exact p.rt _ _ _ _ _ hu Go.refl s (by unfold Rp; rfl)
theorem ds_if [Ghost] {c : Expr} {a b : List Stmt} {tc : DTT} (hc : DT X c tc) (ha : DSs X a t) (hb : DSs X b u) : DS X (.If c a b pos) (dIfS tc t u) := PS.weak (ps_if hc ha hb) fun D σ H h => by
  obtain ⟨δ, M, F, Dd, hE, s, hu, p⟩ := h
  refine ⟨δ, M, F, _, hE, s, hu, fun d M' F' H' q g s' => ?_⟩
  cases d with
  | true => exact ⟨δ, M', F', Dd, hE.mono g.le, s', q, p.go g⟩
  | false => exact ⟨δ, M', F', Dd, hE.mono g.le, s', q, p.go g⟩
theorem ds_set [Ghost] {i : Nat} {x : Str} {pos' : Pos} (hN : X.N.Nodup) (he : DE X e ue) (hi : X.N[i]? = some x := by rfl) (hx : Loc X.env.scope x := by first | exact Or.inl rfl | exact Or.inr rfl) (hs : swapsWith e (some (.Name x pos')) pos.line X.env = pure false := by rfl) (hf : X.fn x = true ∨ X.env.scope.names.lookup x = some .local := by first | exact .inl rfl | exact .inr rfl | assumption) :
    DS X (.Assign [.Name x pos'] e pos) (dAs ue (dgN i)) := PS.weak (ps_set hN hi hx he hs hf) fun D σ H h => by
  obtain ⟨δ, M, F, Dd, hE, s, hu, p⟩ := h
  exact ⟨δ, M, F, _, hE, s, hu, fun d M' F' v H' q g s' r => p.nx _ _ _ _ _ q g s' ((hE.mono g.le).set r)⟩
theorem ds_asg [Ghost] {tg : Expr} {g : TG} {dg : DTg} {vs : List Nat} (hg : PG X tg g) (hr : RelG X.K vs g dg) (he : DE X e ue) (hs : swapsWithSole [tg] e pos.line X.env = pure false := by rfl) (hw : swappedStores [tg] e X.env = pure none := by rfl)
    (h1 : (assignEach [tg] X.env).map (·.2) = [assign tg X.env] := by rfl) : DS X (.Assign [tg] e pos) (dAs ue dg) := PS.weak (ps_asg he hg hs hw h1) fun D σ H h => by
  obtain ⟨δ, M, F, Dd, hE, s, hu, p⟩ := h
  refine ⟨δ, M, F, _, hE, s, hu, fun d M' F' v H' q g s' r => ?_⟩
  exact hr d v δ σ σ H' F' M' _ _ r (hE.mono g.le) s' q (fun δ2 M2 F2 σ2 H2 q2 g2 s2 e2 _ => p.nx _ _ _ _ _ q2 (g.trans g2) s2 e2) rfl
theorem ds_aug [Ghost] {i : Nat} {x : Str} {op : Operator} {ti : TIp} {rd : DR2} {pos' : Pos} (hN : X.N.Nodup) (ho : PIp X op ti) (hr : Rel2 X.K ti rd) (he : DE X e ue) (hi : X.N[i]? = some x := by rfl) (hx : Loc X.env.scope x := by first | exact Or.inl rfl | exact Or.inr rfl) (hf : X.fn x = true ∨ X.env.scope.names.lookup x = some .local := by first | exact .inl rfl | exact .inr rfl | assumption) :
    DS X (.AugAssign (.Name x pos') op e pos) (dAu i rd ue) := PS.weak (ps_aug hN hi hx he ho hf) fun D σ H h => by
  obtain ⟨δ, M, F, Dd, hE, s, hu, p⟩ := h
  have hu' : (match δ[i]? with | some (some x) => ue δ M fun y M1 => rd x y M1 fun z M2 => Dd.nx (δ.set i (some z)) M2 | _ => False) := hu
  split at hu'
  · rename_i d ed
    obtain ⟨v, e2, r⟩ := hE.2 i d ed
    refine ⟨v, e2, δ, M, F, _, hE, s, hu', fun y M1 F1 vy H1 q g s1 r1 => ?_⟩
    refine hr _ _ _ _ _ _ _ _ _ (r.mono g.le) r1 s1 q fun z M2 F2 vz H2 q2 g2 s2 r2 => ?_
    exact p.nx _ _ _ _ _ q2 (g.trans g2) s2 ((hE.mono (g.le.trans g2.le)).set r2)
  · exact hu'.elim
theorem ds_par [Ghost] {i j : Nat} {x y : Str} {a b : Expr} {ua : DTA} {px py pt : Pos} {kt k2 : Nat} {pt2 : Pos} (hc : X.calm = true) (hN : X.N.Nodup) (ha : DA X [a, b] ua) (hi : X.N[i]? = some x := by rfl) (hj : X.N[j]? = some y := by rfl) (hij : i ≠ j := by decide)
    (hx : X.env.scope.names.lookup x = some .local := by rfl) (hy : X.env.scope.names.lookup y = some .local := by rfl)
    (hw : swappedStores [.Tuple [.Name x px, .Name y py] kt pt] (.Tuple [a, b] k2 pt2) X.env = pure (some [x, y]) := by rfl)
    (hs : swapsWithSole [.Tuple [.Name x px, .Name y py] kt pt] (.Tuple [a, b] k2 pt2) pos.line X.env = pure false := by rfl) :
    DS X (.Assign [.Tuple [.Name x px, .Name y py] kt pt] (.Tuple [a, b] k2 pt2) pos) (dPar i j ua) := PS.weak (ps_par hc hN hi hj hij hx hy ha hw hs) fun D σ H h => by
  obtain ⟨δ, M, F, Dd, hE, s, hu, p⟩ := h
  refine ⟨δ, M, F, _, hE, s, hu, fun ds M1 F1 vs H1 q g s1 r => ?_⟩
  split at q
  · rename_i v w
    obtain ⟨v1, v2, e, r1, r2⟩ := r.two
    exact ⟨v1, v2, e, p.nx _ _ _ _ _ q g s1 (((hE.mono g.le).set r1).set r2)⟩
  · exact q.elim
theorem ds_while [Ghost] {c : Expr} {body : List Stmt} {tc : DTT} {tb : DTS} (hp : PassesOwn (model X.prog X.w) X.A X.env X.xe) (hc : DT X c tc) (hb : DSs X body tb) : DS X (.While c body [] pos) (dWhile tc tb) := PS.weak (ps_while hp hc hb) fun D σ H h => by
  obtain ⟨δ, M, F, Dd, hE, s, ⟨W, ⟨m, w0⟩, turn⟩, p⟩ := h
  refine ⟨fun m σ' H' => ∃ δ' M' F', W m δ' M' ∧ ERel X.K F' δ' σ' ∧ Sv X.K H' F' M' ∧ Go H F M H' F' M', ⟨m, δ, M, F, w0, hE, s, Go.refl⟩, ?_⟩
  rintro m σ1 H1 ⟨δ1, M1, F1, w1, e1, s1, g1⟩
  refine ⟨δ1, M1, F1, _, e1, s1, turn m δ1 M1 w1, fun b M2 F2 H2 q g2 s2 => ?_⟩
  cases b with
  | false =>
    rw [if_neg Bool.false_ne_true]
    exact p.nx _ _ _ _ _ q (g1.trans g2) s2 (e1.mono g2.le)
  | true =>
    rw [if_pos rfl]
    refine ⟨fun σ' H' => ∃ m', m' < m ∧ ∃ δ' M' F', W m' δ' M' ∧ ERel X.K F' δ' σ' ∧ Sv X.K H' F' M' ∧ Go H F M H' F' M', fun σ' H' z => z, ?_⟩
    refine ⟨δ1, M2, F2, _, e1.mono g2.le, s2, q, ⟨?_, p.rt.go (g1.trans g2), p.nx.go (g1.trans g2), ?_⟩⟩
    · intro δ3 M3 F3 σ3 H3 ⟨m', hm, w3⟩ g3 s3 e3
      exact ⟨m', hm, δ3, M3, F3, w3, e3, s3, (g1.trans g2).trans g3⟩
    · intro δ3 M3 F3 σ3 H3 ⟨m', hm, w3⟩ g3 s3 e3
      exact ⟨m', hm, δ3, M3, F3, w3, e3, s3, (g1.trans g2).trans g3⟩
end
/-! += -/
def dIAdd : DR2
  | .int i, .int j, M, Q => Q (.int (i + j)) M
  | .str a, .str b, M, Q => a.length + b.length ≤ sizeLine ∧ Q (.str (a ++ b)) M
  | _, _, _, _ => False
def rIAdd : R2 := fun x y H Q => (rI0 (fun i j => .int (i + j))) x y H Q ∨ (∃ i j, x = .str i ∧ y = .str j ∧ i.length + j.length ≤ sizeLine ∧ Q (.str (i ++ j)) H)
theorem pip_add {X : Cx} : PIp X .Add rIAdd := fun pins s σ H x y v u Q I rx ry h => OpR.or iop_add iop_add_str pins s σ H x y v u Q I rx ry h
theorem pip_sub {X : Cx} : PIp X .Sub (rI0 fun i j => .int (i - j)) := fun pins s σ H x y v u Q I rx ry h => iop_sub pins s σ H x y v u Q I rx ry h
theorem rel_iadd [Ghost] {K : PySem.W.Frag} : Rel2 K rIAdd dIAdd := by
  intro x y vx vy H F M Qd Q rx ry s h po
  unfold dIAdd at h
  split at h
  · unfold Rp at rx ry
    exact .inl ⟨_, _, rx, ry, po.fin s h (by unfold Rp; rfl)⟩
  · unfold Rp at rx ry
    obtain ⟨hl, h⟩ := h
    exact .inr ⟨_, _, rx, ry, by rw [mkS_len, mkS_len]; exact hl, po.fin s h (by unfold Rp; rw [mkS_app])⟩
  · exact h.elim
/-! o[i] = e, o[i] += e -/
def dSetV (o i v : D) (M : Mu) (Q : Mu → Prop) : Prop := match o, i with
  | .ref a, .int k => match M a with
    | some (.lst es) => match ixN es.length k with
      | some j => Q (mset M a (.lst (es.set j v)))
      | none => False
    | _ => False
  | _, _ => False
def PostM [Ghost] (K : PySem.W.Frag) (H F : Hp) (M : Mu) (Qd : Mu → Prop) (Q : Hp → Prop) : Prop := ∀ M' F' H', Qd M' → Go H F M H' F' M' → Sv K H' F' M' → Q H'
theorem rel_setV [Ghost] {K : PySem.W.Frag} {o i v : D} {vo vi vv : V} {H F : Hp} {M : Mu} {Qd : Mu → Prop} {Q : Hp → Prop} (ro : Rp K F o vo) (ri : Rp K F i vi) (rv : Rp K F v vv) (s : Sv K H F M) (h : dSetV o i v M Qd) (po : PostM K H F M Qd Q) : rSetL vo vi vv H Q := by
  unfold dSetV at h
  split at h
  · unfold Rp at ro ri
    subst ro ri
    split at h
    · rename_i es q
      obtain ⟨ho, e2, xs, e3, r2⟩ := s.mu _ _ q
      subst e3
      split at h
      · rename_i j ej
        obtain ⟨s1, g1⟩ := s.wr (o' := .lst (es.set j v)) (ho := .lst (xs.set j vv)) q ⟨_, rfl, r2.set j rv⟩
        exact ⟨_, xs, _, j, rfl, rfl, e2, by rw [← r2.len]; exact ej, po _ _ _ h g1 s1⟩
      · exact h.elim
    · exact h.elim
  · exact h.elim
def dgSub (uo ui : DTE) : DTg := fun v δ M Q => uo δ M fun o M1 => ui δ M1 fun i M2 => dSetV o i v M2 fun M3 => Q δ M3
def dGetM : DR2 := fun o i M Q => match o, i with
  | .ref a, .int k => match M a with
    | some (.lst es) => match atI es k with
      | some d => Q d M
      | none => False
    | _ => False
  | _, _ => False
theorem rel_getM [Ghost] {K : PySem.W.Frag} : Rel2 K (rIxL K) dGetM := by
  intro x y vx vy H F M Qd Q rx ry s h po
  unfold dGetM at h
  split at h
  · unfold Rp at rx ry
    subst rx ry
    split at h
    · rename_i es q
      obtain ⟨ho, e2, xs, e3, r2⟩ := s.mu _ _ q
      subst e3
      split at h
      · rename_i d ed
        obtain ⟨v, e4, r4⟩ := atI_rel r2 ed
        exact ⟨_, xs, _, v, rfl, rfl, .inl (.inl e2), e4, po.fin s h r4⟩
      · exact h.elim
    · exact h.elim
  · exact h.elim
def dAuS (uo ui ue : DTE) (rd : DR2) : DTS := fun D δ M => uo δ M fun o M1 => ui δ M1 fun i M2 => dGetM o i M2 fun x M3 => ue δ M3 fun y M4 => rd x y M4 fun z M5 => dSetV o i z M5 fun M6 => D.nx δ M6
theorem get_list {X : Cx} : PGet X (rIxL X.K) := by
  intro pins s σ H x y v u Q I rx ry h
  obtain ⟨p, xs, i, z, rfl, rfl, hq, he, q⟩ := h
  cases rx
  obtain ⟨t, rfl⟩ := ry
  obtain ⟨its, r, pl, hz⟩ := I.list hq
  obtain ⟨j, h1, h2, h3, h4, h5⟩ := atI_get he
  obtain ⟨w, ew, rw'⟩ := r.get h2
  have hl := r.length
  have hn := line63
  have fin : EP X pins σ Q w s := ⟨z, H, I, rw', q⟩
  by_cases h0 : 0 ≤ i
  · have hj : i.toNat = j := by
      rw [seqIndex_of h0 h5] at h1
      exact Option.some.inj h1
    exact wpAny_getItem_list pl.isList h0 (by omega) (by rw [hj]; simpa using ew) fin
  · have hj : (i + (its.toArray.size : Int)).toNat = j := by
      rw [seqIndex_neg (by omega) h4] at h1
      rw [List.size_toArray, ← hl]
      exact Option.some.inj h1
    exact wpAny_getItem_list_neg pl.isList (by omega) (by rw [List.size_toArray] <;> omega) (by omega) (by rw [hj]; simpa using ew) fin
theorem relg_sub [Ghost] {K : PySem.W.Frag} {vs : List Nat} {uo ui : DTE} : RelG K vs (gSub (lift K uo) (lift K ui) rSetL) (dgSub uo ui) := fun d x δ σ σ0 H F M Qd Q r e s h po w => by
  refine ⟨δ, M, F, _, e, s, h, fun o M1 F1 vo H1 q1 g1 s1 r1 => ?_⟩
  refine ⟨δ, M1, F1, _, e.mono g1.le, s1, q1, fun i M2 F2 vi H2 q2 g2 s2 r2 => ?_⟩
  exact rel_setV (r1.mono g2.le) r2 (r.mono (g1.le.trans g2.le)) s2 q2 fun M3 F3 H3 q3 g3 s3 => po _ _ _ _ _ q3 (g1.trans (g2.trans g3)) s3 (e.mono (g1.le.trans (g2.le.trans g3.le))) w
section
variable {X : Cx} {o i e : Expr} {uo ui ue : DTE} {pos tpos : Pos}
theorem ds_setIx [Ghost] (ho : DE X o uo) (hi : DE X i ui) (he : DE X e ue) (ha : ∀ v, assign (.Subscript o i tpos) X.env v = (do
      let ov ← holding [v] (eval o X.env)
      let iv ← holding [v, ov] (eval i X.env)
      standAt tpos
      holding [v, ov, iv] (setItem ov iv v)
      release [v, ov, iv] []) := by intro _; rfl) (hs : swapsWithSole [.Subscript o i tpos] e pos.line X.env = pure false := by rfl) (hw : swappedStores [.Subscript o i tpos] e X.env = pure none := by rfl)
    (h1 : (assignEach [.Subscript o i tpos] X.env).map (·.2) = [assign (.Subscript o i tpos) X.env] := by rfl) : DS X (.Assign [.Subscript o i tpos] e pos) (dAs ue (dgSub uo ui)) := ds_asg (vs := []) (pg_sub ho hi set_list ha) relg_sub he hs hw h1
theorem ds_augIx [Ghost] {op : Operator} {ti : TIp} {rd : DR2} (hp : PIp X op ti) (hr : Rel2 X.K ti rd) (ho : DE X o uo) (hi : DE X i ui) (he : DE X e ue)
    (ha : ∀ ov iv new, augStore i ov iv new = (do holding [new, ov, iv] (setItem ov iv new); release [new, ov, iv] []; pure .next) := by intros; rfl) : DS X (.AugAssign (.Subscript o i tpos) op e pos) (dAuS uo ui ue rd) := PS.weak (ps_augS ho hi get_list he hp set_list ha) fun D σ H h => by
  obtain ⟨δ, M, F, Dd, hE, s, hu, p⟩ := h
  refine ⟨δ, M, F, _, hE, s, hu, fun od M1 F1 vo H1 q1 g1 s1 r1 => ?_⟩
  refine ⟨δ, M1, F1, _, hE.mono g1.le, s1, q1, fun id M2 F2 vi H2 q2 g2 s2 r2 => ?_⟩
  have ro := r1.mono g2.le
  have e2 := hE.mono (g1.le.trans g2.le)
  refine rel_getM _ _ _ _ _ _ _ _ _ ro r2 s2 q2 fun x M3 F3 vx H3 q3 g3 s3 r3 => ?_
  refine ⟨δ, M3, F3, _, e2.mono g3.le, s3, q3, fun y M4 F4 vy H4 q4 g4 s4 r4 => ?_⟩
  refine hr _ _ _ _ _ _ _ _ _ (r3.mono g4.le) r4 s4 q4 fun z M5 F5 vz H5 q5 g5 s5 r5 => ?_
  exact rel_setV (ro.mono (g3.le.trans (g4.le.trans g5.le))) (r2.mono (g3.le.trans (g4.le.trans g5.le))) r5 s5 q5 fun M6 F6 H6 q6 g6 s6 =>
    p.nx _ _ _ _ _ q6 (g1.trans (g2.trans (g3.trans (g4.trans (g5.trans g6))))) s6 (e2.mono (g3.le.trans (g4.le.trans (g5.le.trans g6.le))))
end
end DL

namespace DL
open PySem PySem.Spec PyProof.Rows L2 TL

/-! ### what is walked: its items, and what must stay true of what may change -/
abbrev DTI := DEnv → Mu → (List D → (Mu → Prop) → Mu → Prop) → Prop
def PostI [Ghost] (K : PySem.W.Frag) (H F : Hp) (M : Mu) (Rd : List D → (Mu → Prop) → Mu → Prop) (R : It → Hp → Prop) : Prop :=
  ∀ ds g M' F' H' J G Y, Rd ds g M' → Go H F M H' F' M' → Sv K H' F' M' → Walk J ds.length G Y →
    (∀ H2 F2 M2, Go H' F' M' H2 F2 M2 → Sv K H2 F2 M2 → g M2 → G H2) →
    (∀ i H1 F1 M1 x H2, i < ds.length → Go H' F' M' H1 F1 M1 → Sv K H1 F1 M1 → g M1 → Y i H1 x H2 → ∃ F2, Sv K H2 F2 M1 ∧ Go H1 F1 M1 H2 F2 M1 ∧ ∃ d, ds[i]? = some d ∧ Rp K F2 d x) → R J H'
def liftI [Ghost] (K : PySem.W.Frag) (u : DTI) : TI := fun σ H R => ∃ δ M F Rd, ERel K F δ σ ∧ Sv K H F M ∧ u δ M Rd ∧ PostI K H F M Rd R
abbrev DI [Ghost] (X : Cx) (tg iter : Expr) (u : DTI) : Prop := PI X tg iter (liftI X.K u)
theorem PI.weak {X : Cx} {tg e : Expr} {t t' : TI} (h : PI X tg e t) (i : ∀ σ H R, t' σ H R → t σ H R) : PI X tg e t' := ⟨fun pins s σ H R I q => h.run pins s σ H R I (i _ _ _ q)⟩
/-- range -/
def rngD (lo : Int) (n : Nat) : List D := (List.range n).map fun k => .int (lo + (k : Nat))
def diR1 (ua : DTA) : DTI := fun δ M R => ua δ M fun ds M1 => match ds with
  | [.int j] => -(2 ^ 62) ≤ j ∧ j < 2 ^ 62 ∧ R (rngD 0 j.toNat) (fun _ => True) M1
  | _ => False
def diR2 (ua : DTA) : DTI := fun δ M R => ua δ M fun ds M1 => match ds with
  | [.int i, .int j] => (-(2 ^ 62) ≤ i ∧ i < 2 ^ 62 ∧ -(2 ^ 62) ≤ j ∧ j < 2 ^ 62) ∧ R (rngD i (j - i).toNat) (fun _ => True) M1
  | _ => False
theorem rngD_len (lo : Int) (n : Nat) : (rngD lo n).length = n := by unfold rngD; rw [List.length_map, List.length_range]
theorem rngD_at {lo : Int} {n i : Nat} (h : i < n) : (rngD lo n)[i]? = some (.int (lo + (i : Nat))) := by
  unfold rngD
  rw [List.getElem?_map, List.getElem?_range h]
  rfl
theorem post_rng [Ghost] {K : PySem.W.Frag} {H F H1 F1 : Hp} {M M1 : Mu} {Rd : List D → (Mu → Prop) → Mu → Prop} {R : It → Hp → Prop} {lo : Int} {n : Nat} (po : PostI K H F M Rd R) (q : Rd (rngD lo n) (fun _ => True) M1) (g : Go H F M H1 F1 M1) (s : Sv K H1 F1 M1) : R (Itr lo n) H1 := by
  refine po (rngD lo n) _ M1 F1 H1 (Itr lo n) (fun _ => True) (YFn fun i => .int (lo + i)) q g s (by rw [rngD_len]; exact walk_range) (fun _ _ _ _ _ _ => trivial) fun i H2 F2 M2 x H3 hi g2 s2 _ y => ?_
  rw [rngD_len] at hi
  obtain ⟨e1, e2⟩ := y
  subst e1 e2
  exact ⟨F2, s2, Go.refl, _, rngD_at hi, by unfold Rp; rfl⟩
section
variable {X : Cx} {tg : Expr} {a b e : Expr} {ua : DTA} {ue : DTE} {p pos : Pos}
theorem di_r1 [Ghost] (hg : Gl X "range") (hm : X.mg "range" = none) (ha : DA X [a] ua) (hs : starEach [a] X.env = [(false, eval a X.env)] := by rfl) : DI X tg (.Call (.Name "range" p) [a] [] pos) (diR1 ua) := PI.weak (pi_range1 hg hm ha hs) fun σ H R h => by
  obtain ⟨δ, M, F, Rd, hE, s, hu, po⟩ := h
  refine ⟨δ, M, F, _, hE, s, hu, fun ds M1 F1 vs H1 q g s1 r => ?_⟩
  split at q
  · obtain ⟨v, e1, r1⟩ := r.one
    unfold Rp at r1
    subst r1
    exact ⟨_, e1, q.1, q.2.1, post_rng po q.2.2 g s1⟩
  · exact q.elim
theorem di_r2 [Ghost] (hg : Gl X "range") (hm : X.mg "range" = none) (ha : DA X [a, b] ua) (hs : starEach [a, b] X.env = [(false, eval a X.env), (false, eval b X.env)] := by rfl) (hs2 : starEach [b] X.env = [(false, eval b X.env)] := by rfl) : DI X tg (.Call (.Name "range" p) [a, b] [] pos) (diR2 ua) := PI.weak (pi_range2 hg hm ha hs hs2) fun σ H R h => by
  obtain ⟨δ, M, F, Rd, hE, s, hu, po⟩ := h
  refine ⟨δ, M, F, _, hE, s, hu, fun ds M1 F1 vs H1 q g s1 r => ?_⟩
  split at q
  · obtain ⟨v, u, e1, r1, r2⟩ := r.two
    unfold Rp at r1 r2
    subst r1 r2
    exact ⟨_, _, e1, q.1, post_rng po q.2 g s1⟩
  · exact q.elim
end
/-! a list, a tuple, a text -/
def iSeq (K : PySem.W.Frag) (tl : TE) : TI := fun σ H R => tl σ H fun x H1 => (∃ a, x = .ref a ∧ (((∃ xs, SqL K H1 a xs) ∧ R (Itl K a) H1) ∨ ((∃ xs, SqT K H1 a xs) ∧ R (Itt K a) H1))) ∨ ∃ z, x = .str z ∧ R (Its z) H1
theorem pi_seq {X : Cx} {tg l : Expr} {te : TE} (hl : PE X l te) : PI X tg l (iSeq X.K te) := by
  refine ⟨fun pins s σ H R I h => ?_⟩
  refine thn (hl.run pins s σ H _ I h) fun v s1 ⟨x, H1, I1, r1, q1⟩ => ?_
  rcases q1 with ⟨a, e, ⟨⟨xs, hq⟩, q⟩ | ⟨⟨xs, hq⟩, q⟩⟩ | ⟨z, e, q⟩
  · subst e
    cases r1
    obtain ⟨its, rv, p, hz⟩ := I1.list hq
    refine wpAny_pyIter_list p.isList ?_
    refine ⟨s1.heap.objs.size, [s1.heap.objs.size], _, _, H1, rfl, I1.kept (t' := s1.toks) fun b o e => Heap.get?_push_of_some _ e, turn_list a _, ⟨_, Heap.get?_push_size _ rfl, rfl, rfl⟩, fun b hb => ?_, q⟩
    have e : b = s1.heap.objs.size := by simpa using hb
    subst e
    exact I1.fpOk (Nat.le_refl _) (I1.hok.fresh (Nat.le_refl _))
  · subst e
    cases r1
    obtain ⟨its, rv, p, hz⟩ := I1.tuple hq
    refine wpAny_pyIter_tuple (show s1.heap.IsTuple a its.toArray from p) ?_
    refine ⟨s1.heap.objs.size, [s1.heap.objs.size], _, _, H1, rfl, I1.kept (t' := s1.toks) fun b o e => Heap.get?_push_of_some _ e, turn_tuple a _, ⟨_, Heap.get?_push_size _ rfl, rfl, rfl⟩, fun b hb => ?_, q⟩
    have e : b = s1.heap.objs.size := by simpa using hb
    subst e
    exact I1.fpOk (Nat.le_refl _) (I1.hok.fresh (Nat.le_refl _))
  · subst e
    obtain ⟨t, rfl⟩ := r1
    cases ha : z.cps.all (· < 128)
    · exact wpAny_pyIter_wide ha (pi_one (tk := s1.toks) I1 _ (turn_str _ z t "str_iterator" (.inr rfl)) ⟨_, Heap.get?_push_size _ rfl, rfl, rfl⟩ q)
    · exact wpAny_pyIter_ascii ha (pi_one (tk := s1.toks) I1 _ (turn_str _ z t "str_ascii_iterator" (.inl rfl)) ⟨_, Heap.get?_push_size _ rfl, rfl, rfl⟩ q)
/-- a list that may change: it must stand as it was at each turn -/
def diSeq (ue : DTE) : DTI := fun δ M R => ue δ M fun d M1 => match d with
  | .tup ds => R ds (fun _ => True) M1
  | .lst ds => R ds (fun _ => True) M1
  | .src ns => R (ns.map .int) (fun _ => True) M1
  | .str cs => R (cs.map fun c => .str [c]) (fun _ => True) M1
  | .ref a => match M1 a with
    | some (.lst ds) => R ds (fun M2 => M2 a = some (.lst ds)) M1
    | _ => False
  | _ => False
theorem di_seq [Ghost] {X : Cx} {tg e : Expr} {ue : DTE} (h : DE X e ue) : DI X tg e (diSeq ue) := PI.weak (pi_seq h) fun σ H R h => by
  obtain ⟨δ, M, F, Rd, hE, s, hu, po⟩ := h
  refine ⟨δ, M, F, _, hE, s, hu, fun d M1 F1 v H1 q g s1 r => ?_⟩
  have stay : ∀ {ds : List D} {xs : List V} {a : Addr} {g' : Mu → Prop}, Rd ds g' M1 → RpL X.K F1 ds xs → (∀ H2 F2 M2, Go H1 F1 M1 H2 F2 M2 → Sv X.K H2 F2 M2 → g' M2 → SqL X.K H2 a xs) → (∀ H2 F2 M2, Go H1 F1 M1 H2 F2 M2 → Sv X.K H2 F2 M2 → g' M2 → True) → SqL X.K H1 a xs → R (Itl X.K a) H1 := fun {ds xs a g'} q r hs _ h0 => by
    refine po ds g' M1 F1 H1 (Itl X.K a) (fun H => SqL X.K H a xs) (YAt xs) q g s1 (by rw [r.len]; exact walk_list) hs fun i H2 F2 M2 x H3 hi g2 s2 _ y => ?_
    obtain ⟨e1, e2⟩ := y
    subst e1
    obtain ⟨d, e3, r3⟩ := (r.mono g2.le).getV e2
    exact ⟨F2, s2, Go.refl, d, e3, r3⟩
  cases d with
  | tup ds =>
    unfold Rp at r
    obtain ⟨a, xs, e1, h1, r1⟩ := r
    subst e1
    refine .inl ⟨a, rfl, .inr ⟨⟨xs, s1.fh.sqT h1⟩, ?_⟩⟩
    refine po ds _ M1 F1 H1 (Itt X.K a) (fun H => SqT X.K H a xs) (YAt xs) q g s1 (by rw [r1.len]; exact walk_tup) (fun H2 F2 M2 g2 s2 _ => s2.fh.sqT (g2.le.sqT h1)) fun i H2 F2 M2 x H3 hi g2 s2 _ y => ?_
    obtain ⟨e1, e2⟩ := y
    subst e1
    obtain ⟨d, e3, r3⟩ := (r1.mono g2.le).getV e2
    exact ⟨F2, s2, Go.refl, d, e3, r3⟩
  | lst ds =>
    unfold Rp at r
    obtain ⟨a, xs, e1, h1, r1⟩ := r
    subst e1
    have hl : SqL X.K F1 a xs := .inl (.inl h1)
    exact .inl ⟨a, rfl, .inl ⟨⟨xs, s1.fh.sqL hl⟩, stay q r1 (fun H2 F2 M2 g2 s2 _ => s2.fh.sqL (g2.le.sqL hl)) (fun _ _ _ _ _ _ => trivial) (s1.fh.sqL hl)⟩⟩
  | src ns =>
    unfold Rp at r
    obtain ⟨a, e1, h1⟩ := r
    subst e1
    exact .inl ⟨a, rfl, .inl ⟨⟨_, s1.fh.sqL h1⟩, stay q RpL.ints (fun H2 F2 M2 g2 s2 _ => s2.fh.sqL (g2.le.sqL h1)) (fun _ _ _ _ _ _ => trivial) (s1.fh.sqL h1)⟩⟩
  | str cs =>
    unfold Rp at r
    subst r
    refine .inr ⟨_, rfl, ?_⟩
    refine po _ _ M1 F1 H1 (Its (mkS cs)) (fun _ => True) _ q g s1 (by rw [List.length_map]; exact walk_str) (fun _ _ _ _ _ _ => trivial) fun i H2 F2 M2 x H3 hi g2 s2 _ y => ?_
    obtain ⟨e1, c, e2, e3⟩ := y
    subst e1 e3
    refine ⟨F2, s2, Go.refl, .str [c], ?_, by unfold Rp; rfl⟩
    rw [List.getElem?_map]
    have e4 : cs[i]? = some c := by simpa [mkS] using e2
    rw [e4]
    rfl
  | ref a =>
    unfold Rp at r
    subst r
    have q' : (match M1 a with | some (.lst ds) => Rd ds (fun M2 => M2 a = some (.lst ds)) M1 | _ => False) := q
    split at q'
    · rename_i ds e
      obtain ⟨ho, e2, xs, e3, r2⟩ := s1.mu a _ e
      subst e3
      refine .inl ⟨a, rfl, .inl ⟨⟨xs, .inl (.inl e2)⟩, ?_⟩⟩
      have w : Walk (Itl X.K a) ds.length (fun H => ∃ ys, SqL X.K H a ys ∧ ys.length = ds.length) (fun i H x H' => H' = H ∧ ∀ ys, SqL X.K H a ys → ys[i]? = some x) :=
        ⟨fun i _ hi ⟨ys, h1, h2⟩ => ⟨ys, ys[i]'(by omega), h1, by simp [show i < ys.length by omega]⟩, fun _ ⟨ys, h1, h2⟩ => ⟨ys, h1, by omega⟩, fun _ _ _ _ _ _ y => y⟩
      refine po ds _ M1 F1 H1 (Itl X.K a) _ _ q' g s1 w (fun H2 F2 M2 g2 s2 e4 => ?_) fun i H2 F2 M2 x H3 hi g2 s2 e4 y => ?_
      · obtain ⟨ho, e5, ys, e6, r6⟩ := s2.mu a _ e4
        subst e6
        exact ⟨ys, .inl (.inl e5), r6.len.symm⟩
      · obtain ⟨ho, e5, ys, e6, r6⟩ := s2.mu a _ e4
        subst e6
        obtain ⟨e1, e7⟩ := y
        subst e1
        obtain ⟨d, e3, r3⟩ := r6.getV (e7 ys (.inl (.inl e5)))
        exact ⟨F2, s2, Go.refl, d, e3, r3⟩
    · exact q'.elim
  | _ => exact q.elim

/-! ### for -/
def dForGo (g : Mu → Prop) (tg : DTg) (b : DTS) (E : DEnds) : List D → DEnv → Mu → Prop
  | [], δ, M => g M ∧ E.nx δ M
  | x :: xs, δ, M => g M ∧ tg x δ M fun δ' M' => b { E with nx := dForGo g tg b E xs, ct := dForGo g tg b E xs, bk := E.nx } δ' M'
def dFor (di : DTI) (tg : DTg) (b : DTS) : DTS := fun D δ M => di δ M fun ds g M1 => dForGo g tg b D ds δ M1
theorem drop_at {α : Type} {l : List α} {i : Nat} {d : α} (h : l[i]? = some d) : l.drop i = d :: l.drop (i + 1) := by
  obtain ⟨h1, h2⟩ := List.getElem?_eq_some_iff.mp h
  rw [List.drop_eq_getElem_cons h1, h2]
theorem ds_for [Ghost] {X : Cx} {tg iter : Expr} {body : List Stmt} {di : DTI} {g : TG} {dg : DTg} {tb : DTS} {vs : List Nat} {pos : Pos} (hp : PassesOwn (model X.prog X.w) X.A X.env X.xe) (hc : X.calm = true) (hi : DI X tg iter di) (hg : PG X tg g) (hr : RelG X.K vs g dg) (hb : DSs X body tb)
    (hs : ∀ x, foldedSetIterable iter X.env x = pure x := by intro _; rfl) : DS X (.For tg iter body [] pos) (dFor di dg tb) := PS.weak (ps_for hp hc hi hg hb hs) fun D σ H h => by
  obtain ⟨δ, M, F, Dd, hE, s, hu, p⟩ := h
  refine ⟨δ, M, F, _, hE, s, hu, fun ds gd M1 F1 H1 J G Y q g1 s1 w hG hY => ?_⟩
  refine for_it w (fun i σ' H' => ∃ δ' M' F', dForGo gd dg tb Dd (ds.drop i) δ' M' ∧ ERel X.K F' δ' σ' ∧ Sv X.K H' F' M' ∧ Go H1 F1 M1 H' F' M') ⟨δ, M1, F1, q, hE.mono g1.le, s1, Go.refl⟩ ?_ ?_ ?_
  · rintro i σ' H' hi ⟨δ', M', F', q', e', s', g'⟩
    refine hG H' F' M' g' s' ?_
    cases hd : ds.drop i with
    | nil => rw [hd] at q'; exact q'.1
    | cons x xs => rw [hd] at q'; exact q'.1
  · rintro i x σ' H' H2 hi ⟨δ', M', F', q', e', s', g'⟩ y
    have hgd : gd M' := by
      cases hd : ds.drop i with
      | nil => rw [hd] at q'; exact q'.1
      | cons x xs => rw [hd] at q'; exact q'.1
    obtain ⟨F2, s2, g2, d, e2, r2⟩ := hY i H' F' M' x H2 hi g' s' hgd y
    rw [drop_at e2] at q'
    refine hr d x δ' σ' σ' H2 F2 M' _ _ r2 (e'.mono g2.le) s2 q'.2 (fun δ3 M3 F3 σ3 H3 q3 g3 s3 e3 _ => ?_) rfl
    have gg := (g'.trans g2).trans g3
    refine ⟨δ3, M3, F3, _, e3, s3, q3, ⟨?_, p.rt.go (g1.trans gg), p.nx.go (g1.trans gg), ?_⟩⟩
    · intro δ4 M4 F4 σ4 H4 q4 g4 s4 e4
      exact ⟨δ4, M4, F4, q4, e4, s4, gg.trans g4⟩
    · intro δ4 M4 F4 σ4 H4 q4 g4 s4 e4
      exact ⟨δ4, M4, F4, q4, e4, s4, gg.trans g4⟩
  · rintro σ' H' ⟨δ', M', F', q', e', s', g'⟩
    rw [List.drop_length] at q'
    exact p.nx _ _ _ _ _ q'.2 (g1.trans g') s' e'

/-! ### comprehensions -/
def dwipe (δ : DEnv) : List Nat → DEnv
  | [] => δ
  | v :: vs => (dwipe δ vs).set v none
theorem ERel.setN {K : PySem.W.Frag} {F : Hp} {δ : DEnv} {σ : L2.St} {i : Nat} (h : ERel K F δ σ) : ERel K F (δ.set i none) (σ.set i none) := by
  refine ⟨by rw [List.length_set, List.length_set]; exact h.1, fun j e hj => ?_⟩
  by_cases hji : i = j
  · subst hji
    by_cases hl : i < δ.length
    · rw [List.getElem?_set_self hl] at hj; cases hj
    · rw [List.getElem?_eq_none (by rw [List.length_set]; omega)] at hj; cases hj
  · rw [List.getElem?_set_ne hji] at hj ⊢
    exact h.2 j e hj
theorem ERel.wipe {K : PySem.W.Frag} {F : Hp} {δ : DEnv} {σ : L2.St} (h : ERel K F δ σ) : ∀ vs : List Nat, ERel K F (dwipe δ vs) (L2.wipe σ vs)
  | [] => h
  | v :: vs => (ERel.wipe h vs).setN
def dLcGo (g : Mu → Prop) (tg : DTg) (tt : DTT) (te : DTE) (δw : DEnv) : List D → List D → Mu → (List D → Mu → Prop) → Prop
  | [], acc, M, Q => g M ∧ Q acc M
  | x :: xs, acc, M, Q => g M ∧ tg x δw M fun δ' M' => tt δ' M' fun b M1 => match b with
    | true => te δ' M1 fun y M2 => acc.length < sizeLine ∧ dLcGo g tg tt te δw xs (acc ++ [y]) M2 Q
    | false => dLcGo g tg tt te δw xs acc M1 Q
def dLc (mu : Bool) (di : DTI) (tg : DTg) (tt : DTT) (te : DTE) (vs : List Nat) : DTE := fun δ M Q => di δ M fun ds g M1 => dLcGo g tg tt te (dwipe δ vs) ds [] M1 fun acc M2 => dNew mu acc M2 Q
def dYes : DTT := fun _ M Q => Q true M
abbrev DPs [Ghost] (X : Cx) (ifs : List Expr) (t : DTT) : Prop := PTs X ifs (liftT X.K t)
theorem dps_nil [Ghost] {X : Cx} : DPs X [] dYes := ⟨fun pins s σ H Q I h => by
  obtain ⟨δ, M, F, Qd, hE, sv, hu, p⟩ := h
  exact pts_nil.run pins s σ H Q I (p _ _ _ _ hu Go.refl sv)⟩
theorem dps_one [Ghost] {X : Cx} {c : Expr} {t : DTT} (h : DT X c t) : DPs X [c] t := pts_one h
theorem lc_rel [Ghost] {K : PySem.W.Frag} {mu : Bool} {di : DTI} {g : TG} {dg : DTg} {tt : DTT} {te : DTE} {vs : List Nat} (hr : RelG K vs g dg) : ∀ σ H Q, lift K (dLc mu di dg tt te vs) σ H Q → tLc (liftI K di) g (liftT K tt) (lift K te) vs σ H Q := fun σ H Q h => by
  obtain ⟨δ, M, F, Qd, hE, s, hu, p⟩ := h
  refine ⟨δ, M, F, _, hE, s, hu, fun ds gd M1 F1 H1 J G Y q g1 s1 w hG hY => ?_⟩
  intro D hD
  have fr := s1.fresh hD
  -- the list that is made: hidden
  have s0' : Sv0 K (upd H1 D (.lst [])) F1 M1 := by
    refine ⟨fun b o e => ?_, s1.fm, fun a o e => ?_⟩
    · rw [upd_ne (ne_of_none e fr.1)]; exact s1.fh b o e
    · obtain ⟨ho, e2, r2⟩ := s1.mu a o e
      exact ⟨ho, by rw [upd_ne (ne_of_none e2 hD)]; exact e2, r2⟩
  have g1' : Go H1 F1 M1 (upd H1 D (.lst [])) F1 M1 := ⟨Le.refl _, fun b o e m => ⟨by rw [upd_ne (ne_of_none e hD)]; exact e, m, fun z => z⟩⟩
  have s1' : Sv K (upd H1 D (.lst [])) F1 M1 := (svgo s1 s0' g1').1
  refine lc_it w (fun i H' => ∃ M' F' acc xs, dLcGo gd dg tt te (dwipe δ vs) (ds.drop i) acc M' (fun acc M2 => dNew mu acc M2 Qd) ∧ Sv K H' F' M' ∧ Go H1 F1 M1 H' F' M' ∧ H' D = some (.lst xs) ∧ M' D = none ∧ F' D = none ∧ RpL K F' acc xs)
    ⟨M1, F1, [], [], q, s1', g1', upd_same, fr.2, fr.1, RpL.nil⟩ ?_ ?_ ?_
  · rintro i H' hi ⟨M', F', acc, xs, q', s', g', eD, mD, fD, r⟩
    refine hG H' F' M' g' s' ?_
    cases hd : ds.drop i with
    | nil => rw [hd] at q'; exact q'.1
    | cons x xs => rw [hd] at q'; exact q'.1
  · rintro i x H' H2 hi ⟨M', F', acc, xs, q', s', g', eD, mD, fD, r⟩ y
    have hgd : gd M' := by
      cases hd : ds.drop i with
      | nil => rw [hd] at q'; exact q'.1
      | cons x xs => rw [hd] at q'; exact q'.1
    obtain ⟨F2, s2, g2, d, e2, r2⟩ := hY i H' F' M' x H2 hi g' s' hgd y
    rw [drop_at e2] at q'
    have ew : ERel K F2 (dwipe δ vs) (L2.wipe σ vs) := (hE.mono (g1.le.trans (g'.le.trans g2.le))).wipe vs
    refine hr d x _ _ (L2.wipe σ vs) H2 F2 M' _ _ r2 ew s2 q'.2 (fun δ3 M3 F3 σ3 H3 q3 g3 s3 e3 w3 => ⟨?_, ?_⟩) rfl
    · rw [w3]
      clear q q' hG hY
      refine List.ext_getElem? fun j => ?_
      by_cases hj : j ∈ vs
      · by_cases hl : j < σ.length
        · rw [wipe_in hj (by rw [wipe_length]; exact hl), wipe_in hj hl]
        · rw [List.getElem?_eq_none (by rw [wipe_length, wipe_length]; omega), List.getElem?_eq_none (by rw [wipe_length]; omega)]
      · rw [wipe_out hj]
    · refine ⟨δ3, M3, F3, _, e3, s3, q3, fun b M4 F4 H4 q4 g4 s4 => ?_⟩
      cases b with
      | false =>
        rw [if_neg Bool.false_ne_true]
        have gg := (g2.trans g3).trans g4
        obtain ⟨h1, h2, h3⟩ := gg.kp D _ eD mD
        exact ⟨M4, F4, acc, xs, q4, s4, g'.trans gg, h1, h2, h3 fD, r.mono gg.le⟩
      | true =>
        rw [if_pos rfl]
        refine ⟨δ3, M4, F4, _, e3.mono g4.le, s4, q4, fun z M5 F5 v H5 q5 g5 s5 r5 => ?_⟩
        have gg := ((g2.trans g3).trans g4).trans g5
        obtain ⟨h1, h2, h3⟩ := gg.kp D _ eD mD
        have rr := r.mono gg.le
        have hD5 : H1 D = none := hD
        have g6 := g'.trans gg
        suffices zz : Sv0 K (upd H5 D (.lst (xs ++ [v]))) F5 M5 ∧ Go H1 F1 M1 (upd H5 D (.lst (xs ++ [v]))) F5 M5 from
          ⟨xs, h1, by rw [← r.len]; exact q5.1, M5, F5, acc ++ [z], xs ++ [v], q5.2, (svgo s1 zz.1 zz.2).1, zz.2, upd_same, h2, h3 fD, rr.snoc r5⟩
        refine ⟨?_, ?_⟩
        · refine ⟨fun b o e => ?_, s5.fm, fun a o e => ?_⟩
          · rw [upd_ne (fun z => by rw [z, h3 fD] at e; cases e)]; exact s5.fh b o e
          · obtain ⟨ho, e2, r2⟩ := s5.mu a o e
            exact ⟨ho, by rw [upd_ne (fun z => by rw [z, h2] at e; cases e)]; exact e2, r2⟩
        · refine ⟨g6.le, fun b o e m => ?_⟩
          obtain ⟨k1, k2, k3⟩ := g6.kp b o e m
          exact ⟨by rw [upd_ne (ne_of_none e hD5)]; exact k1, k2, k3⟩
  · rintro H' ⟨M', F', acc, xs, q', s', g', eD, mD, fD, r⟩
    rw [List.drop_length] at q'
    have po := p.go g1
    have q2 := q'.2
    have nD : ∀ b o, H1 b = some o → b ≠ D := fun b o e => ne_of_none e hD
    cases mu with
    | false =>
      have l : Le F' (upd F' D (.lst xs)) := Le.new fD
      suffices zz : Go H1 F1 M1 H' (upd F' D (.lst xs)) M' ∧ Sv0 K H' (upd F' D (.lst xs)) M' ∧ Rp K (upd F' D (.lst xs)) (.lst acc) (.ref D) from
        po _ M' (upd F' D (.lst xs)) _ _ q2 zz.1 (svgo s1 zz.2.1 zz.1).1 zz.2.2
      refine ⟨⟨g'.le.trans l, fun b o e m => ?_⟩, ⟨fun b o e => ?_, fun b o e => ?_, fun a o e => ?_⟩, ?_⟩
      · obtain ⟨k1, k2, k3⟩ := g'.kp b o e m
        exact ⟨k1, k2, fun z => by rw [upd_ne (nD b o e)]; exact k3 z⟩
      · by_cases hb : b = D
        · subst hb; rw [upd_same] at e; cases e; exact eD
        · rw [upd_ne hb] at e; exact s'.fh b o e
      · by_cases hb : b = D
        · subst hb; exact mD
        · rw [upd_ne hb] at e; exact s'.fm b o e
      · obtain ⟨ho, e2, r2⟩ := s'.mu a o e
        exact ⟨ho, e2, r2.mono l⟩
      · unfold Rp
        exact ⟨D, xs, rfl, upd_same, r.mono l⟩
    | true =>
      suffices zz : Go H1 F1 M1 H' F' (mset M' D (.lst acc)) ∧ Sv0 K H' F' (mset M' D (.lst acc)) from
        po _ (mset M' D (.lst acc)) F' _ _ (q2 D mD) zz.1 (svgo s1 zz.2 zz.1).1 (by unfold Rp; rfl)
      refine ⟨⟨g'.le, fun b o e m => ?_⟩, ⟨s'.fh, fun b o e => ?_, fun a o e => ?_⟩⟩
      · obtain ⟨k1, k2, k3⟩ := g'.kp b o e m
        exact ⟨k1, by rw [mset_ne (nD b o e)]; exact k2, k3⟩
      · rw [mset_ne (fun z => by rw [z, fD] at e; cases e)]; exact s'.fm b o e
      · by_cases ha : a = D
        · subst ha
          rw [mset_same] at e
          cases e
          exact ⟨_, eD, xs, rfl, r⟩
        · rw [mset_ne ha] at e
          exact s'.mu a o e
section
variable {X : Cx} {elt tg iter : Expr} {ifs : List Expr} {scope : Scope} {own : List (Str × Nat)} {pos : Pos} {di : DTI} {g : TG} {dg : DTg} {tt : DTT} {te : DTE}
theorem de_lc [Ghost] (mu : Bool) (hc : X.calm = true) (hN : X.N.Nodup) (hi : DI X tg iter di) (ok : BlkOk X.N X.env.scope scope own) (hr : RelG X.K (own.map (·.2)) g dg)
    (hg : ∀ (s : Shared) (H : Hp) (C : Addr) (cl : List (Str × Addr)) (fp : List Addr), PG (X.blk s H scope (compEnvC scope cl C X.env) fp) tg g) (ht : ∀ (s : Shared) (H : Hp) (C : Addr) (cl : List (Str × Addr)) (fp : List Addr), DPs (X.blk s H scope (compEnvC scope cl C X.env) fp) ifs tt)
    (he : ∀ (s : Shared) (H : Hp) (C : Addr) (cl : List (Str × Addr)) (fp : List Addr), DE (X.blk s H scope (compEnvC scope cl C X.env) fp) elt te) (hs : ∀ x, foldedSetIterable iter X.env x = pure x := by intro _; rfl) :
    DE X (.ListComp elt [⟨tg, iter, ifs, 0⟩] scope pos) (dLc mu di dg tt te (own.map (·.2))) := PE.weak (pe_lc hc hN hi ok hg ht he hs) (lc_rel hr)
theorem ds_setLc [Ghost] (mu : Bool) {i : Nat} {y : Str} {py : Pos} {spos : Pos} (hc : X.calm = true) (hN : X.N.Nodup) (hi : DI X tg iter di) (ok : BlkOk X.N X.env.scope scope own) (hr : RelG X.K (own.map (·.2)) g dg)
    (hg : ∀ (s : Shared) (H : Hp) (C : Addr) (cl : List (Str × Addr)) (fp : List Addr), PG (X.blk s H scope (compEnvC scope cl C X.env) fp) tg g) (ht : ∀ (s : Shared) (H : Hp) (C : Addr) (cl : List (Str × Addr)) (fp : List Addr), DPs (X.blk s H scope (compEnvC scope cl C X.env) fp) ifs tt)
    (he : ∀ (s : Shared) (H : Hp) (C : Addr) (cl : List (Str × Addr)) (fp : List Addr), DE (X.blk s H scope (compEnvC scope cl C X.env) fp) elt te)
    (hsw : swapsWith (.ListComp elt [⟨tg, iter, ifs, 0⟩] scope pos) (some (.Name y py)) spos.line X.env = pure true) (hy : X.N[i]? = some y := by rfl) (hyl : X.env.scope.names.lookup y = some .local := by rfl) (hs : ∀ x, foldedSetIterable iter X.env x = pure x := by intro _; rfl) :
    DS X (.Assign [.Name y py] (.ListComp elt [⟨tg, iter, ifs, 0⟩] scope pos) spos) (dAs (dLc mu di dg tt te (own.map (·.2))) (dgN i)) := PS.weak (ps_setLc hc hN hy hyl hsw hi ok hg ht he hs) fun D σ H h => by
  obtain ⟨δ, M, F, Dd, hE, s, hu, p⟩ := h
  exact lc_rel hr σ H _ ⟨δ, M, F, _, hE, s, hu, fun d M' F' v H' q g s' r => p.nx _ _ _ _ _ q g s' ((hE.mono g.le).set r)⟩
end

/-! ### defs -/
/-- an exception: the name of its class, its fields -/
structure DX where
  cls : Str
  ns : List Str
  ds : List D
abbrev DXK := DX → Mu → Prop
abbrev DSp := List D → Mu → DK → DXK → Prop
/-- a class of the module -/
def clA (K : PySem.W.Frag) (c : Str) : Addr := He.ga K c
/-- x's dict stands at d, among what stays -/
def RpX (K : PySem.W.Frag) (F : Hp) (x : DX) (d : Option Addr) : Prop := ∃ a vs, d = some a ∧ F a = some (.xd (x.ns.zip vs)) ∧ x.ns.length = vs.length ∧ RpL K F x.ds vs
def PostX [Ghost] (K : PySem.W.Frag) (H F : Hp) (M : Mu) (Ed : DXK) (E : XK) : Prop := ∀ x M' F' d H', Ed x M' → Go H F M H' F' M' → Sv K H' F' M' → RpX K F' x d → E (.ref (clA K x.cls)) d H'
theorem PostX.go [Ghost] {K : PySem.W.Frag} {H F H1 F1 : Hp} {M M1 : Mu} {Ed : DXK} {E : XK} (p : PostX K H F M Ed E) (g : Go H F M H1 F1 M1) : PostX K H1 F1 M1 Ed E := fun x M' F' d H' q g' s r => p x M' F' d H' q (g.trans g') s r
abbrev dX0 : DXK := fun _ _ => False
theorem Post.re {G G' : Ghost} {K : PySem.W.Frag} {H F : Hp} {M : Mu} {Qd : DK} {Q : VK} (s : @Sv G K H F M) (p : @Post G K H F M Qd Q) : @Post G' K H F M Qd Q := fun d M' F' v H' q g s' r => p d M' F' v H' q g (@svgo G _ _ _ _ _ _ _ s s'.toSv0 g).1 r
theorem post0 [Ghost] {K : PySem.W.Frag} {H F : Hp} {M : Mu} {E : XK} : PostX K H F M dX0 E := fun _ _ _ _ _ q _ _ _ => q.elim
def liftSpG [Ghost] (K : PySem.W.Frag) (sp : DSp) : Sp := fun vs H Q E => ∃ ds M F Qd Ed, RpL K F ds vs ∧ Sv K H F M ∧ sp ds M Qd Ed ∧ Post K H F M Qd Q ∧ PostX K H F M Ed E
/-- .. where nothing is remembered -/
abbrev liftSp (K : PySem.W.Frag) (sp : DSp) : Sp := @liftSpG gh0 K sp
/-- a call of a def whose promise is sp; ds: the defaults that fill up -/
def dCall (sp : DSp) (dds : List D) (E : DXK) (ua : DTA) : DTE := fun δ M Q => ua δ M fun ds M1 => sp (ds ++ dds) M1 Q E
section
variable {X : Cx} {CX : CXT} {k : Nat} {f : Addr} {fd : FuncData} {ps : List Str} {sp : DSp} {dvs : List V} {dds : List D} {ds : List Value} {x : Str} {p pos : Pos} {e : Expr} {es : List Expr} {ua : DTA}
theorem call_rel [Ghost] (hd : ∀ F, RpL X.K F dds dvs) : ∀ σ H Q, lift X.K (dCall sp dds dX0 ua) σ H Q → tCall (liftSp X.K sp) dvs E0 (liftA X.K ua) σ H Q := fun σ H Q h => by
  obtain ⟨δ, M, F, Qd, hE, s, hu, p⟩ := h
  exact ⟨δ, M, F, _, hE, s, hu, fun ds M1 F1 vs H1 q g s1 r => ⟨_, M1, F1, Qd, dX0, r.app (hd F1), s1.re gh0 trivial, q, (p.go g).re s1, @post0 gh0 _ _ _ _ _⟩⟩
/-- f(e, ..), nothing is raised -/
theorem de_call [Ghost] (F : FnOk X.prog X.w X.K X.mg X.base CX0 k f fd ps (liftSp X.K sp)) (hr : Room k X.A) (hm : X.mg x = some (.ref f)) (hk : PySem.W.keepIn X.K (.ref f) = true) (hb : Binds X.K fd ps ds) (hd : Vals dvs ds) (hdd : ∀ F, RpL X.K F dds dvs)
    (ha : DA X (e :: es) ua) (hg : Gl X x := by rfl) (hdb : (x == ("__debug__" : Str)) = false := by decide) (he : starEach (e :: es) X.env = (false, eval e X.env) :: starEach es X.env := by rfl) (hpl : (backTo pos (starEach es X.env)).any (·.1) = false := by rfl) :
    DE X (.Call (.Name x p) (e :: es) [] pos) (dCall sp dds dX0 ua) := PE.weak (pe_call F hr hg hm hk hb hd pass0 ha hdb he hpl) (call_rel hdd)
theorem de_call0 [Ghost] (F : FnOk X.prog X.w X.K X.mg X.base CX0 k f fd ps (liftSp X.K sp)) (hr : Room k X.A) (hm : X.mg x = some (.ref f)) (hk : PySem.W.keepIn X.K (.ref f) = true) (hb : Binds X.K fd ps ds) (hd : Vals dvs ds) (hdd : ∀ F, RpL X.K F dds dvs)
    (hg : Gl X x := by rfl) (hdb : (x == ("__debug__" : Str)) = false := by decide) :
    DE X (.Call (.Name x p) [] [] pos) (dCall sp dds dX0 dNil) := PE.weak (pe_call0 F hr hg hm hk hb hd pass0 hdb) fun σ H Q h => by
  obtain ⟨δ, M, F, Qd, hE, s, hu, p⟩ := call_rel hdd σ H Q h
  exact p _ _ _ _ _ hu Go.refl s RpL.nil
end
/-- what a def's body is to reach -/
def dEnd (Q : DK) : DEnds := { nx := fun _ M => Wq Q .non M, rt := Wq Q }
def dstart (n : Nat) (ds : List D) : DEnv := ds.map some ++ List.replicate (n - ds.length) none
/-- THE RULE: a def that raises nothing, by its body's reading t -/
theorem dfn {P : Program} {w : World} {K : PySem.W.Frag} {mg : Str → Option Value} {base : Heap} {x qual : Str} {params : Arguments} {body : List Stmt} {scope : Scope} {dvs : List V} {kws : List (Str × V)} {f : Addr} {fd : FuncData} {N ps : List Str} {k : Nat} {sp : DSp} {t : DTS}
    (Fd : FunD K x qual params body scope dvs kws f fd) (S : FnScope N ps scope) (len : ∀ ds M Q E, sp ds M Q E → ds.length = ps.length)
    (hb : ∀ (cdv : Value) (A : Around) (outer : List Env) (s : Shared) (H : Hp) (E : XK), Room k (A.deeper (envOfC qual scope s.heap.objs.size f cdv)) → @DSs gh0 (cxOf CX0 P w K mg base N qual scope f cdv A outer s H E).nox body t)
    (hs : ∀ ds M Q E, sp ds M Q E → t (dEnd Q) (dstart N.length ds) M) : FnOk P w K mg base CX0 (k + 1) f fd ps (liftSp K sp) := by
  refine Fd.ok S (fun vs H Q E h => ?_) (fun cdv A outer s H vs Q E hr h => ⟨@liftS gh0 K t, PSs.nox (hb cdv A outer s H E hr), ?_⟩)
  · obtain ⟨ds, M, F, Qd, Ed, r, _, h, _⟩ := h
    rw [← r.len]
    exact len _ _ _ _ h
  · obtain ⟨ds, M, F, Qd, Ed, r, sv, h, po, px⟩ := h
    let _i : Ghost := gh0
    have pe : PostS K H F M (dEnd Qd) { nx := fun _ H' => Q .non H', rt := Q } := ⟨fun δ' M' F' σ' H' q g s' e => po.wq _ _ _ _ _ q g s' (by unfold Rp; rfl), po.wq, fun _ _ _ _ _ q => q.elim, fun _ _ _ _ _ q => q.elim⟩
    exact ⟨dstart N.length ds, M, F, dEnd Qd, ERel.start r, sv, hs ds M Qd Ed h, pe⟩
end DL

namespace DL
open PySem PySem.Spec PyProof.Rows L2 TL

/-! ### defs and constants of the module by their names -/
/-- the def x stands there, as the text says -/
def DefAt (K : PySem.W.Frag) (mg : Str → Option Value) (x : Str) (st : Stmt) : Prop := ∃ f fd, FunD K x x (defArgs st) (defBody st) (defScope st) [] [] f fd ∧ mg x = some (.ref f)
/-- the def x may be called with this promise -/
def Cal (P : Program) (w : World) (K : PySem.W.Frag) (mg : Str → Option Value) (base : Heap) (k : Nat) (x : Str) (ps : List Str) (sp : DSp) : Prop :=
  ∃ f fd, FnOk P w K mg base CX0 k f fd ps (liftSp K sp) ∧ mg x = some (.ref f) ∧ PySem.W.keepIn K (.ref f) = true ∧ Binds K fd ps []
theorem Cal.mono {P : Program} {w : World} {K : PySem.W.Frag} {mg : Str → Option Value} {base : Heap} {j k : Nat} {x : Str} {ps : List Str} {sp : DSp} (c : Cal P w K mg base j x ps sp) (h : j ≤ k) : Cal P w K mg base k x ps sp := by
  obtain ⟨f, fd, F, m, kp, b⟩ := c
  exact ⟨f, fd, F.mono h, m, kp, b⟩
/-- a weaker promise -/
theorem Cal.imp {P : Program} {w : World} {K : PySem.W.Frag} {mg : Str → Option Value} {base : Heap} {k : Nat} {x : Str} {ps : List Str} {sp sp' : DSp} (c : Cal P w K mg base k x ps sp) (h : ∀ ds M Q E, sp' ds M Q E → sp ds M Q E) : Cal P w K mg base k x ps sp' := by
  obtain ⟨f, fd, F, m, kp, b⟩ := c
  refine ⟨f, fd, F.imp fun vs H Q E q => ?_, m, kp, b⟩
  obtain ⟨ds, M, F, Qd, Ed, r, s, q, p1, p2⟩ := q
  exact ⟨ds, M, F, Qd, Ed, r, s, h _ _ _ _ q, p1, p2⟩
section
variable {X : Cx} {k : Nat} {ps : List Str} {sp : DSp} {x : Str} {p pos : Pos} {e : Expr} {es : List Expr} {ua : DTA}
theorem de_cal [Ghost] (C : Cal X.prog X.w X.K X.mg X.base k x ps sp) (hr : Room k X.A) (ha : DA X (e :: es) ua) (hg : Gl X x := by rfl) (hdb : (x == ("__debug__" : Str)) = false := by decide)
    (he : starEach (e :: es) X.env = (false, eval e X.env) :: starEach es X.env := by rfl) (hpl : (backTo pos (starEach es X.env)).any (·.1) = false := by rfl) : DE X (.Call (.Name x p) (e :: es) [] pos) (dCall sp [] dX0 ua) := by
  obtain ⟨f, fd, F, m, kp, b⟩ := C
  exact de_call F hr m kp b .nil (fun _ => RpL.nil) ha hg hdb he hpl
theorem de_cal0 [Ghost] (C : Cal X.prog X.w X.K X.mg X.base k x ps sp) (hr : Room k X.A) (hg : Gl X x := by rfl) (hdb : (x == ("__debug__" : Str)) = false := by decide) : DE X (.Call (.Name x p) [] [] pos) (dCall sp [] dX0 dNil) := by
  obtain ⟨f, fd, F, m, kp, b⟩ := C
  exact de_call0 F hr m kp b .nil (fun _ => RpL.nil) hg hdb
end
/-- THE RULE -/
theorem cal_of {P : Program} {w : World} {K : PySem.W.Frag} {mg : Str → Option Value} {base : Heap} {x : Str} {st : Stmt} {N ps : List Str} {k : Nat} {sp : DSp} {t : DTS} (d : DefAt K mg x st) (S : FnScope N ps (defScope st))
    (len : ∀ ds M Q E, sp ds M Q E → ds.length = ps.length)
    (hbind : ∀ (kV doc pm : Value) (an : Option Addr) (cdv ct : Value) (us : List Value), us.length = ps.length → bindArgs (PySem.W.fnOf x x (defArgs st) (defBody st) (defScope st) .none kV doc pm an cdv ct) ⟨us, []⟩ = pure (ps.zip us))
    (hb : ∀ (f : Addr) (cdv : Value) (A : Around) (outer : List Env) (s : Shared) (H : Hp) (E : XK), Room k (A.deeper (envOfC x (defScope st) s.heap.objs.size f cdv)) → @DSs gh0 (cxOf CX0 P w K mg base N x (defScope st) f cdv A outer s H E).nox (defBody st) t)
    (hs : ∀ ds M Q E, sp ds M Q E → t (dEnd Q) (dstart N.length ds) M) : Cal P w K mg base (k + 1) x ps sp := by
  obtain ⟨f, fd, F, m⟩ := d
  exact ⟨f, fd, dfn F S len (hb f) hs, m, F.kp, F.bindsN hbind⟩
/-- a constant of the module -/
def GC (K : PySem.W.Frag) (mg : Str → Option Value) (x : Str) (d : D) : Prop := ∃ u v, mg x = some u ∧ RelV v u ∧ ∀ F, Rp K F d v
theorem de_gc [Ghost] {X : Cx} {x : Str} {pos : Pos} {d : D} (c : GC X.K X.mg x d) (hg : Gl X x := by rfl) (hd : (x == ("__debug__" : Str)) = false := by decide) : DE X (.Name x pos) (dC d) := by
  obtain ⟨u, v, m, r, rp⟩ := c
  exact de_glob hg m r rp hd
/-- an entry of a dict of the module -/
def GD (K : PySem.W.Frag) (mg : Str → Option Value) (w : World) (x key : Str) (d : D) : Prop := ∃ a v, mg x = some (.ref a) ∧ KDct K w a key v ∧ ∀ F, Rp K F d v
theorem de_gd [Ghost] {X : Cx} {x key : Str} {pos p kp : Pos} {j : Nat} {d : D} (c : GD X.K X.mg X.w x key d) (hg : Gl X x := by rfl) (hd : (x == ("__debug__" : Str)) = false := by decide) (hs : PlainIx (.Constant (.str key) j kp) := by intro _ _; rfl) :
    DE X (.Subscript (.Name x p) (.Constant (.str key) j kp) pos) (dC d) := by
  obtain ⟨a, v, m, kd, rp⟩ := c
  refine PE.weak (pe_ix ix_kdict (pe_glob (v := .ref a) hg m rfl hd) pe_str hs) fun σ H Q h => ?_
  obtain ⟨δ, M, F, Qd, hE, s, hu, po⟩ := h
  exact ⟨a, key, v, rfl, rfl, kd, po.fin s hu (rp F)⟩
theorem gc_str {K : PySem.W.Frag} {mg : Str → Option Value} {x z : Str} {cs : List Nat} {t : Tok} (h : mg x = some (.str z t)) (e : z = mkS cs) : GC K mg x (.str cs) := ⟨_, .str z, h, ⟨t, rfl⟩, fun F => by unfold Rp; rw [e]⟩
/-! ### bit_length -/
def dBits (uo : DTE) : DTE := fun δ M Q => uo δ M fun d M1 => match d with
  | .int i => Q (.int (Builtin.Int.intBits i : Nat)) M1
  | _ => False
theorem de_bits [Ghost] {X : Cx} {o : Expr} {uo : DTE} {apos pos : Pos} (ho : DE X o uo) (hbase : attributeBase o "bit_length" X.env (eval o X.env) = eval o X.env := by rfl) (hline : (apos.endLine == pos.line) = true := by rfl) : DE X (.Call (.Attribute o "bit_length" apos) [] [] pos) (dBits uo) := PE.weak (pe_bits ho hbase hline) fun σ H Q h => by
  obtain ⟨δ, M, F, Qd, hE, s, hu, po⟩ := h
  refine ⟨δ, M, F, _, hE, s, hu, fun d M1 F1 v H1 q g s1 r => ?_⟩
  cases d <;> first | exact False.elim q | skip
  unfold Rp at r
  subst r
  exact ⟨_, rfl, po _ _ _ _ _ q g s1 (by unfold Rp; rfl)⟩
/-! ### e.replace of written texts, where a token has been given out -/
open CwR PySem.StrLaws
def dRepl (uo : DTE) (y z : List Nat) : DTE := fun δ M Q => uo δ M fun d M1 => match d with
  | .str cs => cs.length + (cs.length + 1) * z.length ≤ 16777216 ∧ Q (.str (replL y z cs)) M1
  | _ => False
abbrev DET [Ghost] (X : Cx) (e : Expr) (u : DTE) : Prop := PET X e (lift X.K u)
abbrev DSsT [Ghost] (X : Cx) (s : List Stmt) (u : DTS) : Prop := PSsT X s (liftS X.K u)
theorem PET.weak {X : Cx} {e : Expr} {t t' : TE} (h : PET X e t) (i : ∀ σ H Q, t' σ H Q → t σ H Q) : PET X e t' := fun pins s σ H Q h0 I q => h pins s σ H Q h0 I (i _ _ _ q)
theorem PST.weak {X : Cx} {e : Stmt} {t t' : TS} (h : PST X e t) (i : ∀ D σ H, t' D σ H → t D σ H) : PST X e t' := fun pins s σ H D h0 I q => h pins s σ H D h0 I (i _ _ _ q)
theorem det_repl [Ghost] {X : Cx} {o : Expr} {uo : DTE} {j k : Nat} {c0 c1 apos pos : Pos} {y z : Str} (ys zs : List Nat) (ho : DE X o uo) (hy : y = mkS ys := by decide +kernel) (hz : z = mkS zs := by decide +kernel) (hne : 1 ≤ ys.length := by decide) (hyz : (y == z) = false := by decide +kernel)
    (hst : starEach [.Constant (.str y) j c0, .Constant (.str z) k c1] X.env = [(false, eval (.Constant (.str y) j c0) X.env), (false, eval (.Constant (.str z) k c1) X.env)] := by rfl)
    (hbase : attributeBase o "replace" X.env (eval o X.env) = eval o X.env := by rfl) (hline : (apos.endLine == pos.line) = true := by rfl) :
    DET X (.Call (.Attribute o "replace" apos) [.Constant (.str y) j c0, .Constant (.str z) k c1] [] pos) (dRepl uo ys zs) := PET.weak (pet_replC ho hyz hst hbase hline) fun σ H Q h => by
  obtain ⟨δ, M, F, Qd, hE, s, hu, po⟩ := h
  refine ⟨δ, M, F, _, hE, s, hu, fun d M1 F1 v H1 q g s1 r => ?_⟩
  cases d <;> first | exact False.elim q | skip
  unfold Rp at r
  subst r hy hz
  refine ⟨_, rfl, by rw [mkS_len, mkS_len]; exact q.1, po _ _ _ _ _ q.2 g s1 ?_⟩
  unfold Rp
  congr 1
  refine ext_tl ?_
  have e := replace_list (x := mkS (by assumption)) (y := mkS ys) (z := mkS zs) (by rw [mkS_len]; exact hne)
  exact e
theorem dst_ret [Ghost] {X : Cx} {e : Expr} {ue : DTE} {pos : Pos} (he : DET X e ue) : PST X (.Return (some e) pos) (liftS X.K (dRt ue)) := PST.weak (pst_ret he) fun D σ H h => by
  obtain ⟨δ, M, F, Dd, hE, s, hu, p⟩ := h
  exact ⟨δ, M, F, _, hE, s, hu, p.rt⟩
theorem dsst_one [Ghost] {X : Cx} {st : Stmt} {t : DTS} (h : PST X st (liftS X.K t)) : DSsT X [st] t := fun pins s σ H D h0 I q => psst_one h pins s σ H D h0 I q
/-- if a == 8: ..: behind the test a token has been given out -/
theorem ds_ifT [Ghost] {X : Cx} {a : Expr} {i : Int} {j : Nat} {cp pos pos' : Pos} {body : List Stmt} {ua : DTE} {t : DTS} (hu : X.A.units + 64 < cLine) (ha : DE X a ua) (hb : DSsT X body t) : DS X (.If (.Compare a [.Eq] [.Constant (.int i) j cp] pos') body [] pos) (dIfS (dTest (dOp dEq ua (dC (.int i)))) t dNx) := by
  have hc : DT X (.Compare a [.Eq] [.Constant (.int i) j cp] pos') (dTest (dOp dEq ua (dC (.int i)))) := dt_eq hu ha de_int
  refine ⟨fun pins s σ H D I h => ?_⟩
  obtain ⟨δ, M, F, Dd, hE, sv, hu', p⟩ := h
  have h2 : liftT X.K (dTest (dOp dEq ua (dC (.int i)))) σ H (fun b H1 => if b = true then liftS X.K t D σ H1 else liftS X.K dNx D σ H1) := by
    refine ⟨δ, M, F, _, hE, sv, hu', fun d M' F' H' q g s' => ?_⟩
    cases d with
    | true => exact ⟨δ, M', F', Dd, hE.mono g.le, s', q, p.go g⟩
    | false => exact ⟨δ, M', F', Dd, hE.mono g.le, s', q, p.go g⟩
  have h3 := bin2 rel_eq _ _ _ (lift_test h2)
  refine wpAny_If (thn (Q := fun b s1 => 1 ≤ s1.toks ∧ TP X pins σ (fun b H1 => if b = true then liftS X.K t D σ H1 else liftS X.K dNx D σ H1) b s1) ?_ fun d s1 q => ?_)
  · refine wpAny_isTrue_Compare1 (thn (ha.run pins s σ H _ I h3) fun v s1 ⟨x, H1, I1, r1, q1⟩ => ?_) (nomark _)
    obtain ⟨δ2, M2, F2, Qd2, hE2, sv2, hu2, p2⟩ := q1
    have q2 := p2.fin (d := .int i) (v := .int i) sv2 hu2 (by unfold Rp; rfl)
    refine wpAny_Constant_int ?_
    refine wpAny_mono (PySem.wpAny_toks_of (n := 1) (by show 1 ≤ s1.toks + 1; omega) (op_eqAll hu pins _ σ H1 x (.int i) v _ _ (I1.tok _) r1 ⟨_, rfl⟩ q2)) (fun c s3 ⟨hk, z, H3, I3, r3, k, e, q3⟩ => ?_) fun _ _ z => z.2
    subst e
    cases r3
    exact wpAny_truthy_bool ⟨hk, H3, I3, q3⟩
  · obtain ⟨hk, H1, I1, q1⟩ := q
    cases d with
    | true =>
      rw [if_pos rfl] at q1
      exact hb pins s1 σ H1 D hk I1 q1
    | false =>
      rw [if_neg Bool.false_ne_true] at q1
      exact dss_nil.run pins s1 σ H1 D I1 q1
end DL

namespace DL
open PySem PySem.Spec PyProof.Rows L2 TL

/-! ### for, comprehensions: by a word of what is left -/
theorem for_inv {g : Mu → Prop} {tg : DTg} {b : DTS} {E : DEnds} (I : List D → DEnv → Mu → Prop) (hg : ∀ xs δ M, I xs δ M → g M)
    (hs : ∀ x xs δ M (N : DEnv → Mu → Prop), I (x :: xs) δ M → (∀ δ' M', I xs δ' M' → N δ' M') → tg x δ M fun δ' M' => b { E with nx := N, ct := N, bk := E.nx } δ' M')
    (he : ∀ δ M, I [] δ M → E.nx δ M) : ∀ (ds : List D) (δ : DEnv) (M : Mu), I ds δ M → dForGo g tg b E ds δ M
  | [], δ, M, h => ⟨hg _ _ _ h, he _ _ h⟩
  | x :: xs, δ, M, h => ⟨hg _ _ _ h, hs x xs δ M _ h fun δ' M' h' => for_inv I hg hs he xs δ' M' h'⟩
theorem lc_inv {g : Mu → Prop} {tg : DTg} {tt : DTT} {te : DTE} {δw : DEnv} {Q : List D → Mu → Prop} (I : List D → List D → Mu → Prop) (hg : ∀ xs acc M, I xs acc M → g M)
    (hs : ∀ x xs acc M (N : List D → Mu → Prop), I (x :: xs) acc M → (∀ acc' M', I xs acc' M' → N acc' M') → tg x δw M fun δ' M' => tt δ' M' fun b M1 => match b with
      | true => te δ' M1 fun y M2 => acc.length < sizeLine ∧ N (acc ++ [y]) M2
      | false => N acc M1)
    (he : ∀ acc M, I [] acc M → Q acc M) : ∀ (ds acc : List D) (M : Mu), I ds acc M → dLcGo g tg tt te δw ds acc M Q
  | [], acc, M, h => ⟨hg _ _ _ h, he _ _ h⟩
  | x :: xs, acc, M, h => ⟨hg _ _ _ h, hs x xs acc M (fun acc M => dLcGo g tg tt te δw xs acc M Q) h fun acc' M' h' => lc_inv I hg hs he xs acc' M' h'⟩
/-- a comprehension without tests, whose element is the value f x of the item and changes nothing -/
theorem lc_map {g : Mu → Prop} {tg : DTg} {te : DTE} {δw : DEnv} {Q : List D → Mu → Prop} (f : D → D) {M : Mu} (hg : g M) : ∀ (ds acc : List D), acc.length + ds.length ≤ sizeLine →
    (∀ x ∈ ds, ∀ R : DK, R (f x) M → tg x δw M fun δ' M' => te δ' M' R) → Q (acc ++ ds.map f) M → dLcGo g tg dYes te δw ds acc M Q
  | [], acc, _, _, h => ⟨hg, by rw [List.map_nil, List.append_nil] at h; exact h⟩
  | x :: xs, acc, hl, hs, h => by
    rw [List.length_cons] at hl
    refine ⟨hg, hs x (List.mem_cons_self ..) (fun y M2 => acc.length < sizeLine ∧ dLcGo g tg dYes te δw xs (acc ++ [y]) M2 Q) ⟨by omega, ?_⟩⟩
    refine lc_map f hg xs (acc ++ [f x]) (by rw [List.length_append, List.length_singleton]; omega) (fun y hy => hs y (List.mem_cons_of_mem _ hy)) ?_
    rw [List.append_assoc]
    exact h
theorem sz1000 {n : Nat} (h : n ≤ 1000000) : n ≤ sizeLine := Nat.le_trans h (by rw [sizeLine_eq]; decide)
theorem szlt {n : Nat} (h : n < 1000000) : n < sizeLine := Nat.lt_of_lt_of_le h (by rw [sizeLine_eq]; decide)
theorem mul_fit {i j : Int} (a b : Nat) (ha : i.natAbs < 2 ^ a) (hb : j.natAbs < 2 ^ b) (h : a + b ≤ 134217728 := by decide) : CMulX i j := mulx_ok ha hb h
theorem nlt_pow {i : Int} {k : Nat} (h1 : -(2 ^ k : Nat) < i) (h2 : i < (2 ^ k : Nat)) : i.natAbs < 2 ^ k := by omega
theorem div_fit {j : Int} (k : Nat) (h0 : j ≠ 0) (h : j.natAbs < 2 ^ k) (hk : 0 < k := by decide) (h9 : k ≤ 9000 := by decide) : CDivX j := ⟨h0, Nat.lt_of_lt_of_le (PySem.Flt.log2_lt_of hk h) h9⟩
theorem fmod_pos {i j : Int} (h : 0 < j) : i.fmod j = i % j := Int.fmod_eq_emod_of_nonneg i (by omega)
theorem fdiv_pos {i j : Int} (h : 0 < j) : i.fdiv j = i / j := Int.fdiv_eq_ediv_of_nonneg i (by omega)
theorem atI_zero {α : Type} {x : α} {xs : List α} : atI (x :: xs) 0 = some x := atI_nat (xs := x :: xs) (j := 0) rfl
theorem atI_one {α : Type} {x y : α} {xs : List α} : atI (x :: y :: xs) 1 = some y := atI_nat (xs := x :: y :: xs) (j := 1) rfl
theorem atI_two {α : Type} {x y z : α} {xs : List α} : atI (x :: y :: z :: xs) 2 = some z := atI_nat (xs := x :: y :: z :: xs) (j := 2) rfl
theorem ixN_nat {n : Nat} {j : Nat} (h : j < n) : ixN n (j : Int) = some j := by
  unfold ixN
  rw [if_pos (by omega), if_pos (by omega)]
  rfl
theorem dseq_ref {M : Mu} {a : Addr} {ds : List D} (h : M a = some (.lst ds)) : dseq M (.ref a) = some ds := by
  show (match M a with | some (.lst ds) => some ds | _ => none) = some ds
  rw [h]
theorem dits_ref {M : Mu} {a : Addr} {ds : List D} (h : M a = some (.lst ds)) : dits M (.ref a) = some ds := dseq_ref h
theorem tyNm_ref {M : Mu} {a : Addr} {ds : List D} (h : M a = some (.lst ds)) : tyNm M (.ref a) = some "list" := by
  show (match M a with | some (.lst _) => some "list" | some (.dic _) => some "dict" | none => none) = some "list"
  rw [h]
end DL

namespace DL
open PySem PySem.Spec PyProof.Rows L2 TL

/-! ### stepping through readings, rule by rule (the tactic of that name stands behind them) -/
def kB (Q : Bool → Mu → Prop) : DK := fun d M => match d with
  | .bl b => Q b M
  | _ => False
def kT (Q : Bool → Mu → Prop) : DK := fun d M => dTruB M d fun b => Q b M
def kP (Q : Option Int → Mu → Prop) : DK := fun d M => match d with
  | .int i => Q (some i) M
  | _ => False
def kI (R : List D → (Mu → Prop) → Mu → Prop) : DK := fun d M1 => match d with
  | .tup ds => R ds (fun _ => True) M1
  | .lst ds => R ds (fun _ => True) M1
  | .src ns => R (ns.map .int) (fun _ => True) M1
  | .str cs => R (cs.map fun c => .str [c]) (fun _ => True) M1
  | .ref a => match M1 a with
    | some (.lst ds) => R ds (fun M2 => M2 a = some (.lst ds)) M1
    | _ => False
  | _ => False
def kR1 (R : List D → (Mu → Prop) → Mu → Prop) : List D → Mu → Prop := fun ds M1 => match ds with
  | [.int j] => -(2 ^ 62) ≤ j ∧ j < 2 ^ 62 ∧ R (rngD 0 j.toNat) (fun _ => True) M1
  | _ => False
def kR2 (R : List D → (Mu → Prop) → Mu → Prop) : List D → Mu → Prop := fun ds M1 => match ds with
  | [.int i, .int j] => (-(2 ^ 62) ≤ i ∧ i < 2 ^ 62 ∧ -(2 ^ 62) ≤ j ∧ j < 2 ^ 62) ∧ R (rngD i (j - i).toNat) (fun _ => True) M1
  | _ => False
def kS {α : Type} (b : Bool) (x y : α) (P : α → Prop) : Prop := P (if b = true then x else y)
section
variable {δ : DEnv} {M : Mu} {Q : DK} {QT : Bool → Mu → Prop} {QA : List D → Mu → Prop} {QE : DEnv → Mu → Prop} {D0 : DEnds} {d x y : D} {u ua ub ue uo ui : DTE} {us ur : DTA} {t t1 t2 : DTS} {c c1 c2 : DTT} {g : DTg} {i j : Nat} {n m : Int} {a b : Addr} {es fs : List D} {cs ds' : List Nat} {mu : Bool}
theorem r_sq (h : t1 { nx := t2 D0, rt := D0.rt, bk := D0.bk, ct := D0.ct } δ M) : dSq t1 t2 D0 δ M := h
theorem r_nx (h : D0.nx δ M) : dNx D0 δ M := h
theorem r_bk (h : D0.bk δ M) : dBk D0 δ M := h
theorem r_ct (h : D0.ct δ M) : dCt D0 δ M := h
theorem r_rt (h : u δ M D0.rt) : dRt u D0 δ M := h
theorem r_rtN (h : D0.rt .non M) : dRtN D0 δ M := h
theorem r_ex (h : u δ M fun _ M1 => D0.nx δ M1) : dEx u D0 δ M := h
theorem r_as (h : u δ M fun d M1 => g d δ M1 D0.nx) : dAs u g D0 δ M := h
theorem r_if (h : c δ M fun b M1 => (b = true → t1 D0 δ M1) ∧ (b = false → t2 D0 δ M1)) : dIfS c t1 t2 D0 δ M := by
  unfold dIfS
  revert h
  exact cast (congrArg (fun z => (c δ M z → _)) (funext fun b => funext fun M1 => by cases b <;> simp)) id
theorem r_ifT (h : c δ M fun b M1 => match b with
  | true => t1 D0 δ M1
  | false => t2 D0 δ M1) : dIfS c t1 t2 D0 δ M := h
theorem r_dgN {δ' : DEnv} (e : δ.set i (some d) = δ') (h : QE δ' M) : dgN i d δ M QE := by unfold dgN; rw [e]; exact h
theorem r_dgSub (h : uo δ M fun o M1 => ui δ M1 fun i M2 => dSetV o i d M2 fun M3 => QE δ M3) : dgSub uo ui d δ M QE := h
theorem r_dgT {ts : List DTg} (hl : es.length = ts.length) (h : dgAll ts es δ M QE) : dgT ts (.tup es) δ M QE := ⟨hl, h⟩
theorem r_dga0 (h : QE δ M) : dgAll [] [] δ M QE := h
theorem r_dga1 {ts : List DTg} (h : g d δ M fun δ' M' => dgAll ts es δ' M' QE) : dgAll (g :: ts) (d :: es) δ M QE := h
theorem r_auS {rd : DR2} (h : uo δ M fun o M1 => ui δ M1 fun i M2 => dGetM o i M2 fun x M3 => ue δ M3 fun y M4 => rd x y M4 fun z M5 => dSetV o i z M5 fun M6 => D0.nx δ M6) : dAuS uo ui ue rd D0 δ M := h
theorem r_setV {k : Int} (h : M a = some (.lst es)) (hk : ixN es.length k = some j) {Q : Mu → Prop} (q : Q (mset M a (.lst (es.set j d)))) : dSetV (.ref a) (.int k) d M Q := by
  unfold dSetV; simp only [h, hk]; exact q
theorem r_getM (h : M a = some (.lst es)) (hk : atI es n = some d) (q : Q d M) : dGetM (.ref a) (.int n) M Q := by
  unfold dGetM; simp only [h, hk]; exact q
theorem r_au {rd : DR2} (e : δ[i]? = some (some x)) (h : u δ M fun y M1 => rd x y M1 fun z M2 => D0.nx (δ.set i (some z)) M2) : dAu i rd u D0 δ M := by
  unfold dAu; rw [e]; exact h
def kPar (i j : Nat) (δ : DEnv) (D0 : DEnds) : List D → Mu → Prop := fun ds M1 => match ds with
  | [v, w] => D0.nx ((δ.set i (some v)).set j (some w)) M1
  | _ => False
theorem r_par (h : us δ M (kPar i j δ D0)) : dPar i j us D0 δ M := h
theorem r_kPar {v w : D} {δ' : DEnv} (e : (δ.set i (some v)).set j (some w) = δ') (h : D0.nx δ' M) : kPar i j δ D0 [v, w] M := by
  unfold kPar; simp only [e]; exact h
/-! expressions -/
theorem r_var (e : δ[i]? = some (some d)) (q : Q d M) : dVar i δ M Q := by unfold dVar; rw [e]; exact q
theorem r_c (q : Q d M) : dC d δ M Q := q
theorem r_op {rd : DR2} (h : ua δ M fun x M1 => ub δ M1 fun y M2 => rd x y M2 Q) : dOp rd ua ub δ M Q := h
theorem r_un {rd : DUn} (h : ua δ M fun x M1 => rd x M1 Q) : dUn rd ua δ M Q := h
theorem r_neg (q : Q (.int (-n)) M) : dNeg (.int n) M Q := q
theorem r_addI (q : Q (.int (n + m)) M) : dAdd mu (.int n) (.int m) M Q := q
theorem r_addS {p q : List Nat} (h : p.length + q.length ≤ sizeLine ∧ Q (.str (p ++ q)) M) : dAdd mu (.str p) (.str q) M Q := h
theorem r_addT {p q : List D} (h : p.length + q.length ≤ sizeLine ∧ Q (.tup (p ++ q)) M) : dAdd mu (.tup p) (.tup q) M Q := h
theorem r_addL {p q : List D} (h : p.length + q.length ≤ sizeLine ∧ dNew mu (p ++ q) M Q) : dAdd mu (.lst p) (.lst q) M Q := h
theorem r_subI (q : Q (.int (n - m)) M) : dSub (.int n) (.int m) M Q := q
theorem r_mulI (h : CMulX n m ∧ Q (.int (n * m)) M) : dMul mu (.int n) (.int m) M Q := h
theorem r_fdiv (h : CDivX m ∧ Q (.int (n.fdiv m)) M) : dFdiv (.int n) (.int m) M Q := h
theorem r_mod (h : m ≠ 0 ∧ Q (.int (n.fmod m)) M) : dMod (.int n) (.int m) M Q := h
theorem r_pow (h : CPow n m ∧ Q (.int (n ^ m.toNat)) M) : dPow (.int n) (.int m) M Q := h
theorem r_shl (h : CShl n m ∧ Q (.int (n * 2 ^ m.toNat)) M) : dShl (.int n) (.int m) M Q := h
theorem r_eqI (q : Q (.bl (decide (n = m))) M) : dEq (.int n) (.int m) M Q := q
theorem r_eqS {p q : List Nat} (h : Q (.bl (decide (p = q))) M) : dEq (.str p) (.str q) M Q := h
theorem r_eqB {p q : Bool} (h : Q (.bl (decide (p = q))) M) : dEq (.bl p) (.bl q) M Q := h
theorem r_neI (q : Q (.bl (!decide (n = m))) M) : dNe (.int n) (.int m) M Q := q
theorem r_neS {p q : List Nat} (h : Q (.bl (!decide (p = q))) M) : dNe (.str p) (.str q) M Q := h
theorem r_neB {p q : Bool} (h : Q (.bl (!decide (p = q))) M) : dNe (.bl p) (.bl q) M Q := h
theorem r_ltI (q : Q (.bl (decide (n < m))) M) : dLt (.int n) (.int m) M Q := q
theorem r_gtI (q : Q (.bl (decide (m < n))) M) : dGt (.int n) (.int m) M Q := q
theorem r_leI (q : Q (.bl (decide (n ≤ m))) M) : dLe (.int n) (.int m) M Q := q
theorem r_geI (q : Q (.bl (decide (m ≤ n))) M) : dGe (.int n) (.int m) M Q := q
theorem r_isN (q : Q (.bl (DL.isNon x)) M) : dIsN x .non M Q := ⟨rfl, q⟩
theorem r_notN (q : Q (.bl (!DL.isNon x)) M) : dNotN x .non M Q := ⟨rfl, q⟩
theorem r_inS {neg : Bool} {z : Nat} (q : Q (.bl (if neg then !decide (z ∈ cs) else decide (z ∈ cs))) M) : dInB neg (.str [z]) (.str cs) M Q := q
theorem r_idxR (h : M a = some (.lst es)) (hk : atI es n = some d) (q : Q d M) : dIdx (.ref a) (.int n) M Q := by
  unfold dIdx; simp only [dits, dseq, h, Option.bind_some, hk]; exact q
theorem r_idxL (hk : atI es n = some d) (q : Q d M) : dIdx (.lst es) (.int n) M Q := by
  unfold dIdx; simp only [dits, dseq, Option.bind_some, hk]; exact q
theorem r_idxT (hk : atI es n = some d) (q : Q d M) : dIdx (.tup es) (.int n) M Q := by
  unfold dIdx; simp only [dits, Option.bind_some, hk]; exact q
theorem r_idxSrc {ns : List Int} (hk : atI (ns.map D.int) n = some d) (q : Q d M) : dIdx (.src ns) (.int n) M Q := by
  unfold dIdx; simp only [dits, Option.bind_some, hk]; exact q
theorem r_idxS {z : Nat} (hk : atI cs n = some z) (hl : cs.length ≤ sizeLine) (q : Q (.str [z]) M) : dIdx (.str cs) (.int n) M Q := by
  unfold dIdx; simp only [hk]; exact ⟨hl, q⟩
/-! tests -/
theorem r_test (h : u δ M (kB QT)) : dTest u δ M QT := h
theorem r_kB {b : Bool} (q : QT b M) : kB QT (.bl b) M := q
theorem r_tru (h : u δ M (kT QT)) : dTru u δ M QT := h
theorem r_kTb {b : Bool} (q : QT b M) : kT QT (.bl b) M := q
theorem r_kTi (q : QT (n != 0) M) : kT QT (.int n) M := q
theorem r_kTn (q : QT false M) : kT QT .non M := q
theorem r_kTl (q : QT (!es.isEmpty) M) : kT QT (.lst es) M := q
theorem r_kTt (q : QT (!es.isEmpty) M) : kT QT (.tup es) M := q
theorem r_kTs (q : cs.length ≤ sizeLine ∧ QT (!cs.isEmpty) M) : kT QT (.str cs) M := q
theorem r_not (h : c δ M fun b M1 => QT (!b) M1) : dNot c δ M QT := h
theorem r_and (h : c1 δ M fun b M1 => (b = true → c2 δ M1 QT) ∧ (b = false → QT false M1)) : dAnd c1 c2 δ M QT := by
  unfold dAnd
  revert h
  exact cast (congrArg (fun z => (c1 δ M z → _)) (funext fun b => funext fun M1 => by cases b <;> simp)) id
theorem r_or (h : c1 δ M fun b M1 => (b = true → QT true M1) ∧ (b = false → c2 δ M1 QT)) : dOr c1 c2 δ M QT := by
  unfold dOr
  revert h
  exact cast (congrArg (fun z => (c1 δ M z → _)) (funext fun b => funext fun M1 => by cases b <;> simp)) id
theorem r_dif (h : c δ M fun b M1 => (b = true → ua δ M1 Q) ∧ (b = false → ub δ M1 Q)) : dIf c ua ub δ M Q := by
  unfold dIf
  revert h
  exact cast (congrArg (fun z => (c δ M z → _)) (funext fun b => funext fun M1 => by cases b <;> simp)) id
theorem r_andV (h : ua δ M (kB fun b M1 => (b = true → ub δ M1 Q) ∧ (b = false → Q (.bl false) M1))) : dAndV ua ub δ M Q := by
  unfold dAndV
  revert h
  refine cast (congrArg (fun z => (ua δ M z → _)) (funext fun d => funext fun M1 => ?_)) id
  cases d <;> try rfl
  rename_i b
  cases b <;> simp [kB]
theorem r_orV (h : ua δ M (kB fun b M1 => (b = true → Q (.bl true) M1) ∧ (b = false → ub δ M1 Q))) : dOrV ua ub δ M Q := by
  unfold dOrV
  revert h
  refine cast (congrArg (fun z => (ua δ M z → _)) (funext fun d => funext fun M1 => ?_)) id
  cases d <;> try rfl
  rename_i b
  cases b <;> simp [kB]
theorem r_notV (h : u δ M (kB fun b M1 => Q (.bl !b) M1)) : dNotV u δ M Q := h
theorem r_yes (h : QT true M) : dYes δ M QT := h
/-! rows -/
theorem r_nil (q : QA [] M) : dNil δ M QA := q
theorem r_cons (h : ua δ M fun d M1 => ur δ M1 fun ds M2 => QA (d :: ds) M2) : dCons ua ur δ M QA := h
theorem r_tup (h : us δ M fun ds M1 => ds.length ≤ sizeLine ∧ Q (.tup ds) M1) : dTup us δ M Q := h
theorem r_lst (h : us δ M fun ds M1 => ds.length ≤ sizeLine ∧ dNew mu ds M1 Q) : dLst mu us δ M Q := h
theorem r_newF (q : Q (.lst es) M) : dNew false es M Q := q
theorem r_newT (q : ∀ p, M p = none → Q (.ref p) (mset M p (.lst es))) : dNew true es M Q := q
theorem r_cb {rd : DRC} (h : us δ M fun ds M1 => rd ds M1 Q) : dCB rd us δ M Q := h
theorem r_lenS (h : cs.length ≤ sizeLine ∧ Q (.int cs.length) M) : dLen [.str cs] M Q := h
theorem r_lenL (h : Q (.int es.length) M) : dLen [.lst es] M Q := h
theorem r_lenT (h : Q (.int es.length) M) : dLen [.tup es] M Q := h
theorem r_lenSrc {ns : List Int} (h : Q (.int ns.length) M) : dLen [.src ns] M Q := by
  unfold dLen; simp only [dits, List.length_map]; exact h
theorem r_lenR (e : M a = some (.lst es)) (h : Q (.int es.length) M) : dLen [.ref a] M Q := by
  unfold dLen; simp only [dits, dseq, e]; exact h
theorem r_abs (h : Q (.int (n.natAbs : Int)) M) : dAbs [.int n] M Q := h
theorem r_min2 (h : Q (.int (if m < n then m else n)) M) : dMin2 [.int n, .int m] M Q := h
theorem r_max2 (h : Q (.int (if m > n then m else n)) M) : dMax2 [.int n, .int m] M Q := h
theorem r_intI (h : Q (.int n) M) : dInt [.int n] M Q := h
theorem r_str (h : n.natAbs.log2 < 1920 ∧ Q (.str (numI n)) M) : dStr [.int n] M Q := h
theorem r_tupT (h : Q (.tup es) M) : dTupOf [.tup es] M Q := h
theorem r_tupL (h : Q (.tup es) M) : dTupOf [.lst es] M Q := h
theorem r_tupR (e : M a = some (.lst es)) (h : Q (.tup es) M) : dTupOf [.ref a] M Q := by
  unfold dTupOf; simp only [dlis, dseq, e]; exact h
theorem r_divmod (h : CDivP n m ∧ Q (.tup [.int (n / m), .int (n % m)]) M) : dDivmod [.int n, .int m] M Q := h
theorem r_isi {T S : String} {b : Bool} (h : tyNm M d = some S) (hb : kitB S T = some b) (q : Q (.bl b) M) : dIsi [d, .ty T] M Q := by
  unfold dIsi; simp only [h, Option.bind_some, hb]; exact q
theorem r_sum {ns : List Int} (e : dseq M d = some es) (hi : intsOf es = some ns) (q : Q (.int ns.sum) M) : dSum [d] M Q := by
  unfold dSum; simp only [e, Option.bind_some, hi]; exact q
theorem r_all {bs : List Bool} (e : dseq M d = some es) (hi : blsOf es = some bs) (q : Q (.bl (bs.all id)) M) : dAll [d] M Q := by
  unfold dAll; simp only [e, Option.bind_some, hi]; exact q
theorem r_any {bs : List Bool} (e : dseq M d = some es) (hi : blsOf es = some bs) (q : Q (.bl (bs.any id)) M) : dAny [d] M Q := by
  unfold dAny; simp only [e, Option.bind_some, hi]; exact q
theorem r_sl {ul uh : DTO} (h : u δ M fun x M1 => ul δ M1 fun lo M2 => uh δ M2 fun hi M3 => dSlV mu x lo hi M3 Q) : dSl mu u ul uh δ M Q := h
theorem r_noP {QO : Option Int → Mu → Prop} (h : QO none M) : dNoP δ M QO := h
theorem r_part {QO : Option Int → Mu → Prop} (h : u δ M (kP QO)) : dPart u δ M QO := h
theorem r_kP {QO : Option Int → Mu → Prop} (h : QO (some n) M) : kP QO (.int n) M := h
theorem r_slS {lo hi : Option Int} (h : cs.length ≤ sizeLine ∧ Q (.str (cutL cs lo hi)) M) : dSlV mu (.str cs) lo hi M Q := h
theorem r_slT {lo hi : Option Int} (h : Q (.tup (cutL es lo hi)) M) : dSlV mu (.tup es) lo hi M Q := h
theorem r_slL {lo hi : Option Int} (h : dNew mu (cutL es lo hi) M Q) : dSlV mu (.lst es) lo hi M Q := h
theorem r_slSrc {ns : List Int} {lo hi : Option Int} (h : dNew mu (cutL (ns.map D.int) lo hi) M Q) : dSlV mu (.src ns) lo hi M Q := h
theorem r_slR {lo hi : Option Int} (e : M a = some (.lst es)) (h : dNew mu (cutL es lo hi) M Q) : dSlV mu (.ref a) lo hi M Q := by
  unfold dSlV; simp only [dlis, dseq, e]; exact h
theorem r_bm {T : String} {rd : DM} (h : uo δ M fun x M1 => tyNm M1 x = some T ∧ us δ M1 fun ds M2 => rd x ds M2 Q) : dBM T rd uo us δ M Q := h
theorem r_tyS {P : Prop} (h : P) : tyNm M (.str cs) = some "str" ∧ P := ⟨rfl, h⟩
theorem r_tyR {P : Prop} (e : M a = some (.lst es)) (h : P) : tyNm M (.ref a) = some "list" ∧ P := ⟨tyNm_ref e, h⟩
theorem r_append (e : M a = some (.lst es)) (hl : es.length < sizeLine) (h : Q .non (mset M a (.lst (es ++ [d])))) : dAppend (.ref a) [d] M Q := by
  unfold dAppend; simp only [e]; exact ⟨hl, h⟩
theorem r_split {z : List Nat} (h0 : z ≠ []) (h1 : z.all (· < 256) = true) (hl : cs.length + 2 ≤ sizeLine) (h : dNew mu ((spl z 0 [] cs).map .str) M Q) : dSplit mu (.str cs) [.str z] M Q := ⟨h0, hl, h1, h⟩
theorem r_join {ys : List (List Nat)} (e : dits M d = some es) (hs : strsOf es = some ys) (hl : (ys.map (·.length)).sum + ys.length * cs.length ≤ 16777216) (h : Q (.str (joinL cs ys)) M) : dJoin (.str cs) [d] M Q := by
  unfold dJoin; simp only [e, Option.bind_some, hs]; exact ⟨hl, h⟩
theorem r_starts {z : List Nat} (h : Q (.bl (Txt.startswith (mkS cs) (mkS z))) M) : dStarts (.str cs) [.str z] M Q := h
theorem r_count {z : List Nat} (h : Q (.int (Txt.count (mkS cs) (mkS z))) M) : dCount (.str cs) [.str z] M Q := h
theorem r_bits (h : uo δ M fun d M1 => ∃ n, d = .int n ∧ Q (.int (Builtin.Int.intBits n : Nat)) M1) : dBits uo δ M Q := by
  unfold dBits
  revert h
  refine cast (congrArg (fun z => (uo δ M z → _)) (funext fun d => funext fun M1 => ?_)) id
  cases d <;> simp
/-! calls, loops -/
theorem r_call {sp : DSp} {E : DXK} (h : us δ M fun ds M1 => sp ds M1 Q E) : dCall sp [] E us δ M Q := by
  unfold dCall
  revert h
  exact cast (congrArg (fun z => (us δ M z → _)) (funext fun ds => funext fun M1 => by rw [List.append_nil])) id
theorem r_for {di : DTI} (h : di δ M fun ds g1 M1 => dForGo g1 g t D0 ds δ M1) : dFor di g t D0 δ M := h
theorem r_seq {R : List D → (Mu → Prop) → Mu → Prop} (h : ue δ M (kI R)) : diSeq ue δ M R := h
theorem r_kIt {R : List D → (Mu → Prop) → Mu → Prop} (h : R es (fun _ => True) M) : kI R (.tup es) M := h
theorem r_kIl {R : List D → (Mu → Prop) → Mu → Prop} (h : R es (fun _ => True) M) : kI R (.lst es) M := h
theorem r_kIs {R : List D → (Mu → Prop) → Mu → Prop} (h : R (cs.map fun c => .str [c]) (fun _ => True) M) : kI R (.str cs) M := h
theorem r_kIsrc {ns : List Int} {R : List D → (Mu → Prop) → Mu → Prop} (h : R (ns.map .int) (fun _ => True) M) : kI R (.src ns) M := h
theorem r_kIr {R : List D → (Mu → Prop) → Mu → Prop} (e : M a = some (.lst es)) (h : R es (fun M2 => M2 a = some (.lst es)) M) : kI R (.ref a) M := by
  unfold kI; simp only [e]; exact h
theorem r_r1 {R : List D → (Mu → Prop) → Mu → Prop} (h : us δ M (kR1 R)) : diR1 us δ M R := h
theorem r_kR1 {R : List D → (Mu → Prop) → Mu → Prop} (h1 : -(2 ^ 62) ≤ n) (h2 : n < 2 ^ 62) (h : R (rngD 0 n.toNat) (fun _ => True) M) : kR1 R [.int n] M := ⟨h1, h2, h⟩
theorem r_r2 {R : List D → (Mu → Prop) → Mu → Prop} (h : us δ M (kR2 R)) : diR2 us δ M R := h
theorem r_kR2 {R : List D → (Mu → Prop) → Mu → Prop} (h0 : -(2 ^ 62) ≤ n ∧ n < 2 ^ 62 ∧ -(2 ^ 62) ≤ m ∧ m < 2 ^ 62) (h : R (rngD n (m - n).toNat) (fun _ => True) M) : kR2 R [.int n, .int m] M := ⟨h0, h⟩
theorem r_lc {di : DTI} {vs : List Nat} (h : di δ M fun ds g1 M1 => dLcGo g1 g c ue (dwipe δ vs) ds [] M1 fun acc M2 => dNew mu acc M2 Q) : dLc mu di g c ue vs δ M Q := h
/-! what may change -/
theorem sub_new {p : Addr} {o : DO} (h : M p = none) : Sub M (mset M p o) := fun b u e => by
  rw [mset_ne (fun z => by rw [z, h] at e; cases e)]; exact e
theorem ne_new {p q : Addr} {o : DO} (h : M p = some o) (e : M q = none) : p ≠ q := fun z => by rw [z, e] at h; cases h
theorem mset_swap {p q : Addr} {o o' : DO} (h : p ≠ q) : mset (mset M p o) q o' = mset (mset M q o') p o := by
  funext b
  unfold mset
  by_cases h1 : b = q
  · subst h1; rw [if_pos rfl, if_neg (fun z => h z.symm), if_pos rfl]
  · rw [if_neg h1]
    by_cases h2 : b = p
    · rw [if_pos h2, if_pos h2]
    · rw [if_neg h2, if_neg h2, if_neg h1]
theorem lit_len {α : Type} {xs : List α} (n : Nat) (h : xs.length = n) (hn : n ≤ 1000000) : xs.length ≤ sizeLine := sz1000 (h ▸ hn)
theorem lit0 {α : Type} {P : Prop} (h : P) : ([] : List α).length ≤ sizeLine ∧ P := ⟨lit_len 0 rfl (by decide), h⟩
theorem lit1 {α : Type} {a : α} {P : Prop} (h : P) : [a].length ≤ sizeLine ∧ P := ⟨lit_len 1 rfl (by decide), h⟩
theorem lit2 {α : Type} {a b : α} {P : Prop} (h : P) : [a, b].length ≤ sizeLine ∧ P := ⟨lit_len 2 rfl (by decide), h⟩
theorem lit3 {α : Type} {a b c : α} {P : Prop} (h : P) : [a, b, c].length ≤ sizeLine ∧ P := ⟨lit_len 3 rfl (by decide), h⟩
theorem lit4 {α : Type} {a b c d : α} {P : Prop} (h : P) : [a, b, c, d].length ≤ sizeLine ∧ P := ⟨lit_len 4 rfl (by decide), h⟩
theorem lit5 {α : Type} {a b c d e : α} {P : Prop} (h : P) : [a, b, c, d, e].length ≤ sizeLine ∧ P := ⟨lit_len 5 rfl (by decide), h⟩
theorem lit6 {α : Type} {a b c d e f : α} {P : Prop} (h : P) : [a, b, c, d, e, f].length ≤ sizeLine ∧ P := ⟨lit_len 6 rfl (by decide), h⟩
theorem lit7 {α : Type} {a b c d e f g : α} {P : Prop} (h : P) : [a, b, c, d, e, f, g].length ≤ sizeLine ∧ P := ⟨lit_len 7 rfl (by decide), h⟩
end
/-! a middle word -/
theorem via {u : DTE} {δ : DEnv} {M : Mu} {Q : DK} (P : DK) (h1 : ∀ Q' : DK, (∀ d M', P d M' → Q' d M') → u δ M Q') (h2 : ∀ d M', P d M' → Q d M') : u δ M Q := h1 Q h2
theorem viaS {t : DTS} {D0 : DEnds} {δ : DEnv} {M : Mu} (P : DEnv → Mu → Prop) (h1 : ∀ N : DEnv → Mu → Prop, (∀ δ' M', P δ' M' → N δ' M') → t { nx := N, rt := D0.rt, bk := D0.bk, ct := D0.ct } δ M) (h2 : ∀ δ' M', P δ' M' → D0.nx δ' M') : t D0 δ M := h1 D0.nx h2
end DL

namespace DL
open PySem PySem.Spec PyProof.Rows L2 TL
local macro_rules | `(tactic| walk_at "st1") => `(tactic| first
  | with_reducible refine r_sq ?_ | with_reducible refine r_nx ?_ | with_reducible refine r_rt ?_ | with_reducible refine r_rtN ?_ | with_reducible refine r_ex ?_ | with_reducible refine r_as ?_ | with_reducible refine r_bk ?_ | with_reducible refine r_ct ?_
  | ((with_reducible apply r_var); exact rfl) | with_reducible refine r_c ?_ | with_reducible refine r_op ?_ | with_reducible refine r_un ?_ | with_reducible refine r_neg ?_
  | ((with_reducible refine r_dgN rfl ?_); (try simp only [List.set]))
  | with_reducible refine r_dgSub ?_ | with_reducible refine r_dgT rfl ?_ | with_reducible refine r_dga0 ?_ | with_reducible refine r_dga1 ?_ | with_reducible refine r_auS ?_ | ((with_reducible apply r_au); exact rfl)
  | with_reducible refine r_par ?_ | ((with_reducible refine r_kPar rfl ?_); (try simp only [List.set]))
  | with_reducible refine r_addI ?_ | with_reducible refine r_addS ?_ | with_reducible refine r_addT ?_ | with_reducible refine r_addL ?_ | with_reducible refine r_subI ?_ | with_reducible refine r_mulI ?_ | with_reducible refine r_fdiv ?_ | with_reducible refine r_mod ?_ | with_reducible refine r_pow ?_ | with_reducible refine r_shl ?_
  | with_reducible refine r_eqI ?_ | with_reducible refine r_eqS ?_ | with_reducible refine r_eqB ?_ | with_reducible refine r_neI ?_ | with_reducible refine r_neS ?_ | with_reducible refine r_neB ?_ | with_reducible refine r_ltI ?_ | with_reducible refine r_gtI ?_ | with_reducible refine r_leI ?_ | with_reducible refine r_geI ?_ | with_reducible refine r_isN ?_ | with_reducible refine r_notN ?_ | with_reducible refine r_inS ?_
  | with_reducible refine r_test ?_ | with_reducible refine r_kB ?_ | with_reducible refine r_tru ?_ | with_reducible refine r_kTb ?_ | with_reducible refine r_kTi ?_ | with_reducible refine r_kTn ?_ | with_reducible refine r_kTl ?_ | with_reducible refine r_kTt ?_ | with_reducible refine r_kTs ?_ | with_reducible refine r_not ?_ | with_reducible refine r_notV ?_ | with_reducible refine r_yes ?_
  | with_reducible refine r_nil ?_ | with_reducible refine r_cons ?_ | with_reducible refine r_tup ?_ | with_reducible refine r_lst ?_ | with_reducible refine r_newF ?_ | with_reducible refine r_cb ?_
  | with_reducible refine r_lenS ?_ | with_reducible refine r_lenL ?_ | with_reducible refine r_lenT ?_ | with_reducible refine r_lenSrc ?_ | with_reducible refine r_abs ?_ | with_reducible refine r_min2 ?_ | with_reducible refine r_max2 ?_ | with_reducible refine r_intI ?_ | with_reducible refine r_str ?_ | with_reducible refine r_tupT ?_ | with_reducible refine r_tupL ?_ | with_reducible refine r_divmod ?_
  | with_reducible refine r_sl ?_ | with_reducible refine r_noP ?_ | with_reducible refine r_part ?_ | with_reducible refine r_kP ?_ | with_reducible refine r_slS ?_ | with_reducible refine r_slT ?_ | with_reducible refine r_slL ?_ | with_reducible refine r_slSrc ?_
  | with_reducible refine r_bm ?_ | with_reducible refine r_tyS ?_ | with_reducible refine r_starts ?_ | with_reducible refine r_count ?_ | with_reducible refine r_call ?_ | with_reducible refine r_for ?_ | with_reducible refine r_seq ?_ | with_reducible refine r_kIt ?_ | with_reducible refine r_kIl ?_ | with_reducible refine r_kIs ?_ | with_reducible refine r_kIsrc ?_ | with_reducible refine r_r1 ?_ | with_reducible refine r_r2 ?_ | with_reducible refine r_lc ?_
  | with_reducible refine lit0 ?_ | with_reducible refine lit1 ?_ | with_reducible refine lit2 ?_ | with_reducible refine lit3 ?_ | with_reducible refine lit4 ?_ | with_reducible refine lit5 ?_ | with_reducible refine lit6 ?_ | with_reducible refine lit7 ?_
  | fail)
local macro_rules | `(tactic| walk_at "st") => `(tactic| repeat (first | walk_at "st1" | dsimp only))
local macro_rules | `(tactic| walk_at "go") => `(tactic| (simp only [dstart, dEnd, List.map_cons, List.map_nil, List.length_cons, List.length_nil, Nat.reduceAdd, Nat.reduceSub, Nat.zero_add, List.replicate, List.cons_append, List.nil_append]; walk_at "st"))

/-! ### the law's source of numbers -/
/-- a source: k more picks may be made -/
def Src (k : Nat) (o : DO) : Prop := ∃ a b c : Int, o = .lst [.int a, .int b, .int c] ∧ 0 ≤ a ∧ a < 2 ^ 400 ∧ 0 ≤ b ∧ b < 2147483647 ∧ 0 ≤ c ∧ c + k ≤ 2 ^ 60
theorem Src.less {j k : Nat} {o : DO} (h : Src k o) (l : j ≤ k) : Src j o := by
  obtain ⟨a, b, c, e, h1, h2, h3, h4, h5, h6⟩ := h
  exact ⟨a, b, c, e, h1, h2, h3, h4, h5, by omega⟩
def sp_law_pick : DSp := fun ds M Q _ => ∃ a m o k, ds = [.ref a, .int m] ∧ M a = some o ∧ Src (k + 1) o ∧ 0 < m ∧ m < 2 ^ 1000 ∧ ∀ r o', 0 ≤ r → r < m → Src k o' → Q (.int r) (mset M a o')
def t_law_pick : DTS := (dSq (dIfS (dTest (dOp dGt (dOp dIdx (dVar 0) (dC (.int 0))) (dC (.int 0)))) (dSq (dAs (dOp dMod (dCB dInt (dCons (dOp dIdx (dVar 0) (dC (.int 0))) dNil)) (dVar 1)) (dgN 2)) (dSq (dAs (dOp dFdiv (dOp dIdx (dVar 0) (dC (.int 0))) (dVar 1)) (dgSub (dVar 0) (dC (.int 0)))) (dRt (dVar 2)))) dNx) (dSq (dAuS (dVar 0) (dC (.int 2)) (dC (.int 1)) dIAdd) (dSq (dAs (dOp dMod (dCB dInt (dCons (dOp (dAdd false) (dOp (dMul false) (dOp dIdx (dVar 0) (dC (.int 1))) (dC (.int 48271))) (dOp (dMul false) (dOp dIdx (dVar 0) (dC (.int 2))) (dC (.int 90001)))) dNil)) (dC (.int 2147483647))) (dgSub (dVar 0) (dC (.int 1)))) (dRt (dOp dMod (dOp dFdiv (dOp dMod (dCB dInt (dCons (dOp (dAdd false) (dOp (dMul false) (dOp dIdx (dVar 0) (dC (.int 1))) (dC (.int 16807))) (dOp (dMul false) (dOp dIdx (dVar 0) (dC (.int 2))) (dC (.int 5701)))) dNil)) (dC (.int 2147483629))) (dC (.int 8))) (dVar 1))))))
theorem len_law_pick : ∀ ds M Q E, sp_law_pick ds M Q E → ds.length = 2 := by
  intro ds M Q E h
  obtain ⟨a, m, o, k, rfl, _⟩ := h
  rfl
theorem sem_law_pick (ds : List D) (M : Mu) (Q : DK) (E : DXK) (h : sp_law_pick ds M Q E) : t_law_pick (dEnd Q) (dstart 3 ds) M := by
  obtain ⟨p, m, o, k, rfl, hM, ⟨a, b, c, rfl, a0, a1, b0, b1, c0, c1⟩, m0, m1, h⟩ := h
  unfold t_law_pick
  walk_at "go"
  refine r_if ?_
  walk_at "st"
  refine r_idxR hM atI_zero ?_
  walk_at "st"
  refine ⟨fun ha => ?_, fun ha => ?_⟩
  · have ha := of_decide_eq_true ha
    walk_at "st"
    refine r_idxR hM atI_zero ?_
    walk_at "st"
    refine ⟨by omega, ?_⟩
    walk_at "st"
    refine r_idxR hM atI_zero ?_
    walk_at "st"
    refine ⟨div_fit 1000 (by omega) (by omega), ?_⟩
    walk_at "st"
    refine r_setV hM (j := 0) rfl ?_
    walk_at "st"
    refine Wq.now (h _ _ ?_ ?_ ⟨_, b, c, rfl, ?_, ?_, b0, b1, c0, by omega⟩)
    · rw [fmod_pos m0]; exact Int.emod_nonneg _ (by omega)
    · rw [fmod_pos m0]; exact Int.emod_lt_of_pos _ m0
    · rw [fdiv_pos m0]; exact Int.ediv_nonneg a0 (by omega)
    · rw [fdiv_pos m0]; exact Int.lt_of_le_of_lt (Int.ediv_le_self _ a0) a1
  · clear ha
    walk_at "st"
    refine r_getM hM atI_two ?_
    walk_at "st"
    refine r_setV hM (j := 2) rfl ?_
    walk_at "st"
    refine r_idxR mset_same atI_one ?_
    walk_at "st"
    refine ⟨mul_fit 32 32 (by omega) (by decide), ?_⟩
    walk_at "st"
    refine r_idxR mset_same atI_two ?_
    walk_at "st"
    refine ⟨mul_fit 64 32 (by omega) (by decide), ?_⟩
    walk_at "st"
    refine ⟨by decide, ?_⟩
    have p1 : (0 : Int) < 2147483647 := by decide
    have p2 : (0 : Int) < 2147483629 := by decide
    have p3 : (0 : Int) < 8 := by decide
    rw [fmod_pos p1]
    walk_at "st"
    refine r_setV mset_same (j := 1) rfl ?_
    rw [mset_mset]
    walk_at "st"
    refine r_idxR mset_same atI_one ?_
    walk_at "st"
    refine ⟨mul_fit 32 32 (by omega) (by decide), ?_⟩
    walk_at "st"
    refine r_idxR mset_same atI_two ?_
    walk_at "st"
    refine ⟨mul_fit 64 32 (by omega) (by decide), ?_⟩
    walk_at "st"
    refine ⟨by decide, ?_⟩
    rw [fmod_pos p2]
    walk_at "st"
    refine ⟨div_fit 4 (by decide) (by decide), ?_⟩
    walk_at "st"
    refine ⟨by omega, ?_⟩
    rw [fmod_pos m0]
    refine Wq.now (h _ _ (Int.emod_nonneg _ (by omega)) (Int.emod_lt_of_pos _ m0) ⟨a, _, _, rfl, a0, a1, Int.emod_nonneg _ (by omega), Int.emod_lt_of_pos _ p1, by omega, by omega⟩)
/-! one of a list of things -/
def sp_law_one : DSp := fun ds M Q _ => ∃ a xs o k, ds = [.ref a, .lst xs] ∧ M a = some o ∧ Src (k + 1) o ∧ 0 < xs.length ∧ xs.length < 2 ^ 60 ∧ ∀ x o', x ∈ xs → Src k o' → Q x (mset M a o')
def t_law_one : DTS := (dRt (dOp dIdx (dVar 1) (dCall sp_law_pick [] dX0 (dCons (dVar 0) (dCons (dCB dLen (dCons (dVar 1) dNil)) dNil)))))
theorem len_law_one : ∀ ds M Q E, sp_law_one ds M Q E → ds.length = 2 := by
  intro ds M Q E h
  obtain ⟨a, m, o, k, rfl, _⟩ := h
  rfl
theorem sem_law_one (ds : List D) (M : Mu) (Q : DK) (E : DXK) (h : sp_law_one ds M Q E) : t_law_one (dEnd Q) (dstart 2 ds) M := by
  obtain ⟨p, xs, o, k, rfl, hM, hS, l0, l1, h⟩ := h
  unfold t_law_one
  walk_at "go"
  refine ⟨p, _, o, k, rfl, hM, hS, by omega, by omega, fun r o' r0 r1 s' => ?_⟩
  obtain ⟨j, rfl⟩ := Int.eq_ofNat_of_zero_le r0
  have hj : j < xs.length := by omega
  refine r_idxL (atI_nat (xs := xs) (j := j) (List.getElem?_eq_getElem hj)) ?_
  exact Wq.now (h _ _ (List.getElem_mem hj) s')
/-! the source -/
def sp_law_source : DSp := fun ds M Q _ => ∃ ns at', ds = [.src ns, .int at'] ∧ 0 ≤ at' ∧ at' < 1000000 ∧ ∀ p o, M p = none → Src (2 ^ 59) o → Q (.ref p) (mset M p o)
def t_law_source : DTS := (dSq (dAs (dIf (dTest (dOp dLt (dVar 1) (dCB dLen (dCons (dVar 0) dNil)))) (dCB dInt (dCons (dOp dIdx (dVar 0) (dVar 1)) dNil)) (dOp (dAdd false) (dOp (dMul false) (dC (.int 41)) (dCB dSum (dCons (dLc false (diSeq (dSl false (dVar 0) dNoP (dPart (dC (.int 6))))) (dgN 5) dYes (dOp dMod (dCB dInt (dCons (dVar 5) dNil)) (dC (.int 999979))) [5]) dNil))) (dC (.int 29)))) (dgN 2)) (dSq (dAs (dOp dMod (dCB dAbs (dCons (dVar 2) dNil)) (dOp (dMul false) (dOp dPow (dC (.int 10)) (dC (.int 60))) (dOp dPow (dC (.int 10)) (dC (.int 60))))) (dgN 3)) (dSq (dAs (dOp dMod (dCB dInt (dCons (dOp (dAdd false) (dOp (dAdd false) (dOp (dAdd false) (dOp (dMul false) (dC (.int 2)) (dVar 3)) (dIf (dTest (dOp dLt (dVar 2) (dC (.int 0)))) (dC (.int 1)) (dC (.int 0)))) (dOp (dMul false) (dVar 1) (dC (.int 130043)))) (dC (.int 70099))) dNil)) (dC (.int 2147483629))) (dgN 4)) (dRt (dLst true (dCons (dIf (dTest (dOp dGe (dVar 3) (dOp dPow (dC (.int 10)) (dC (.int 18))))) (dVar 3) (dC (.int 0))) (dCons (dOp dMod (dCB dInt (dCons (dOp (dMul false) (dOp (dAdd false) (dVar 4) (dC (.int 7019))) (dOp (dAdd false) (dVar 4) (dC (.int 80021)))) dNil)) (dC (.int 2147483629))) (dCons (dVar 1) dNil))))))))
theorem len_law_source : ∀ ds M Q E, sp_law_source ds M Q E → ds.length = 2 := by
  intro ds M Q E h
  obtain ⟨a, m, rfl, _⟩ := h
  rfl
theorem cutL_none_nat {α : Type} {xs : List α} {n : Nat} : cutL xs none (some (n : Int)) = xs.take n := by
  unfold cutL
  rw [HT.sIx_none, HT.sIx_nat, List.drop_zero, Nat.sub_zero]
  by_cases h : n ≤ xs.length
  · rw [Nat.min_eq_left h]
  · rw [Nat.min_eq_right (by omega), List.take_of_length_le (Nat.le_refl _), List.take_of_length_le (by omega)]
theorem sum_bd {B : Nat} : ∀ ns : List Int, (∀ n ∈ ns, 0 ≤ n ∧ n < B) → 0 ≤ ns.sum ∧ ns.sum ≤ (ns.length * B : Nat)
  | [], _ => by simp
  | n :: ns, h => by
    obtain ⟨h1, h2⟩ := sum_bd ns fun m hm => h m (List.mem_cons_of_mem _ hm)
    obtain ⟨h3, h4⟩ := h n (List.mem_cons_self ..)
    rw [List.sum_cons, List.length_cons, Nat.succ_mul]
    omega
theorem sem_law_source (ds : List D) (M : Mu) (Q : DK) (E : DXK) (h : sp_law_source ds M Q E) : t_law_source (dEnd Q) (dstart 6 ds) M := by
  obtain ⟨ns, at', rfl, a0, a1, h⟩ := h
  unfold t_law_source
  walk_at "go"
  have tail : ∀ cell : Int, (dSq (dAs (dOp dMod (dCB dAbs (dCons (dVar 2) dNil)) (dOp (dMul false) (dOp dPow (dC (.int 10)) (dC (.int 60))) (dOp dPow (dC (.int 10)) (dC (.int 60))))) (dgN 3)) (dSq (dAs (dOp dMod (dCB dInt (dCons (dOp (dAdd false) (dOp (dAdd false) (dOp (dAdd false) (dOp (dMul false) (dC (.int 2)) (dVar 3)) (dIf (dTest (dOp dLt (dVar 2) (dC (.int 0)))) (dC (.int 1)) (dC (.int 0)))) (dOp (dMul false) (dVar 1) (dC (.int 130043)))) (dC (.int 70099))) dNil)) (dC (.int 2147483629))) (dgN 4)) (dRt (dLst true (dCons (dIf (dTest (dOp dGe (dVar 3) (dOp dPow (dC (.int 10)) (dC (.int 18))))) (dVar 3) (dC (.int 0))) (dCons (dOp dMod (dCB dInt (dCons (dOp (dMul false) (dOp (dAdd false) (dVar 4) (dC (.int 7019))) (dOp (dAdd false) (dVar 4) (dC (.int 80021)))) dNil)) (dC (.int 2147483629))) (dCons (dVar 1) dNil))))))) { nx := fun x M => Wq Q D.non M, rt := Wq Q } [some (.src ns), some (.int at'), some (.int cell), none, none, none] M := by
    intro cell
    walk_at "st"
    refine ⟨⟨by decide, by decide, by decide⟩, ?_⟩
    walk_at "st"
    refine ⟨⟨by decide, by decide, by decide⟩, ?_⟩
    walk_at "st"
    refine ⟨mul_fit 200 200 (by decide +kernel) (by decide +kernel), ?_⟩
    walk_at "st"
    refine ⟨by decide +kernel, ?_⟩
    have hs0 : 0 ≤ Int.fmod (cell.natAbs : Int) (10 ^ Int.toNat 60 * 10 ^ Int.toNat 60) := by
      rw [fmod_pos (by decide +kernel)]; exact Int.emod_nonneg _ (by decide +kernel)
    have hs1 : Int.fmod (cell.natAbs : Int) (10 ^ Int.toNat 60 * 10 ^ Int.toNat 60) < 2 ^ 400 := by
      rw [fmod_pos (by decide +kernel)]; exact Int.lt_trans (Int.emod_lt_of_pos _ (by decide +kernel)) (by decide +kernel)
    generalize Int.fmod (cell.natAbs : Int) (10 ^ Int.toNat 60 * 10 ^ Int.toNat 60) = size at hs0 hs1 ⊢
    walk_at "st"
    refine ⟨mul_fit 2 400 (by decide) (by omega), ?_⟩
    walk_at "st"
    refine r_dif ?_
    walk_at "st"
    have rest : ∀ e : Int, (dSq (dAs (dOp dMod (dCB dInt (dCons (dOp (dAdd false) (dOp (dAdd false) (dC (.int (2 * size + e))) (dOp (dMul false) (dVar 1) (dC (.int 130043)))) (dC (.int 70099))) dNil)) (dC (.int 2147483629))) (dgN 4)) (dRt (dLst true (dCons (dIf (dTest (dOp dGe (dVar 3) (dOp dPow (dC (.int 10)) (dC (.int 18))))) (dVar 3) (dC (.int 0))) (dCons (dOp dMod (dCB dInt (dCons (dOp (dMul false) (dOp (dAdd false) (dVar 4) (dC (.int 7019))) (dOp (dAdd false) (dVar 4) (dC (.int 80021)))) dNil)) (dC (.int 2147483629))) (dCons (dVar 1) dNil)))))) { nx := fun x M => Wq Q D.non M, rt := Wq Q } [some (.src ns), some (.int at'), some (.int cell), some (.int size), none, none] M := by
      intro e
      walk_at "st"
      refine ⟨mul_fit 32 32 (by omega) (by decide), ?_⟩
      walk_at "st"
      refine ⟨by decide, ?_⟩
      rw [fmod_pos (j := 2147483629) (by decide)]
      have hz0 : 0 ≤ (2 * size + e + at' * 130043 + 70099) % 2147483629 := Int.emod_nonneg _ (by decide)
      have hz1 : (2 * size + e + at' * 130043 + 70099) % 2147483629 < 2147483629 := Int.emod_lt_of_pos _ (by decide)
      generalize (2 * size + e + at' * 130043 + 70099) % 2147483629 = small at hz0 hz1 ⊢
      walk_at "st"
      refine r_dif ?_
      walk_at "st"
      refine ⟨⟨by decide, by decide, by decide⟩, ?_⟩
      walk_at "st"
      have fin : ∀ a : Int, 0 ≤ a → a < 2 ^ 400 → (dCons (dOp dMod (dCB dInt (dCons (dOp (dMul false) (dOp (dAdd false) (dVar 4) (dC (.int 7019))) (dOp (dAdd false) (dVar 4) (dC (.int 80021)))) dNil)) (dC (.int 2147483629))) (dCons (dVar 1) dNil)) [some (.src ns), some (.int at'), some (.int cell), some (.int size), some (.int small), none] M fun ds M2 => (D.int a :: ds).length ≤ sizeLine ∧ dNew true (D.int a :: ds) M2 (Wq Q) := by
        intro a h0 h1
        walk_at "st"
        refine ⟨mul_fit 40 40 (by omega) (by omega), ?_⟩
        walk_at "st"
        refine ⟨by decide, ?_⟩
        walk_at "st"
        refine r_newT fun p hp => Wq.now (h p _ hp ⟨a, _, at', rfl, h0, h1, ?_, ?_, a0, by omega⟩)
        · rw [fmod_pos (by decide)]; exact Int.emod_nonneg _ (by decide)
        · rw [fmod_pos (by decide)]; exact Int.lt_trans (Int.emod_lt_of_pos _ (by decide)) (by decide)
      refine ⟨fun _ => ?_, fun _ => ?_⟩
      · walk_at "st1"
        exact fin _ hs0 hs1
      · walk_at "st1"
        exact fin _ (by decide) (by decide +kernel)
    refine ⟨fun _ => ?_, fun _ => ?_⟩
    · exact rest 1
    · exact rest 0
  refine r_dif ?_
  walk_at "st"
  refine ⟨fun hl => ?_, fun hl => ?_⟩
  · have hl := of_decide_eq_true hl
    obtain ⟨j, rfl⟩ := Int.eq_ofNat_of_zero_le a0
    have hj : j < ns.length := by omega
    walk_at "st"
    refine r_idxSrc (atI_nat (xs := ns.map D.int) (j := j) (by rw [List.getElem?_map, List.getElem?_eq_getElem hj]; rfl)) ?_
    walk_at "st1"
    walk_at "st1"
    exact tail _
  · clear hl
    walk_at "st"
    rw [show (6 : Int) = ((6 : Nat) : Int) from rfl, cutL_none_nat]
    have hl6 : ((ns.map D.int).take 6).length ≤ 6 := by rw [List.length_take]; omega
    refine lc_map (fun d => match d with
      | .int i => .int (i.fmod 999979)
      | d => d) trivial _ _ (by rw [List.length_nil, Nat.zero_add]; exact sz1000 (by omega)) (fun x hx R hR => ?_) ?_
    · obtain ⟨n, _, rfl⟩ := List.mem_map.mp (List.mem_of_mem_take hx)
      simp only [dwipe, List.set]
      walk_at "st"
      exact ⟨by decide, hR⟩
    · rw [List.nil_append, ← List.map_take, List.map_map]
      walk_at "st"
      refine r_sum (es := ((ns.take 6).map fun i => i.fmod 999979).map D.int) (by rw [List.map_map]; rfl) (intsOf_map _) ?_
      have hb := sum_bd (B := 999979) ((ns.take 6).map fun i => i.fmod 999979) (fun n hn => by
        obtain ⟨m, _, rfl⟩ := List.mem_map.mp hn
        rw [fmod_pos (by decide)]
        exact ⟨Int.emod_nonneg _ (by decide), Int.emod_lt_of_pos _ (by decide)⟩)
      have hl7 : ((ns.take 6).map fun i => i.fmod 999979).length ≤ 6 := by rw [List.length_map, List.length_take]; omega
      have hl8 := Nat.mul_le_mul_right 999979 hl7
      walk_at "st"
      refine ⟨mul_fit 32 64 (by decide) (by omega), ?_⟩
      walk_at "st1"
      walk_at "st1"
      walk_at "st1"
      exact tail _
/-! sameness -/
/-- x looks as the data d does -/
def Vw (M : Mu) (x d : D) : Prop := x = d ∨ ∃ a es, x = .ref a ∧ d = .lst es ∧ M a = some (.lst es)
/-- plain data, not deeper than n -/
def Pl : Nat → D → Prop
  | _, .non => True
  | _, .bl _ => True
  | _, .int _ => True
  | _, .str _ => True
  | n + 1, .tup ds => ds.length ≤ 1000000 ∧ ∀ d ∈ ds, Pl n d
  | n + 1, .lst ds => ds.length ≤ 1000000 ∧ ∀ d ∈ ds, Pl n d
  | _, _ => False
def spS : Nat → DSp
  | 0 => fun _ _ _ _ => False
  | n + 1 => fun ds M Q _ => ∃ x y d, ds = [x, y] ∧ Vw M x d ∧ Vw M y d ∧ Pl n d ∧ Q (.bl true) M
def t_law_same (n : Nat) : DTS := (dSq (dIfS (dOr (dTest (dOp dIsN (dVar 1) (dC .non))) (dTest (dOp dIsN (dVar 0) (dC .non)))) (dRt (dAndV (dOp dIsN (dVar 1) (dC .non)) (dOp dIsN (dVar 0) (dC .non)))) dNx) (dSq (dIfS (dOr (dTru (dCB dIsi (dCons (dVar 1) (dCons (dC (.ty "bool")) dNil)))) (dTru (dCB dIsi (dCons (dVar 0) (dCons (dC (.ty "bool")) dNil))))) (dRt (dAndV (dCB dIsi (dCons (dVar 1) (dCons (dC (.ty "bool")) dNil))) (dAndV (dCB dIsi (dCons (dVar 0) (dCons (dC (.ty "bool")) dNil))) (dOp dEq (dVar 0) (dVar 1))))) dNx) (dSq (dIfS (dTru (dCB dIsi (dCons (dVar 1) (dCons (dC (.ty "int")) dNil)))) (dRt (dAndV (dCB dIsi (dCons (dVar 0) (dCons (dC (.ty "int")) dNil))) (dOp dEq (dVar 0) (dVar 1)))) dNx) (dSq (dIfS (dTru (dCB dIsi (dCons (dVar 1) (dCons (dC (.ty "str")) dNil)))) (dRt (dAndV (dCB dIsi (dCons (dVar 0) (dCons (dC (.ty "str")) dNil))) (dOp dEq (dVar 0) (dVar 1)))) dNx) (dSq (dIfS (dAnd (dTru (dCB dIsi (dCons (dVar 1) (dCons (dC (.ty "tuple")) dNil)))) (dNot (dTru (dCB dIsi (dCons (dVar 0) (dCons (dC (.ty "tuple")) dNil)))))) (dRt (dC (.bl false))) dNx) (dSq (dIfS (dAnd (dTru (dCB dIsi (dCons (dVar 1) (dCons (dC (.ty "list")) dNil)))) (dNot (dTru (dCB dIsi (dCons (dVar 0) (dCons (dC (.ty "list")) dNil)))))) (dRt (dC (.bl false))) dNx) (dSq (dIfS (dTest (dOp dNe (dCB dLen (dCons (dVar 0) dNil)) (dCB dLen (dCons (dVar 1) dNil)))) (dRt (dC (.bl false))) dNx) (dRt (dCB dAll (dCons (dLc false (diR1 (dCons (dCB dLen (dCons (dVar 1) dNil)) dNil)) (dgN 2) dYes (dCall (spS n) [] dX0 (dCons (dOp dIdx (dVar 0) (dVar 2)) (dCons (dOp dIdx (dVar 1) (dVar 2)) dNil))) [2]) dNil))))))))))
theorem len_law_same : ∀ n ds M Q E, spS n ds M Q E → ds.length = 2
  | 0, _, _, _, _, h => h.elim
  | n + 1, ds, M, Q, E, h => by
    obtain ⟨x, y, d, rfl, _⟩ := h
    rfl
theorem r_lenG {M : Mu} {d : D} {es : List D} {Q : DK} (e : dits M d = some es) (q : Q (.int es.length) M) : dLen [d] M Q := by
  unfold dLen
  cases d with
  | str cs => cases e
  | _ => simp only [e]; exact q
theorem r_idxG {M : Mu} {d z : D} {es : List D} {n : Int} {Q : DK} (e : dits M d = some es) (hk : atI es n = some z) (q : Q z M) : dIdx d (.int n) M Q := by
  unfold dIdx
  cases d with
  | str cs => cases e
  | _ => simp only [e, Option.bind_some, hk]; exact q
theorem same_seq {n : Nat} {M : Mu} {Q : DK} {x y : D} {ds : List D} {S : String} (hx : dits M x = some ds) (hy : dits M y = some ds) (nx : DL.isNon x = false) (ny : DL.isNon y = false) (tx : tyNm M x = some S) (ty : tyNm M y = some S) (hS : S = "tuple" ∨ S = "list")
    (hl : ds.length ≤ 1000000) (hp : ∀ d ∈ ds, ∀ Q E, Q (.bl true) M → spS n [d, d] M Q E) (h : Q (.bl true) M) : t_law_same n (dEnd Q) (dstart 3 [x, y]) M := by
  have k1 : kitB S "bool" = some false := by rcases hS with rfl | rfl <;> decide +kernel
  have k2 : kitB S "int" = some false := by rcases hS with rfl | rfl <;> decide +kernel
  have k3 : kitB S "str" = some false := by rcases hS with rfl | rfl <;> decide +kernel
  obtain ⟨k4, e4⟩ : ∃ b, kitB S "tuple" = some b := by rcases hS with rfl | rfl <;> exact ⟨_, rfl⟩
  obtain ⟨k5, e5⟩ : ∃ b, kitB S "list" = some b := by rcases hS with rfl | rfl <;> exact ⟨_, rfl⟩
  unfold t_law_same
  walk_at "go"
  refine r_if (r_or ?_)
  walk_at "st"
  rw [ny]
  refine ⟨fun z => (Bool.noConfusion z), fun _ => ?_⟩
  walk_at "st"
  rw [nx]
  refine ⟨fun z => (Bool.noConfusion z), fun _ => ?_⟩
  walk_at "st"
  refine r_if (r_or ?_)
  walk_at "st"
  refine r_isi ty k1 ?_
  walk_at "st"
  refine ⟨fun z => (Bool.noConfusion z), fun _ => ?_⟩
  walk_at "st"
  refine r_isi tx k1 ?_
  walk_at "st"
  refine ⟨fun z => (Bool.noConfusion z), fun _ => ?_⟩
  walk_at "st"
  refine r_if ?_
  walk_at "st"
  refine r_isi ty k2 ?_
  walk_at "st"
  refine ⟨fun z => (Bool.noConfusion z), fun _ => ?_⟩
  walk_at "st"
  refine r_if ?_
  walk_at "st"
  refine r_isi ty k3 ?_
  walk_at "st"
  refine ⟨fun z => (Bool.noConfusion z), fun _ => ?_⟩
  walk_at "st"
  refine r_if (r_and ?_)
  walk_at "st"
  refine r_isi ty e4 ?_
  walk_at "st"
  have rest : (dSq (dIfS (dAnd (dTru (dCB dIsi (dCons (dVar 1) (dCons (dC (.ty "list")) dNil)))) (dNot (dTru (dCB dIsi (dCons (dVar 0) (dCons (dC (.ty "list")) dNil)))))) (dRt (dC (.bl false))) dNx) (dSq (dIfS (dTest (dOp dNe (dCB dLen (dCons (dVar 0) dNil)) (dCB dLen (dCons (dVar 1) dNil)))) (dRt (dC (.bl false))) dNx) (dRt (dCB dAll (dCons (dLc false (diR1 (dCons (dCB dLen (dCons (dVar 1) dNil)) dNil)) (dgN 2) dYes (dCall (spS n) [] dX0 (dCons (dOp dIdx (dVar 0) (dVar 2)) (dCons (dOp dIdx (dVar 1) (dVar 2)) dNil))) [2]) dNil))))) { nx := fun x M => Wq Q D.non M, rt := Wq Q } [some x, some y, none] M := by
    walk_at "st"
    have rest2 : (dSq (dIfS (dTest (dOp dNe (dCB dLen (dCons (dVar 0) dNil)) (dCB dLen (dCons (dVar 1) dNil)))) (dRt (dC (.bl false))) dNx) (dRt (dCB dAll (dCons (dLc false (diR1 (dCons (dCB dLen (dCons (dVar 1) dNil)) dNil)) (dgN 2) dYes (dCall (spS n) [] dX0 (dCons (dOp dIdx (dVar 0) (dVar 2)) (dCons (dOp dIdx (dVar 1) (dVar 2)) dNil))) [2]) dNil)))) { nx := fun x M => Wq Q D.non M, rt := Wq Q } [some x, some y, none] M := by
      walk_at "st"
      refine r_if ?_
      walk_at "st"
      refine r_lenG hx ?_
      walk_at "st"
      refine r_lenG hy ?_
      walk_at "st"
      refine ⟨fun z => by simp at z, fun _ => ?_⟩
      walk_at "st"
      refine r_lenG hy ?_
      walk_at "st"
      refine r_kR1 (by omega) (by omega) ?_
      rw [Int.toNat_natCast]
      refine lc_map (fun _ => .bl true) trivial _ _ (by rw [rngD_len, List.length_nil, Nat.zero_add]; exact sz1000 hl) (fun z hz R hR => ?_) ?_
      · obtain ⟨j, hj, rfl⟩ := List.mem_map.mp hz
        rw [List.mem_range] at hj
        rw [Int.zero_add]
        simp only [dwipe, List.set]
        walk_at "st"
        have hg := atI_nat (xs := ds) (j := j) (List.getElem?_eq_getElem hj)
        refine r_idxG hx hg ?_
        walk_at "st"
        refine r_idxG hy hg ?_
        walk_at "st"
        exact hp _ (List.getElem_mem hj) _ _ hR
      · walk_at "st"
        refine r_all (bs := List.replicate ds.length true) (es := List.replicate ds.length (.bl true)) ?_ ?_ ?_
        · rw [List.nil_append, List.map_const', rngD_len]; rfl
        · rw [← List.map_replicate, blsOf_map]
        · refine Wq.now ?_
          have : (List.replicate ds.length true).all id = true := by
            rw [List.all_eq_true]
            intro b hb
            exact (List.eq_of_mem_replicate hb)
          rw [this]
          exact h
    refine r_if (r_and ?_)
    walk_at "st"
    refine r_isi ty e5 ?_
    walk_at "st"
    refine ⟨fun z => ?_, fun z => ?_⟩
    · subst z
      walk_at "st"
      refine r_isi tx e5 ?_
      walk_at "st"
      refine ⟨fun z => (Bool.noConfusion z), fun _ => ?_⟩
      exact rest2
    · exact ⟨fun z => (Bool.noConfusion z), fun _ => rest2⟩
  refine ⟨fun z => ?_, fun z => ?_⟩
  · subst z
    walk_at "st"
    refine r_isi tx e4 ?_
    walk_at "st"
    refine ⟨fun z => (Bool.noConfusion z), fun _ => ?_⟩
    exact rest
  · exact ⟨fun z => (Bool.noConfusion z), fun _ => rest⟩
theorem sem_law_same (n : Nat) (ds : List D) (M : Mu) (Q : DK) (E : DXK) (h : spS (n + 1) ds M Q E) : t_law_same n (dEnd Q) (dstart 3 ds) M := by
  obtain ⟨x, y, d, rfl, hx, hy, hp, h⟩ := h
  have seq : ∀ es : List D, (d = .tup es ∨ d = .lst es) → es.length ≤ 1000000 → (∀ e ∈ es, ∀ Q E, Q (.bl true) M → spS n [e, e] M Q E) → t_law_same n (dEnd Q) (dstart 3 [x, y]) M := by
    intro es hd hl hq
    rcases hd with rfl | rfl
    · rcases hx with rfl | ⟨a, fs, _, hz, _⟩
      · rcases hy with rfl | ⟨a, fs, _, hz, _⟩
        · exact same_seq rfl rfl rfl rfl rfl rfl (.inl rfl) hl hq h
        · cases hz
      · cases hz
    · have two : ∀ z, Vw M z (.lst es) → dits M z = some es ∧ DL.isNon z = false ∧ tyNm M z = some "list" := by
        intro z hz
        rcases hz with rfl | ⟨a, fs, rfl, hz, e⟩
        · exact ⟨rfl, rfl, rfl⟩
        · cases hz
          exact ⟨dits_ref e, rfl, tyNm_ref e⟩
      obtain ⟨a1, a2, a3⟩ := two x hx
      obtain ⟨b1, b2, b3⟩ := two y hy
      exact same_seq a1 b1 a2 b2 a3 b3 (.inr rfl) hl hq h
  have atom : (∀ ds, d ≠ .lst ds) → x = d ∧ y = d := fun hd => by
    refine ⟨?_, ?_⟩
    · rcases hx with rfl | ⟨a, fs, _, hz, _⟩
      · rfl
      · exact absurd hz (hd _)
    · rcases hy with rfl | ⟨a, fs, _, hz, _⟩
      · rfl
      · exact absurd hz (hd _)
  cases d with
  | non =>
    obtain ⟨rfl, rfl⟩ := atom (fun _ z => by cases z)
    unfold t_law_same
    walk_at "go"
    refine r_if (r_or ?_)
    walk_at "st"
    refine ⟨fun _ => ?_, fun z => (Bool.noConfusion z)⟩
    refine ⟨fun _ => ?_, fun z => (Bool.noConfusion z)⟩
    walk_at "st"
    refine r_andV ?_
    walk_at "st"
    refine ⟨fun _ => ?_, fun z => (Bool.noConfusion z)⟩
    walk_at "st"
    exact Wq.now h
  | bl b =>
    obtain ⟨rfl, rfl⟩ := atom (fun _ z => by cases z)
    unfold t_law_same
    walk_at "go"
    refine r_if (r_or ?_)
    walk_at "st"
    refine ⟨fun z => (Bool.noConfusion z), fun _ => ?_⟩
    walk_at "st"
    refine ⟨fun z => (Bool.noConfusion z), fun _ => ?_⟩
    walk_at "st"
    refine r_if (r_or ?_)
    walk_at "st"
    refine r_isi (S := "bool") (b := true) rfl (by decide +kernel) ?_
    walk_at "st"
    refine ⟨fun _ => ?_, fun z => (Bool.noConfusion z)⟩
    refine ⟨fun _ => ?_, fun z => (Bool.noConfusion z)⟩
    walk_at "st"
    refine r_andV ?_
    walk_at "st"
    refine r_isi (S := "bool") (b := true) rfl (by decide +kernel) ?_
    walk_at "st"
    refine ⟨fun _ => ?_, fun z => (Bool.noConfusion z)⟩
    refine r_andV ?_
    walk_at "st"
    refine r_isi (S := "bool") (b := true) rfl (by decide +kernel) ?_
    walk_at "st"
    refine ⟨fun _ => ?_, fun z => (Bool.noConfusion z)⟩
    walk_at "st"
    rw [decide_eq_true rfl]
    exact Wq.now h
  | int i =>
    obtain ⟨rfl, rfl⟩ := atom (fun _ z => by cases z)
    unfold t_law_same
    walk_at "go"
    refine r_if (r_or ?_)
    walk_at "st"
    refine ⟨fun z => (Bool.noConfusion z), fun _ => ?_⟩
    walk_at "st"
    refine ⟨fun z => (Bool.noConfusion z), fun _ => ?_⟩
    walk_at "st"
    refine r_if (r_or ?_)
    walk_at "st"
    refine r_isi (S := "int") (b := false) rfl (by decide +kernel) ?_
    walk_at "st"
    refine ⟨fun z => (Bool.noConfusion z), fun _ => ?_⟩
    walk_at "st"
    refine r_isi (S := "int") (b := false) rfl (by decide +kernel) ?_
    walk_at "st"
    refine ⟨fun z => (Bool.noConfusion z), fun _ => ?_⟩
    walk_at "st"
    refine r_if ?_
    walk_at "st"
    refine r_isi (S := "int") (b := true) rfl (by decide +kernel) ?_
    walk_at "st"
    refine ⟨fun _ => ?_, fun z => (Bool.noConfusion z)⟩
    walk_at "st"
    refine r_andV ?_
    walk_at "st"
    refine r_isi (S := "int") (b := true) rfl (by decide +kernel) ?_
    walk_at "st"
    refine ⟨fun _ => ?_, fun z => (Bool.noConfusion z)⟩
    walk_at "st"
    rw [decide_eq_true rfl]
    exact Wq.now h
  | str i =>
    obtain ⟨rfl, rfl⟩ := atom (fun _ z => by cases z)
    unfold t_law_same
    walk_at "go"
    refine r_if (r_or ?_)
    walk_at "st"
    refine ⟨fun z => (Bool.noConfusion z), fun _ => ?_⟩
    walk_at "st"
    refine ⟨fun z => (Bool.noConfusion z), fun _ => ?_⟩
    walk_at "st"
    refine r_if (r_or ?_)
    walk_at "st"
    refine r_isi (S := "str") (b := false) rfl (by decide +kernel) ?_
    walk_at "st"
    refine ⟨fun z => (Bool.noConfusion z), fun _ => ?_⟩
    walk_at "st"
    refine r_isi (S := "str") (b := false) rfl (by decide +kernel) ?_
    walk_at "st"
    refine ⟨fun z => (Bool.noConfusion z), fun _ => ?_⟩
    walk_at "st"
    refine r_if ?_
    walk_at "st"
    refine r_isi (S := "str") (b := false) rfl (by decide +kernel) ?_
    walk_at "st"
    refine ⟨fun z => (Bool.noConfusion z), fun _ => ?_⟩
    walk_at "st"
    refine r_if ?_
    walk_at "st"
    refine r_isi (S := "str") (b := true) rfl (by decide +kernel) ?_
    walk_at "st"
    refine ⟨fun _ => ?_, fun z => (Bool.noConfusion z)⟩
    walk_at "st"
    refine r_andV ?_
    walk_at "st"
    refine r_isi (S := "str") (b := true) rfl (by decide +kernel) ?_
    walk_at "st"
    refine ⟨fun _ => ?_, fun z => (Bool.noConfusion z)⟩
    walk_at "st"
    rw [decide_eq_true rfl]
    exact Wq.now h
  | tup es =>
    cases n with
    | zero => exact hp.elim
    | succ m => exact seq es (.inl rfl) hp.1 fun e he Q E q => ⟨e, e, e, rfl, .inl rfl, .inl rfl, hp.2 e he, q⟩
  | lst es =>
    cases n with
    | zero => exact hp.elim
    | succ m => exact seq es (.inr rfl) hp.1 fun e he Q E q => ⟨e, e, e, rfl, .inl rfl, .inl rfl, hp.2 e he, q⟩
  | src _ => cases n <;> exact hp.elim
  | ref _ => cases n <;> exact hp.elim
  | ty _ => cases n <;> exact hp.elim
  | exc _ _ _ _ _ => cases n <;> exact hp.elim
def sp_law_same : DSp := spS 9
/-! a def that promises nothing -/
theorem cal_no {P : Program} {w : World} {K : PySem.W.Frag} {mg : Str → Option Value} {base : Heap} {x : Str} {st : Stmt} {N ps : List Str} (d : DefAt K mg x st) (S : FnScope N ps (defScope st))
    (hbind : ∀ (kV doc pm : Value) (an : Option Addr) (cdv ct : Value) (us : List Value), us.length = ps.length → bindArgs (PySem.W.fnOf x x (defArgs st) (defBody st) (defScope st) .none kV doc pm an cdv ct) ⟨us, []⟩ = pure (ps.zip us)) :
    Cal P w K mg base 0 x ps (fun _ _ _ _ => False) := by
  obtain ⟨f, fd, F, m⟩ := d
  refine ⟨f, fd, ⟨fun vs H Q E h => ?_, fun A outer s H args us vs Q E hr he hb hv h => ?_⟩, m, F.kp, ?_⟩
  · obtain ⟨ds, M, F, Qd, Ed, r, s, h, _⟩ := h
    exact h.elim
  · obtain ⟨ds, M, F, Qd, Ed, r, s, h, _⟩ := h
    exact h.elim
  · exact F.bindsN hbind
end DL

namespace DL
open PySem PySem.Spec PyProof.Rows L2 TL

/-! ### from the head's facts to the data layer -/
section
variable {K : PySem.W.Frag} {h : Heap} {mg : Str → Option Value} {w : World} {fa : List He.Fa} {fn : List He.DefD} {x : Str}
theorem defAt_of (X : K.In h) (G : h.Ns mainGlobals mg) (c : He.SaysD fa fn K) {st : Stmt} (i j : Nat) (h1 : fn[i]? = some (mkD x st)) (h2 : fa[j]? = some (.glo x)) : DefAt K mg x st := by
  obtain ⟨fd, F⟩ := c.def_ i h1
  exact ⟨_, fd, F, He.glo_ok X G (c.fact j h2)⟩
theorem free_of (X : K.In h) (G : h.Ns mainGlobals mg) (c : He.SaysD fa fn K) (j : Nat) (h2 : fa[j]? = some (.free x)) : mg x = none := He.free_ok X G (c.fact j h2)
theorem gcS_of (X : K.In h) (G : h.Ns mainGlobals mg) (c : He.SaysD fa fn K) (j : Nat) {z : Str} {cs : List Nat} (h2 : fa[j]? = some (.str x z)) (e : z = mkS cs) : GC K mg x (.str cs) := by
  obtain ⟨t, e2⟩ := He.str_ok X G (c.fact j h2)
  exact gc_str e2 e
theorem gcI_of (X : K.In h) (G : h.Ns mainGlobals mg) (c : He.SaysD fa fn K) (j : Nat) {i : Int} (h2 : fa[j]? = some (.int x i)) : GC K mg x (.int i) := by
  obtain ⟨t, e2⟩ := He.int_ok X G (c.fact j h2)
  exact ⟨_, .int i, e2, ⟨t, rfl⟩, fun F => by unfold Rp; rfl⟩
theorem gdI_of (X : K.In h) (G : h.Ns mainGlobals mg) {ts : List He.Tab} (c : He.SaysT fa fn ts w K) (j i : Nat) {key : Str} {n : Int} {t : He.Tab} (h2 : fa[j]? = some (.glo x)) (h3 : ts[i]? = some t) (ht : t.1 K = He.ga K x) {kvs : List (Str × He.Dv)} (hv : He.valsB K (He.ga K x) kvs = true) (hm : (key, He.Dv.int n) ∈ kvs) : GD K mg w x key (.int n) := by
  obtain ⟨es, m, hd⟩ := c.tab i h3
  rw [ht] at hd
  obtain ⟨u, e, r⟩ := He.valsB_ok hv hm
  refine ⟨_, .int n, He.glo_ok X G (c.d.fact j h2), ⟨es, m, u, hd.at_, hd.lit, e, r⟩, fun F => by unfold Rp; rfl⟩
end
/-- the law's own def: from its script to True -/
theorem law_sp {K : PySem.W.Frag} {sp : DSp} (h : ∀ ns M Q E, Q (.bl true) M → sp [.src ns] M Q E) (H : Hp) (a : Addr) (ns : List Int) (hS : SqL K H a (ns.map V.int)) : liftSp K sp [.ref a] H (fun v _ => v = .bl true) fun _ _ _ => False := by
  refine ⟨[.src ns], fun _ => none, H, fun d _ => d = .bl true, fun _ _ => False, ?_, @Sv.mk gh0 _ _ _ _ ⟨Le.refl H, fun _ _ _ => rfl, fun _ _ e => by cases e⟩ trivial, h _ _ _ _ rfl, ?_, fun _ _ _ _ _ q _ _ _ => q.elim⟩
  · refine RpL.cons ?_ RpL.nil
    unfold Rp
    exact ⟨a, rfl, hS⟩
  · intro d M' F' v H' q g s r
    subst q
    unfold Rp at r
    exact r
/-- sameness, to a depth -/
theorem cal_same {P : Program} {w : World} {K : PySem.W.Frag} {mg : Str → Option Value} {base : Heap} {st : Stmt} {N : List Str} (d : DefAt K mg "_law_same" st) (S : FnScope N ["answer", "due"] (defScope st)) (hN : N.length = 3)
    (hb : ∀ (n k : Nat), Cal P w K mg base k "_law_same" ["answer", "due"] (spS n) → ∀ (f : Addr) (cdv : Value) (A : Around) (outer : List Env) (s : Shared) (H : Hp) (E : XK), Room k (A.deeper (envOfC "_law_same" (defScope st) s.heap.objs.size f cdv)) → @DSs gh0 (cxOf CX0 P w K mg base N "_law_same" (defScope st) f cdv A outer s H E).nox (defBody st) (t_law_same n))
    (hbind : ∀ (kV doc pm : Value) (an : Option Addr) (cdv ct : Value) (us : List Value), us.length = 2 → bindArgs (PySem.W.fnOf "_law_same" "_law_same" (defArgs st) (defBody st) (defScope st) .none kV doc pm an cdv ct) ⟨us, []⟩ = pure ((["answer", "due"] : List Str).zip us)) :
    ∀ n, Cal P w K mg base n "_law_same" ["answer", "due"] (spS n)
  | 0 => cal_no d S hbind
  | n + 1 => cal_of d S (len_law_same (n + 1)) hbind (hb n n (cal_same d S hN hb hbind n)) fun ds M Q E h => by
    rw [hN]
    exact sem_law_same n ds M Q E h
end DL

namespace DL
open PySem PySem.Spec PyProof.Rows L2 TL
/-! ### a tuple of texts of the module -/
def strsB : List Value → List Str → Bool
  | [], [] => true
  | .str a _ :: vs, b :: bs => decide (a = b) && strsB vs bs
  | _, _ => false
def tupB (K : PySem.W.Frag) (a : Addr) (zs : List Str) : Bool := match K.lookup a with
  | some ⟨.type c, _, .seq its _, _⟩ => decide (c = "tuple") && (decide (its.size ≤ 1000) && strsB its.toList zs)
  | _ => false
theorem strsB_ok : ∀ {vs : List Value} {zs : List Str}, strsB vs zs = true → Vals (zs.map V.str) vs
  | [], [], _ => .nil
  | v :: vs, [], h => by cases v <;> cases h
  | [], z :: zs, h => by cases h
  | v :: vs, z :: zs, h => by
    cases v with
    | str a t =>
      obtain ⟨h1, h2⟩ := He.ba h
      have h1 : a = z := of_decide_eq_true h1
      subst h1
      exact .cons ⟨t, rfl⟩ (strsB_ok h2)
    | _ => cases h
theorem rpl_strs {K : PySem.W.Frag} {F : Hp} : ∀ {zs : List Str} {cs : List (List Nat)}, zs = cs.map mkS → RpL K F (cs.map D.str) (zs.map V.str)
  | _, [], e => by subst e; exact RpL.nil
  | _, c :: cs, e => by
    subst e
    exact RpL.cons (by unfold Rp; rfl) (rpl_strs rfl)
theorem gcT_of {K : PySem.W.Frag} {h : Heap} {mg : Str → Option Value} {fa : List He.Fa} {fn : List He.DefD} {x : Str} (X : K.In h) (G : h.Ns mainGlobals mg) (c : He.SaysD fa fn K) (j : Nat) {zs : List Str} {cs : List (List Nat)} (h2 : fa[j]? = some (.glo x)) (ht : tupB K (He.ga K x) zs = true) (e : zs = cs.map mkS) : GC K mg x (.tup (cs.map D.str)) := by
  refine ⟨_, .ref (He.ga K x), He.glo_ok X G (c.fact j h2), rfl, fun F => ?_⟩
  unfold Rp
  refine ⟨_, zs.map V.str, rfl, .inr ?_, rpl_strs e⟩
  unfold tupB at ht
  split at ht
  · next cl _ its n _ e2 =>
    obtain ⟨h3, h4⟩ := He.ba ht
    obtain ⟨h5, h6⟩ := He.ba h4
    have h3 : cl = "tuple" := of_decide_eq_true h3
    subst h3
    exact ⟨_, its, _, e2, rfl, rfl, sz1000 (Nat.le_trans (of_decide_eq_true h5) (by decide)), strsB_ok h6⟩
  · cases ht
end DL

namespace DL
open PySem PySem.Spec PyProof.Rows L2 TL
/-! ### texts: slices, joined texts, lines -/
theorem cutL_nat_none {α : Type} {xs : List α} {n : Nat} : cutL xs (some (n : Int)) none = xs.drop n := by
  unfold cutL
  rw [HT.sIx_none, HT.sIx_nat]
  by_cases h : n ≤ xs.length
  · rw [Nat.min_eq_left h, List.take_of_length_le (by rw [List.length_drop]; omega)]
  · rw [Nat.min_eq_right (by omega), List.drop_of_length_le (Nat.le_refl _), List.drop_of_length_le (by omega), List.take_nil]
theorem cutL_none_neg1 {α : Type} {xs : List α} : cutL xs none (some (-1)) = xs.dropLast := by
  unfold cutL
  rw [HT.sIx_none, List.drop_zero, Nat.sub_zero, List.dropLast_eq_take]
  congr 1
  show (if (-1 : Int) < 0 then ((-1 : Int) + (xs.length : Int)).toNat else min (-1 : Int).toNat xs.length) = _
  rw [if_pos (by decide)]
  omega
theorem join_flat (p : List Nat) : ∀ ps : List (List Nat), joinL [32] (p :: ps) = p ++ (ps.map (32 :: ·)).flatten := by
  intro ps
  induction ps generalizing p with
  | nil => simp [joinL]
  | cons q r ih =>
    show p ++ ([32] ++ joinL [32] (q :: r)) = _
    rw [ih q]
    simp
theorem join_nil : ∀ ps : List (List Nat), joinL [] ps = ps.flatten := by
  intro ps
  induction ps with
  | nil => rfl
  | cons p r ih =>
    cases r with
    | nil => simp [joinL]
    | cons q r =>
      show p ++ ([] ++ joinL [] (q :: r)) = _
      rw [ih]
      simp
theorem join_snoc {S : List Nat} : ∀ {ps : List (List Nat)} {q : List Nat}, ps ≠ [] → joinL S (ps ++ [q]) = joinL S ps ++ (S ++ q)
  | [], _, h => absurd rfl h
  | [p], q, _ => rfl
  | p :: p2 :: r, q, _ => by
    show p ++ (S ++ joinL S ((p2 :: r) ++ [q])) = p ++ (S ++ joinL S (p2 :: r)) ++ (S ++ q)
    rw [join_snoc (by simp)]
    simp
theorem join_free {c : Nat} {S : List Nat} (hS : c ∉ S) : ∀ {ps : List (List Nat)}, (∀ w ∈ ps, c ∉ w) → c ∉ joinL S ps
  | [], _ => by simp [joinL]
  | [p], h => h p (List.mem_cons_self ..)
  | p :: q :: r, h => by
    show c ∉ p ++ (S ++ joinL S (q :: r))
    have i := join_free hS (ps := q :: r) fun w hw => h w (List.mem_cons_of_mem _ hw)
    have j := h p (List.mem_cons_self ..)
    simp [List.mem_append, hS, i, j]
def textOf (ls : List (List Nat)) : List Nat := (ls.map (· ++ [10])).flatten
theorem textOf_cons (l : List Nat) (ls : List (List Nat)) : textOf (l :: ls) = l ++ (10 :: textOf ls) := by
  unfold textOf
  rw [List.map_cons, List.flatten_cons]
  simp
theorem textOf_app (a b : List (List Nat)) : textOf (a ++ b) = textOf a ++ textOf b := by
  unfold textOf
  rw [List.map_append, List.flatten_append]
theorem spl_text : ∀ (ls : List (List Nat)) (r : List Nat), (∀ l ∈ ls, 10 ∉ l) → spl [10] 0 [] (textOf ls ++ r) = ls ++ spl [10] 0 [] r
  | [], r, _ => rfl
  | l :: ls, r, h => by
    rw [textOf_cons, List.append_assoc]
    have := spl_part1 (s := 10) (S := []) (acc := []) (rest := textOf ls ++ r) (h l (List.mem_cons_self ..))
    rw [show l ++ (10 :: textOf ls ++ r) = l ++ ([10] ++ (textOf ls ++ r)) by simp]
    rw [this, List.nil_append, spl_text ls r fun z hz => h z (List.mem_cons_of_mem _ hz)]
    rfl
theorem spl_text0 (ls : List (List Nat)) (h : ∀ l ∈ ls, 10 ∉ l) : spl [10] 0 [] (textOf ls) = ls ++ [[]] := by
  have := spl_text ls [] h
  rw [List.append_nil, spl_nil] at this
  exact this
theorem text_len {B : Nat} : ∀ ls : List (List Nat), (∀ l ∈ ls, l.length ≤ B) → (textOf ls).length ≤ (B + 1) * ls.length
  | [], _ => by simp [textOf]
  | l :: ls, h => by
    rw [textOf_cons, List.length_append, List.length_cons, List.length_cons, Nat.mul_succ]
    have := text_len ls fun z hz => h z (List.mem_cons_of_mem _ hz)
    have := h l (List.mem_cons_self ..)
    omega
theorem sum_lens (L : List (List Nat)) : (L.map (·.length)).sum = L.flatten.length := List.length_flatten.symm
theorem sum_len {B : Nat} : ∀ ps : List (List Nat), (∀ p ∈ ps, p.length ≤ B) → (ps.map (·.length)).sum ≤ B * ps.length
  | [], _ => by simp
  | p :: r, h => by
    rw [List.map_cons, List.sum_cons, List.length_cons, Nat.mul_succ]
    have := sum_len r fun q hq => h q (List.mem_cons_of_mem _ hq)
    have := h p (List.mem_cons_self ..)
    omega
theorem spl_bd (S : List Nat) : ∀ (l : List Nat) (k : Nat) (acc : List Nat), (∀ p ∈ spl S k acc l, p.length ≤ acc.length + l.length) ∧ (spl S k acc l).length ≤ l.length + 1
  | [], k, acc => by rw [spl_nil]; simp
  | c :: r, k + 1, acc => by
    obtain ⟨h1, h2⟩ := spl_bd S r k acc
    show (∀ p ∈ spl S k acc r, _) ∧ (spl S k acc r).length ≤ _
    refine ⟨fun p hp => ?_, ?_⟩
    · have := h1 p hp; rw [List.length_cons]; omega
    · rw [List.length_cons]; omega
  | c :: r, 0, acc => by
    cases h : pre S (c :: r) with
    | true =>
      rw [spl_hit h]
      obtain ⟨h1, h2⟩ := spl_bd S r (S.length - 1) []
      refine ⟨fun p hp => ?_, ?_⟩
      · rcases List.mem_cons.mp hp with rfl | hp
        · omega
        · have := h1 p hp; rw [List.length_cons]; simp at this; omega
      · rw [List.length_cons, List.length_cons]; omega
    | false =>
      rw [spl_miss h]
      obtain ⟨h1, h2⟩ := spl_bd S r 0 (acc ++ [c])
      refine ⟨fun p hp => ?_, ?_⟩
      · have := h1 p hp; rw [List.length_append] at this; simp at this ⊢; omega
      · rw [List.length_cons]; omega
/-- the first of the parts stands at the head -/
theorem spl_first {s : Nat} : ∀ (l acc : List Nat), (∃ w, spl [s] 0 acc l = [acc ++ w] ∧ l = w ∧ s ∉ w) ∨ ∃ w r, l = w ++ (s :: r) ∧ s ∉ w ∧ spl [s] 0 acc l = (acc ++ w) :: spl [s] 0 [] r
  | [], acc => .inl ⟨[], by rw [spl_nil, List.append_nil], rfl, by simp⟩
  | c :: r, acc => by
    by_cases h : c = s
    · subst h
      refine .inr ⟨[], r, rfl, by simp, ?_⟩
      rw [spl_hit (by unfold pre; simp), List.append_nil, show [c].length - 1 = 0 from rfl]
    · have hm : pre [s] (c :: r) = false := pre_of_head [] r h
      rw [spl_miss hm]
      rcases spl_first r (acc ++ [c]) with ⟨w, e, e2, e3⟩ | ⟨w, q, e, e2, e3⟩
      · exact .inl ⟨c :: w, by rw [e]; simp, by rw [e2], by simp [e3]; exact fun z => h z.symm⟩
      · exact .inr ⟨c :: w, q, by rw [e]; rfl, by simp [e2]; exact fun z => h z.symm, by rw [e3]; simp⟩
theorem spl_ne (S : List Nat) (l acc : List Nat) (k : Nat) : spl S k acc l ≠ [] := by
  induction l generalizing k acc with
  | nil => rw [spl_nil]; simp
  | cons c r ih =>
    cases k with
    | zero =>
      cases h : pre S (c :: r) with
      | true => rw [spl_hit h]; simp
      | false => rw [spl_miss h]; exact ih _ _
    | succ k => exact ih _ _
theorem starts_pre {a b : List Nat} (hb : b ≠ []) : Txt.startswith (mkS a) (mkS b) = decide (a.take b.length = b) := by
  have h := at_iff (x := mkS a) (y := mkS b) hb 0
  have e : PySem.StrLaws.At (mkS a) (mkS b) (mkS a).length 0 ↔ Txt.startswith (mkS a) (mkS b) = true := by
    unfold Txt.startswith
    rw [Bool.and_eq_true, decide_eq_true_iff]
    exact Iff.rfl
  rw [Bool.eq_iff_iff, ← e, h, decide_eq_true_iff]
  unfold pre
  rw [beq_iff_eq]
  exact Iff.rfl
theorem numI_nat (n : Nat) : numI (n : Int) = numL n := tl_num n
theorem numI_free {c : Nat} (h : c ≠ 45 ∧ (c < 48 ∨ 57 < c)) (i : Int) : c ∉ numI i := int_text_free' c h i
theorem numI_len {n k : Nat} (hk : 0 < k) (h : n < 10 ^ k) : (numI (n : Int)).length ≤ k := by rw [numI_nat]; exact numL_len hk h
theorem rng_mem {n : Nat} {x : D} (h : x ∈ rngD 0 n) : ∃ j : Nat, j < n ∧ x = .int (j : Int) := by
  obtain ⟨j, hj, rfl⟩ := List.mem_map.mp h
  rw [List.mem_range] at hj
  exact ⟨j, hj, by rw [Int.zero_add]⟩
theorem rng_map (n : Nat) (f : D → D) : (rngD 0 n).map f = (List.range n).map fun j => f (.int ((j : Nat) : Int)) := by
  unfold rngD
  rw [List.map_map]
  refine List.map_congr_left fun j _ => ?_
  show f (.int (0 + (j : Int))) = _
  rw [Int.zero_add]
/-! ### plain data -/
theorem pl_up : ∀ (n : Nat) (d : D), Pl n d → Pl (n + 1) d
  | _, .non, _ => True.intro
  | _, .bl _, _ => True.intro
  | _, .int _, _ => True.intro
  | _, .str _, _ => True.intro
  | 0, .tup _, h => h.elim
  | 0, .lst _, h => h.elim
  | n + 1, .tup ds, h => ⟨h.1, fun d hd => pl_up n d (h.2 d hd)⟩
  | n + 1, .lst ds, h => ⟨h.1, fun d hd => pl_up n d (h.2 d hd)⟩
  | n, .src _, h => by cases n <;> exact h.elim
  | n, .exc _ _ _ _ _, h => by cases n <;> exact h.elim
  | n, .ref _, h => by cases n <;> exact h.elim
  | n, .ty _, h => by cases n <;> exact h.elim
theorem pl_le {m n : Nat} {d : D} (h : Pl m d) (l : m ≤ n) : Pl n d := by
  induction l with
  | refl => exact h
  | step _ ih => exact pl_up _ _ ih
theorem same_of {M : Mu} {x y : D} {Q : DK} {E : DXK} (d : D) (hx : Vw M x d) (hy : Vw M y d) (hp : Pl 8 d) (h : Q (.bl true) M) : sp_law_same [x, y] M Q E := ⟨x, y, d, rfl, hx, hy, hp, h⟩
/-! ### more rules -/
section
variable {δ : DEnv} {M : Mu} {Q : DK} {D0 : DEnds} {c : DTT} {b : DTS} {mu : Bool} {x y : D} {as bs : List D} {a : Addr} {cs : List Nat}
theorem r_while (W : Nat → DEnv → Mu → Prop) (m : Nat) (h0 : W m δ M) (h : ∀ m δ M, W m δ M → c δ M fun k M1 => (k = true → b { nx := fun δ' M' => ∃ m', m' < m ∧ W m' δ' M', rt := D0.rt, ct := fun δ' M' => ∃ m', m' < m ∧ W m' δ' M', bk := D0.nx } δ M1) ∧ (k = false → D0.nx δ M1)) : dWhile c b D0 δ M := by
  refine ⟨W, ⟨m, h0⟩, fun m δ M hw => ?_⟩
  refine cast (congrArg (fun z => c δ M z) (funext fun k => funext fun M1 => ?_)) (h m δ M hw)
  cases k <;> simp
theorem r_addG (hx : dseq M x = some as) (hy : dseq M y = some bs) (hl : as.length + bs.length ≤ sizeLine) (q : dNew mu (as ++ bs) M Q) : dAdd mu x y M Q := by
  unfold dAdd
  cases x <;> first | cases hx; done | skip
  all_goals cases y <;> first | cases hy; done | skip
  all_goals simp only [hx, hy]; exact ⟨hl, q⟩
theorem dseq_sub {M' : Mu} (s : Sub M M') (h : dseq M x = some as) : dseq M' x = some as := by
  cases x with
  | ref a =>
    have h : (match M a with
      | some (.lst ds) => some ds
      | _ => none) = some as := h
    show (match M' a with
      | some (.lst ds) => some ds
      | _ => none) = some as
    cases e : M a with
    | none => rw [e] at h; cases h
    | some o =>
      rw [e] at h
      rw [s a o e]
      exact h
  | lst ds => exact h
  | _ => cases h
theorem r_inT {neg : Bool} (q : Q (.bl (if neg then !inD (.str cs) as else inD (.str cs) as)) M) (h : as.all flatD = true) : dInB neg (.str cs) (.tup as) M Q := by
  unfold dInB
  match cs with
  | [] => exact ⟨rfl, h, q⟩
  | [c] => exact ⟨rfl, h, q⟩
  | c :: d :: r => exact ⟨rfl, h, q⟩
theorem inD_strs (w : List Nat) (ks : List (List Nat)) : inD (.str w) (ks.map .str) = decide (w ∈ ks) := by
  unfold inD
  rw [List.any_map, Bool.eq_iff_iff, List.any_eq_true, decide_eq_true_iff]
  constructor
  · rintro ⟨k, hk, e⟩
    have : k = w := of_decide_eq_true e
    exact this ▸ hk
  · intro h
    exact ⟨w, h, decide_eq_true rfl⟩
theorem r_extend {d : D} (e : M a = some (.lst as)) (h : dseq M d = some bs) (hl : as.length + bs.length ≤ sizeLine) (q : Q .non (mset M a (.lst (as ++ bs)))) : dExtend (.ref a) [d] M Q := by
  unfold dExtend
  simp only [e, h]
  exact ⟨hl, q⟩
theorem r_lenQ {d : D} (e : dseq M d = some as) (q : Q (.int as.length) M) : dLen [d] M Q := r_lenG (by cases d <;> first | exact e | cases e) q
theorem r_idxQ {d z : D} {n : Int} (e : dseq M d = some as) (hk : atI as n = some z) (q : Q z M) : dIdx d (.int n) M Q := r_idxG (by cases d <;> first | exact e | cases e) hk q
theorem r_tupQ {d : D} (e : dseq M d = some as) (q : Q (.tup as) M) : dTupOf [d] M Q := by
  unfold dTupOf
  cases d with
  | tup _ => cases e
  | ref a => simp only [dlis, e]; exact q
  | lst _ => simp only [dlis, e]; exact q
  | _ => cases e
theorem r_kIQ {R : List D → (Mu → Prop) → Mu → Prop} (h : dseq M x = some as) (q : ∀ g : Mu → Prop, g M → R as g M) : kI R x M := by
  cases x with
  | lst ds =>
    cases h
    exact q _ trivial
  | ref a =>
    have h : (match M a with
      | some (.lst ds) => some ds
      | _ => none) = some as := h
    cases e : M a with
    | none => rw [e] at h; cases h
    | some o =>
      rw [e] at h
      cases o with
      | lst ds =>
        cases h
        exact r_kIr e (q _ e)
      | dic _ => cases h
  | _ => cases h
theorem atI_str {L : List (List Nat)} {j : Nat} (h : j < L.length) : atI (L.map D.str) (j : Int) = some (.str (L[j]'h)) := atI_nat (by rw [List.getElem?_map, List.getElem?_eq_getElem h]; rfl)
theorem atI_last {α : Type} {xs : List α} {x : α} (h : xs.getLast? = some x) : atI xs (-1) = some x := by
  have hl : 0 < xs.length := by
    cases xs with
    | nil => cases h
    | cons _ _ => simp
  have e : ixN xs.length (-1) = some (xs.length - 1) := by
    unfold ixN
    rw [if_neg (by decide), if_pos (by omega)]
    congr 1
    omega
  unfold atI
  rw [e, Option.bind_some, ← List.getLast?_eq_getElem?]
  exact h
end
end DL

namespace DL
open PySem PySem.Spec PyProof.Rows L2 TL
/-! ### a - b of two bools -/
def b2I (p : Bool) : Int := if p = true then 1 else 0
def dSubB : DR2
  | .bl p, .bl q, M, Q => Q (.int (b2I p - b2I q)) M
  | _, _, _, _ => False
def rSubB : R2 := fun x y H Q => ∃ p q, x = .bl p ∧ y = .bl q ∧ Q (.int (b2I p - b2I q)) H
theorem op_subB {X : Cx} : OpR X (binaryOp .Sub) rSubB := by
  intro pins s σ H x y v u Q I rx ry h
  obtain ⟨p, q, rfl, rfl, h⟩ := h
  obtain rfl : v = Value.bool p := rx
  obtain rfl : u = Value.bool q := ry
  exact PyProof.Rows.sub_bool ⟨.int (b2I p - b2I q), H, I.tok _, ⟨_, rfl⟩, h⟩
theorem rel_subB [Ghost] {K : PySem.W.Frag} : Rel2 K rSubB dSubB := by
  intro x y vx vy H F M Qd Q rx ry s q po
  cases x <;> first | exact False.elim q | skip
  cases y <;> first | exact False.elim q | skip
  unfold Rp at rx ry
  subst rx ry
  exact ⟨_, _, rfl, rfl, po _ _ _ _ _ q Go.refl s (by unfold Rp; rfl)⟩
theorem de_subB [Ghost] {X : Cx} {a b : Expr} {ua ub : DTE} {pos : Pos} (ha : DE X a ua) (hb : DE X b ub) : DE X (.BinOp a .Sub b pos) (dOp dSubB ua ub) := de_op op_subB rel_subB ha hb
theorem r_subB {p q : Bool} {M : Mu} {Q : DK} (h : Q (.int (b2I p - b2I q)) M) : dSubB (.bl p) (.bl q) M Q := h
/-! ### range(i, j, -1) -/
def rngDn (hi : Int) (n : Nat) : List D := (List.range n).map fun k => .int (hi + (k : Nat) * (-1))
def kR3 (R : List D → (Mu → Prop) → Mu → Prop) : List D → Mu → Prop := fun ds M1 => match ds with
  | [.int i, .int j, .int (-1)] => (-(2 ^ 62) ≤ i ∧ i < 2 ^ 62 ∧ -(2 ^ 62) ≤ j ∧ j < 2 ^ 62) ∧ R (rngDn i (i - j).toNat) (fun _ => True) M1
  | _ => False
def diR3 (ua : DTA) : DTI := fun δ M R => ua δ M (kR3 R)
theorem rngDn_len (lo : Int) (n : Nat) : (rngDn lo n).length = n := by unfold rngDn; rw [List.length_map, List.length_range]
theorem rngDn_at {lo : Int} {n i : Nat} (h : i < n) : (rngDn lo n)[i]? = some (.int (lo + (i : Nat) * (-1))) := by
  unfold rngDn
  rw [List.getElem?_map, List.getElem?_range h]
  rfl
theorem di_r3 [Ghost] {X : Cx} {tg a b c : Expr} {ua : DTA} {p pos : Pos} (hg : Gl X "range") (hm : X.mg "range" = none) (ha : DA X [a, b, c] ua)
    (hs : starEach [a, b, c] X.env = (false, eval a X.env) :: starEach [b, c] X.env := by rfl) (hpl : (backTo pos (starEach [b, c] X.env)).any (·.1) = false := by rfl) :
    DI X tg (.Call (.Name "range" p) [a, b, c] [] pos) (diR3 ua) := PI.weak (pi_range3 hg hm ha hs hpl) fun σ H R h => by
  obtain ⟨δ, M, F, Rd, hE, s, hu, po⟩ := h
  refine ⟨δ, M, F, _, hE, s, hu, fun ds M1 F1 vs H1 q g s1 r => ?_⟩
  unfold kR3 at q
  split at q
  · next i j =>
    obtain ⟨⟨b1, b2, b3, b4⟩, q⟩ := q
    unfold RpL at r
    obtain ⟨x1, r1, rfl, h1, r⟩ := r
    unfold RpL at r
    obtain ⟨x2, r2, rfl, h2, r⟩ := r
    unfold RpL at r
    obtain ⟨x3, r3, rfl, h3, r⟩ := r
    unfold RpL at r
    subst r
    unfold Rp at h1 h2 h3
    subst h1 h2 h3
    refine ⟨i, j, -1, (i - j).toNat, rfl, RgC.neg b1 b2 b3 b4, ?_⟩
    refine po (rngDn i (i - j).toNat) _ M1 F1 H1 (Itc i (-1) (i - j).toNat) (fun _ => True) (YFn fun k => .int (i + (k : Nat) * (-1))) q g s1 (by rw [rngDn_len]; exact walk_rangeC) (fun _ _ _ _ _ _ => trivial) fun k H2 F2 M2 x H3 hi g2 s2 _ y => ?_
    rw [rngDn_len] at hi
    obtain ⟨e1, e2⟩ := y
    subst e1 e2
    exact ⟨F2, s2, Go.refl, _, rngDn_at hi, by unfold Rp; rfl⟩
  · exact q.elim
theorem r_r3 {δ : DEnv} {M : Mu} {us : DTA} {R : List D → (Mu → Prop) → Mu → Prop} (h : us δ M (kR3 R)) : diR3 us δ M R := h
theorem r_kR3 {n m : Int} {M : Mu} {R : List D → (Mu → Prop) → Mu → Prop} (h0 : -(2 ^ 62) ≤ n ∧ n < 2 ^ 62 ∧ -(2 ^ 62) ≤ m ∧ m < 2 ^ 62) (h : R (rngDn n (n - m).toNat) (fun _ => True) M) : kR3 R [.int n, .int m, .int (-1)] M := ⟨h0, h⟩
/-! ### reversed(x), x a tuple -/
def kRv (R : List D → (Mu → Prop) → Mu → Prop) : DK := fun d M1 => match d with
  | .tup ds => R ds.reverse (fun _ => True) M1
  | _ => False
def diRev (ue : DTE) : DTI := fun δ M R => ue δ M (kRv R)
theorem walk_revT {K : PySem.W.Frag} {a : Addr} {xs : List V} : Walk (RT.ItvT K a xs.length) xs.length (fun H => SqT K H a xs) (fun i H x H' => H' = H ∧ xs[xs.length - 1 - i]? = some x) :=
  ⟨fun i _ hi q => ⟨hi, xs, xs[xs.length - 1 - i]'(by omega), q, by simp [show xs.length - 1 - i < xs.length by omega]⟩, fun _ _ => Nat.le_refl _, fun _ _ _ _ _ q y => ⟨y.1, y.2 xs q⟩⟩
theorem di_rev [Ghost] {X : Cx} {tg e : Expr} {ue : DTE} {p pos : Pos} (hg : Gl X "reversed") (hm : X.mg "reversed" = none) (he : DE X e ue) (hs : starEach [e] X.env = (false, eval e X.env) :: starEach [] X.env := by rfl) : DI X tg (.Call (.Name "reversed" p) [e] [] pos) (diRev ue) := PI.weak (RT.pi_revA hg hm he hs) fun σ H R h => by
  obtain ⟨δ, M, F, Rd, hE, s, hu, po⟩ := h
  refine ⟨δ, M, F, _, hE, s, hu, fun d M1 F1 v H1 q g s1 r => ?_⟩
  unfold kRv at q
  cases d with
  | tup ds =>
    unfold Rp at r
    obtain ⟨a, xs, rfl, h1, r1⟩ := r
    refine ⟨a, xs, rfl, .inr ⟨s1.fh.sqT h1, ?_⟩⟩
    refine po ds.reverse _ M1 F1 H1 (RT.ItvT X.K a xs.length) (fun H => SqT X.K H a xs) (fun i H x H' => H' = H ∧ xs[xs.length - 1 - i]? = some x) q g s1 (by rw [List.length_reverse, r1.len]; exact walk_revT) (fun H2 F2 M2 g2 s2 _ => s2.fh.sqT (g2.le.sqT h1)) fun i H2 F2 M2 x H3 hi g2 s2 _ y => ?_
    obtain ⟨e1, e2⟩ := y
    subst e1
    rw [List.length_reverse, r1.len] at hi
    obtain ⟨d, e3, r3⟩ := (r1.mono g2.le).getV e2
    refine ⟨F2, s2, Go.refl, d, ?_, r3⟩
    rw [List.getElem?_reverse (by rw [r1.len]; exact hi), r1.len]
    exact e3
  | _ => exact False.elim q
theorem r_rev {δ : DEnv} {M : Mu} {ue : DTE} {R : List D → (Mu → Prop) → Mu → Prop} (h : ue δ M (kRv R)) : diRev ue δ M R := h
theorem r_kRv {es : List D} {M : Mu} {R : List D → (Mu → Prop) → Mu → Prop} (h : R es.reverse (fun _ => True) M) : kRv R (.tup es) M := h
/-! ### sizes -/
def Bt (k : Nat) (i : Int) : Prop := i.natAbs < 2 ^ k
theorem bt_mul {a b : Nat} {i j : Int} (h1 : Bt a i) (h2 : Bt b j) : Bt (a + b) (i * j) := by
  unfold Bt at *
  rw [Int.natAbs_mul, Nat.pow_add]
  exact Nat.mul_lt_mul'' h1 h2
theorem bt_up {a b : Nat} {i : Int} (h : Bt a i) (l : a ≤ b) : Bt b i := Nat.lt_of_lt_of_le h (Nat.pow_le_pow_right (by decide) l)
theorem bt_add {a b : Nat} {i j : Int} (h1 : Bt a i) (h2 : Bt b j) : Bt (a + b + 1) (i + j) := by
  have h3 := bt_up h1 (Nat.le_add_right a b)
  have h4 := bt_up h2 (Nat.le_add_left b a)
  unfold Bt at *
  rw [Nat.pow_succ]
  omega
theorem bt_neg {a : Nat} {i : Int} (h : Bt a i) : Bt a (-i) := by unfold Bt at *; rw [Int.natAbs_neg]; exact h
theorem bt_sub {a b : Nat} {i j : Int} (h1 : Bt a i) (h2 : Bt b j) : Bt (a + b + 1) (i - j) := by rw [Int.sub_eq_add_neg]; exact bt_add h1 (bt_neg h2)
theorem bt_abs {a : Nat} {i : Int} (h : Bt a i) : Bt a (i.natAbs : Int) := by unfold Bt at *; exact h
theorem bt_lit {i : Int} (k : Nat) (h : i.natAbs < 2 ^ k) : Bt k i := h
theorem bt_fdiv {a : Nat} {i j : Int} (h : Bt a i) : Bt a (i.fdiv j) := Nat.lt_of_le_of_lt (PySem.natAbs_fdiv_le i j) h
theorem cm_ok {a b : Nat} {i j : Int} (h1 : Bt a i) (h2 : Bt b j) (h : a + b ≤ 134217728) : CMulX i j := mulx_ok h1 h2 h
theorem cd_ok {a : Nat} {j : Int} (h0 : j ≠ 0) (h : Bt a j) (hk : a ≤ 8999) : CDivX j := ⟨h0, Nat.lt_of_lt_of_le (PySem.Flt.log2_lt_of (k := a + 1) (by omega) (bt_up h (Nat.le_succ a))) (by omega)⟩
end DL

/-! DLX: exceptions over the data layer. -/
namespace DL
open PySem PySem.Spec PyProof.Rows L2 TL

/-! ### what is wished of an exception -/
abbrev DWX := DX → DEnv → Mu → Prop
def liftW [Ghost] (K : PySem.W.Frag) (W : DWX) : WX := fun cls d σ H => ∃ x δ M F, cls = .ref (clA K x.cls) ∧ Sv K H F M ∧ ERel K F δ σ ∧ RpX K F x d ∧ W x δ M

/-! ### making one -/
/-- what __init__ does: the fields are put, the last one ahead -/
def spInit (K : PySem.W.Frag) (ns : List Str) : Sp := fun vs H Q _ => ∃ (a C : Addr) (ys : List V), vs = .ref a :: ys ∧ ys.length = ns.length ∧ OexC K C ∧ (∀ n ∈ ns, PySem.W.findIn K (.ref C) n = some none) ∧ H a = some (exo a C none) ∧
  ∀ dx, H dx = none → dx ≠ a → Q .non (upd (upd H dx (exd dx (ns.zip ys).reverse)) a (exo a C (some dx)))
/-- a class of exceptions: its own __init__ stores its arguments under these names -/
structure XC (P : Program) (w : World) (K : PySem.W.Frag) (mg : Str → Option Value) (base : Heap) (k : Nat) (c : Str) (ns : List Str) : Prop where
  oex : OexC K (clA K c)
  noat : ∀ n ∈ ns, PySem.W.findIn K (.ref (clA K c)) n = some none
  mgc : mg c = some (.ref (clA K c))
  short : ns.length ≤ 100
  init : ∃ fI fd, PySem.W.findIn K (.ref (clA K c)) "__init__" = some (some (.ref fI)) ∧ PySem.W.typeIn K (.ref fI) = some (.type "function") ∧ FnOk P w K mg base CX0 k fI fd ("self" :: ns) (spInit K ns) ∧ Binds K fd ("self" :: ns) []
def dRaise (c : Str) (ns : List Str) (W : DWX) (ua : DTA) : DTS := fun _ δ M => ua δ M fun ds M1 => ds.length = ns.length ∧ W ⟨c, ns.reverse, ds.reverse⟩ δ M1
theorem heap_made {H : Hp} {a dx C : Addr} {fs : List (Str × V)} (ha : H a = none) (hne : dx ≠ a) : upd (del (upd (upd (upd H a (exo a C none)) dx (exd dx fs)) a (exo a C (some dx))) a) dx (.xd fs) = upd H dx (.xd fs) := by
  funext b
  by_cases h1 : b = dx
  · subst h1; rw [upd_same, upd_same]
  · rw [upd_ne h1, upd_ne h1]
    by_cases h2 : b = a
    · subst h2; rw [del_same, ha]
    · rw [del_ne h2, upd_ne h2, upd_ne h1, upd_ne h2]
theorem zip_app {α β : Type} : ∀ {a a' : List α} {b b' : List β}, a.length = b.length → (a ++ a').zip (b ++ b') = a.zip b ++ a'.zip b'
  | [], _, [], _, _ => rfl
  | x :: a, _, y :: b, _, h => by
    have h' : a.length = b.length := by simpa using h
    rw [List.cons_append, List.cons_append, List.zip_cons_cons, List.zip_cons_cons, zip_app h', List.cons_append]
theorem zip_rev {α β : Type} : ∀ {a : List α} {b : List β}, a.length = b.length → (a.zip b).reverse = a.reverse.zip b.reverse
  | [], [], _ => rfl
  | x :: a, y :: b, h => by
    have h' : a.length = b.length := by simpa using h
    rw [List.zip_cons_cons, List.reverse_cons, List.reverse_cons, List.reverse_cons, zip_rev h', zip_app (by rw [List.length_reverse, List.length_reverse]; exact h')]
    rfl
theorem ds_raise [Ghost] {X : Cx} {W : DWX} {c : Str} {ns : List Str} {k : Nat} {e : Expr} {es : List Expr} {ua : DTA} {p pos pos2 : Pos} (C : XC X.prog X.w X.K X.mg X.base k c ns) (hc : X.calm = true) (tk : Takes X (liftW X.K W)) (hr : Room (k + 1) X.A)
    (ha : DA X (e :: es) ua) (hg : Gl X c := by rfl) (hdb : (c == ("__debug__" : Str)) = false := by decide) (he : starEach (e :: es) X.env = (false, eval e X.env) :: starEach es X.env := by rfl) (hpl : (backTo pos (starEach es X.env)).any (·.1) = false := by rfl) :
    DS X (.Raise (some (.Call (.Name c p) (e :: es) [] pos)) none pos2) (dRaise c ns W ua) := by
  obtain ⟨fI, fd, iC, tI, F1, hb⟩ := C.init
  refine PS.weak (ps_raise hc tk (pmk_oex C.oex iC tI F1 hr hb .nil (fun _ _ _ _ _ _ _ z => z.elim) hg C.mgc ha hdb he hpl)) fun D σ H h => ?_
  obtain ⟨δ, M, F, Dd, hE, s, hu, po⟩ := h
  refine ⟨δ, M, F, _, hE, s, hu, fun ds M1 F1 vs H1 q g s1 r => ?_⟩
  obtain ⟨hl, q⟩ := q
  have hv : vs.length = ns.length := by rw [← r.len]; exact hl
  refine ⟨by have := C.short; omega, fun a ha => ⟨a, clA X.K c, vs ++ [], rfl, by rw [List.append_nil]; exact hv, C.oex, C.noat, upd_same, fun dx hdx hne => ⟨rfl, dx, (ns.zip (vs ++ [])).reverse, upd_same, ?_, ?_, ?_⟩⟩⟩
  · rw [upd_ne hne, upd_same]
  · rw [upd_ne hne] at hdx
    exact hdx
  · rw [upd_ne hne] at hdx
    rw [heap_made ha hne, List.append_nil]
    obtain ⟨s2, g2⟩ := s1.newF (o := .xd (ns.zip vs).reverse) hdx
    refine ⟨⟨c, ns.reverse, ds.reverse⟩, δ, M1, _, rfl, s2, hE.mono (g.le.trans g2.le), ⟨dx, vs.reverse, rfl, ?_, ?_, ?_⟩, q⟩
    · rw [upd_same, zip_rev hv.symm]
    · rw [List.length_reverse, List.length_reverse, hv]
    · exact (r.mono g2.le).rev

/-! ### defs that raise -/
/-- the def x may be called with this promise; what it raises is told -/
def CalX (P : Program) (w : World) (K : PySem.W.Frag) (mg : Str → Option Value) (base : Heap) (k : Nat) (x : Str) (ps : List Str) (sp : DSp) : Prop :=
  ∃ f fd, FnOk P w K mg base (L2.CX P w) k f fd ps (liftSp K sp) ∧ mg x = some (.ref f) ∧ PySem.W.keepIn K (.ref f) = true ∧ Binds K fd ps []
theorem CalX.mono {P : Program} {w : World} {K : PySem.W.Frag} {mg : Str → Option Value} {base : Heap} {j k : Nat} {x : Str} {ps : List Str} {sp : DSp} (c : CalX P w K mg base j x ps sp) (h : j ≤ k) : CalX P w K mg base k x ps sp := by
  obtain ⟨f, fd, F, m, kp, b⟩ := c
  exact ⟨f, fd, F.mono h, m, kp, b⟩
def dCallX (sp : DSp) (W : DWX) (ua : DTA) : DTE := fun δ M Q => ua δ M fun ds M1 => sp ds M1 Q fun x M2 => W x δ M2
theorem de_calX [Ghost] {X : Cx} {W : DWX} {k : Nat} {x : Str} {ps : List Str} {sp : DSp} {e : Expr} {es : List Expr} {ua : DTA} {p pos : Pos} (C : CalX X.prog X.w X.K X.mg X.base k x ps sp) (hr : Room k X.A) (tk : Takes X (liftW X.K W)) (ha : DA X (e :: es) ua) (hg : Gl X x := by rfl)
    (hdb : (x == ("__debug__" : Str)) = false := by decide) (he : starEach (e :: es) X.env = (false, eval e X.env) :: starEach es X.env := by rfl) (hpl : (backTo pos (starEach es X.env)).any (·.1) = false := by rfl) : DE X (.Call (.Name x p) (e :: es) [] pos) (dCallX sp W ua) := by
  obtain ⟨f, fd, F, m, kp, b⟩ := C
  refine PE.weak (pe_callS F hr hg m kp b (fun σ => passAt tk σ) ha hdb he hpl) fun σ H Q h => ?_
  obtain ⟨δ, M, F, Qd, hE, s, hu, po⟩ := h
  refine ⟨δ, M, F, _, hE, s, hu, fun ds M1 F1 vs H1 q g s1 r => ?_⟩
  exact ⟨_, M1, F1, Qd, _, r, s1.re gh0 trivial, q, (po.go g).re s1, fun x M' F' d H' q' g' s' r' => ⟨x, δ, M', F', rfl, (svgo s1 (@Sv.toSv0 gh0 _ _ _ _ s') g').1, hE.mono (g.le.trans g'.le), r', q'⟩⟩
/-- the way from here is remembered, too -/
abbrev ghGo (G : Ghost) (H F : Hp) (M : Mu) : Ghost := ⟨fun H' F' M' => G.Z H' F' M' ∧ Go H F M H' F' M', fun z g => ⟨G.go z.1 g, z.2.trans g⟩⟩
/-- THE RULE: a def that may raise, by its body's reading t, W what is wished of what it raises -/
theorem dfnX {P : Program} {w : World} {K : PySem.W.Frag} {mg : Str → Option Value} {base : Heap} {x qual : Str} {params : Arguments} {body : List Stmt} {scope : Scope} {dvs : List V} {kws : List (Str × V)} {f : Addr} {fd : FuncData} {N ps : List Str} {k : Nat} {sp : DSp} {t : DWX → DTS}
    (Fd : FunD K x qual params body scope dvs kws f fd) (S : FnScope N ps scope) (len : ∀ ds M Q E, sp ds M Q E → ds.length = ps.length)
    (hb : ∀ (G : Ghost) (W : DWX) (cdv : Value) (A : Around) (outer : List Env) (s : Shared) (H : Hp) (E : XK), Room k (A.deeper (envOfC qual scope s.heap.objs.size f cdv)) → Takes (cxOf (L2.CX P w) P w K mg base N qual scope f cdv A outer s H E) (@liftW G K W) →
      @DSs G (cxOf (L2.CX P w) P w K mg base N qual scope f cdv A outer s H E) body (t W))
    (hs : ∀ ds M Q E, sp ds M Q E → t (fun x _ M' => E x M') (dEnd Q) (dstart N.length ds) M) : FnOk P w K mg base (L2.CX P w) (k + 1) f fd ps (liftSp K sp) := by
  refine Fd.ok S (fun vs H Q E h => ?_) (fun cdv A outer s H vs Q E hr h => ?_)
  · obtain ⟨ds, M, F, Qd, Ed, r, _, h, _⟩ := h
    rw [← r.len]
    exact len _ _ _ _ h
  · obtain ⟨ds, M, F, Qd, Ed, r, sv, h, po, px⟩ := h
    let G : Ghost := ghGo gh0 H F M
    have sv' : @Sv G K H F M := @Sv.re gh0 G K H F M sv ⟨trivial, Go.refl⟩
    have po' : @Post G K H F M Qd Q := @Post.re gh0 G _ _ _ _ _ _ sv po
    have pe : PostS K H F M (dEnd Qd) { nx := fun _ H' => Q .non H', rt := Q } := ⟨fun δ' M' F' σ' H' q g s' e => po'.wq _ _ _ _ _ q g s' (by unfold Rp; rfl), po'.wq, fun _ _ _ _ _ q => q.elim, fun _ _ _ _ _ q => q.elim⟩
    refine ⟨@liftS G K (t fun x _ M' => Ed x M'), hb G (fun x _ M' => Ed x M') cdv A outer s H E hr ?_, dstart N.length ds, M, F, dEnd Qd, ERel.start r, sv', hs ds M Qd Ed h, pe⟩
    refine Takes.imp (takes_of rfl rfl rfl rfl) fun cls d σ H' z => ?_
    obtain ⟨x, δ, M', F', e, s', _, rx, q⟩ := z
    subst e
    exact px x M' F' d H' q s'.gh.2 (@Sv.re G gh0 K H' F' M' s' trivial) rx
theorem calX_of {P : Program} {w : World} {K : PySem.W.Frag} {mg : Str → Option Value} {base : Heap} {x : Str} {st : Stmt} {N ps : List Str} {k : Nat} {sp : DSp} {t : DWX → DTS} (d : DefAt K mg x st) (S : FnScope N ps (defScope st))
    (len : ∀ ds M Q E, sp ds M Q E → ds.length = ps.length)
    (hbind : ∀ (kV doc pm : Value) (an : Option Addr) (cdv ct : Value) (us : List Value), us.length = ps.length → bindArgs (PySem.W.fnOf x x (defArgs st) (defBody st) (defScope st) .none kV doc pm an cdv ct) ⟨us, []⟩ = pure (ps.zip us))
    (hb : ∀ (f : Addr) (G : Ghost) (W : DWX) (cdv : Value) (A : Around) (outer : List Env) (s : Shared) (H : Hp) (E : XK), Room k (A.deeper (envOfC x (defScope st) s.heap.objs.size f cdv)) → Takes (cxOf (L2.CX P w) P w K mg base N x (defScope st) f cdv A outer s H E) (@liftW G K W) →
      @DSs G (cxOf (L2.CX P w) P w K mg base N x (defScope st) f cdv A outer s H E) (defBody st) (t W))
    (hs : ∀ ds M Q E, sp ds M Q E → t (fun x _ M' => E x M') (dEnd Q) (dstart N.length ds) M) : CalX P w K mg base (k + 1) x ps sp := by
  obtain ⟨f, fd, F, m⟩ := d
  exact ⟨f, fd, dfnX F S len (hb f) hs, m, F.kp, F.bindsN hbind⟩

/-! ### try: .. except C as e: .. -/
abbrev DSuite := Addr → Addr → Str → DTS
def endsNo (i : Nat) (D : DEnds) : DEnds := { nx := fun δ M => D.nx (δ.set i none) M, rt := D.rt, bk := fun δ M => D.bk (δ.set i none) M, ct := fun δ M => D.ct (δ.set i none) M }
/-- what the clause wishes: isx tells of a class's name if the clause takes it (none: no such class may come) -/
def dwTry (i : Nat) (isx : Str → Option Bool) (Wout : DWX) (us : DSuite) (D : DEnds) : DWX := fun x δ M => match isx x.cls with
  | some true => ∀ a d, us a d x.cls (endsNo i D) (δ.set i (some (.exc a d x.cls x.ns x.ds))) M
  | some false => Wout x δ M
  | none => False
def dTry (i : Nat) (isx : Str → Option Bool) (Wout : DWX) (ub : DWX → DTS) (us : DSuite) : DTS := fun D δ M => ub (dwTry i isx Wout us D) D δ M
theorem PostS.re {G G' : Ghost} {K : PySem.W.Frag} {H F : Hp} {M : Mu} {Dd : DEnds} {Dv : Ends} (i : ∀ H' F' M', @Sv G' K H' F' M' → @Sv G K H' F' M') (po : @PostS G K H F M Dd Dv) : @PostS G' K H F M Dd Dv :=
  @PostS.mk G' K H F M Dd Dv (fun δ M' F' σ H' q g s e => @PostS.nx G K H F M Dd Dv po δ M' F' σ H' q g (i _ _ _ s) e) (fun d M' F' v H' q g s e => @PostS.rt G K H F M Dd Dv po d M' F' v H' q g (i _ _ _ s) e)
    (fun δ M' F' σ H' q g s e => @PostS.bk G K H F M Dd Dv po δ M' F' σ H' q g (i _ _ _ s) e) (fun δ M' F' σ H' q g s e => @PostS.ct G K H F M Dd Dv po δ M' F' σ H' q g (i _ _ _ s) e)
theorem ds_try [G0 : Ghost] {X : Cx} {x n : Str} {c : Str} {i : Nat} {isx : Str → Option Bool} {body suite : List Stmt} {b₀ : Stmt} {np pos pos' : Pos} {ub : DWX → DTS} {us : DSuite} {Wout : DWX} (hs : X.stack = X.env :: X.outer) (hf : X.env.frame = some X.env.locals)
    (hN : X.N.Nodup) (hi : X.N[i]? = some n) (hln : X.env.kindOf n = some .local) (hc : Names X x (.ref (clA X.K c))) (tk : Takes X (liftW X.K Wout))
    (hx : ∀ cn b, isx cn = some b → PySem.W.exmOne X.K (.ref (clA X.K cn)) (.ref (clA X.K c)) = some b)
    (hb : ∀ (G : Ghost) (W : DWX) (pn : List (Addr × Obj)) (xe : Value → Shared → Prop), Takes (X.tr pn xe) (@liftW G X.K W) → PassesOwn (model X.prog X.w) X.A X.env xe → @DSs G (X.tr pn xe) body (ub W))
    (hsu : ∀ (a : Addr) (oe : Obj) (cn : Str) (d : Addr) (pn : List (Addr × Obj)), isx cn = some true → Zc (.ref (clA X.K cn)) (some d) oe → (∃ vs, oe.data = .fields vs) → DSs (X.suite a ((a, oe) :: pn)) (b₀ :: suite) (us a d cn)) :
    DS X (.Try body [.ExceptHandler (some (.Name x np)) (some n) (b₀ :: suite) pos'] [] [] pos) (dTry i isx Wout ub us) := by
  refine PS.weak (ps_try_as (tb := fun W Dv σ H => ∃ (G : Ghost) (WD : DWX), (∀ cls d σ H, @liftW G X.K WD cls d σ H → W cls d σ H) ∧ @liftS G X.K (ub WD) Dv σ H)
    (ts := fun a cls d Dv σ H => ∃ cn dd, isx cn = some true ∧ cls = .ref (clA X.K cn) ∧ d = some dd ∧ liftS X.K (us a dd cn) Dv σ H) (Wout := liftW X.K Wout) hs hf hN hi hln hc tk ?_ ?_) fun Dv σ H h => ?_
  · intro W pn xe tkW pa
    refine ⟨fun pins s σ H D I h => ?_⟩
    obtain ⟨G, WD, hW, h⟩ := h
    exact (hb G WD pn xe (tkW.imp hW) pa).run pins s σ H D I h
  · intro a oe cls d pn hz hv
    refine ⟨fun pins s σ H D I h => ?_⟩
    obtain ⟨cn, dd, e0, e1, e2, h⟩ := h
    subst e1 e2
    exact (hsu a oe cn dd pn e0 hz hv).run pins s σ H D I h
  · obtain ⟨δ, M, F, Dd, hE, s, hu, po⟩ := h
    suffices hw : ∀ cls d σ H', @liftW (ghGo G0 H F M) X.K (dwTry i isx Wout us Dd) cls d σ H' → wAs X.K (.ref (clA X.K c)) i (fun a cls d Dv σ H => ∃ cn dd, isx cn = some true ∧ cls = .ref (clA X.K cn) ∧ d = some dd ∧ liftS X.K (us a dd cn) Dv σ H) (liftW X.K Wout) Dv cls d σ H' from
      ⟨ghGo G0 H F M, dwTry i isx Wout us Dd, hw, δ, M, F, Dd, hE, @Sv.re G0 (ghGo G0 H F M) _ _ _ _ s ⟨s.gh, Go.refl⟩, hu, @PostS.re G0 (ghGo G0 H F M) _ _ _ _ _ _ (fun H' F' M' s' => @Sv.re (ghGo G0 H F M) G0 _ _ _ _ s' (@Sv.gh (ghGo G0 H F M) _ _ _ _ s').1) po⟩
    intro cls d σ' H' z
    obtain ⟨x', δ', M', F', e, s', hE', r, q⟩ := z
    subst e
    have sG := @Sv.re (ghGo G0 H F M) G0 _ _ _ _ s' (@Sv.gh (ghGo G0 H F M) _ _ _ _ s').1
    have g := (@Sv.gh (ghGo G0 H F M) _ _ _ _ s').2
    have q' : (match isx x'.cls with
      | some true => ∀ a d, us a d x'.cls (endsNo i Dd) (δ'.set i (some (.exc a d x'.cls x'.ns x'.ds))) M'
      | some false => Wout x' δ' M'
      | none => False) := q
    cases e : isx x'.cls with
    | none => rw [e] at q'; exact q'.elim
    | some b =>
      rw [e] at q'
      refine ⟨b, hx _ _ e, fun hb a _ => ?_, fun hb => ?_⟩
      · subst hb
        obtain ⟨dd, vs, e2, hF, hl, hR⟩ := r
        subst e2
        have p2 := po.go g
        refine ⟨x'.cls, dd, e, rfl, rfl, _, M', F', endsNo i Dd, hE'.set (d := .exc a dd x'.cls x'.ns x'.ds) (v := .ref a) ?_, sG, q' a dd, ⟨fun δ2 M2 F2 σ2 H2 q2 g2 s2 e2 => p2.nx _ _ _ _ _ q2 g2 s2 e2.setN, p2.rt, fun δ2 M2 F2 σ2 H2 q2 g2 s2 e2 => p2.bk _ _ _ _ _ q2 g2 s2 e2.setN, fun δ2 M2 F2 σ2 H2 q2 g2 s2 e2 => p2.ct _ _ _ _ _ q2 g2 s2 e2.setN⟩⟩
        unfold Rp
        exact ⟨rfl, vs, hF, hl, hR⟩
      · subst hb
        exact ⟨x', δ', M', F', rfl, sG, hE', r, q'⟩
end DL

/-! DLX2: a held exception is asked. -/
namespace DL
open PySem PySem.Spec PyProof.Rows L2 TL
/-- the context bears the exception at a, its dict at d, of the class cn -/
def HotE (X : Cx) (a d : Addr) (cn : Str) : Prop := ∃ oe, (a, oe) ∈ X.pn ∧ Zc (.ref (clA X.K cn)) (some d) oe ∧ ∃ vs, oe.data = .fields vs
theorem hotE_suite {X : Cx} {a d : Addr} {cn : Str} {oe : Obj} {pn : List (Addr × Obj)} (hz : Zc (.ref (clA X.K cn)) (some d) oe) (hv : ∃ vs, oe.data = .fields vs) : HotE (X.suite a ((a, oe) :: pn)) a d cn := ⟨oe, List.mem_cons_self, hz, hv⟩
theorem HotE.at {X : Cx} {a d : Addr} {cn : Str} {pins : List (Addr × Obj)} {σ : L2.St} {H : Hp} {s : Shared} {fs : List (Str × V)} (h : HotE X a d cn) (I : Inv X pins σ H s) (hd : H d = some (.xd fs)) :
    ∃ (oe od : Obj) (mA : Str → Option Value), PySem.W.InstAt s.heap a oe (clA X.K cn) (some od) ∧ (∀ n, PySem.W.lookIn n od = some (mA n)) ∧ ∀ f, RelO (fs.lookup f) (mA f) := by
  obtain ⟨oe, hp, hz, vs, hv⟩ := h
  have P := (I.pin (a, oe) (List.mem_append_left _ hp)).1
  have O : ObjOk X.prog X.w H s.heap d (.xd fs) := I.hok d _ hd
  obtain ⟨mA, hns, hr⟩ := O
  obtain ⟨od, ho, hl⟩ := lookIn_ns hns
  refine ⟨oe, od, mA, ⟨P, hz.1, ?_, ?_⟩, hl, hr⟩
  · unfold PySem.W.notCls
    rw [hv] <;> rfl
  · rw [hz.2]
    exact ho
/-- isinstance(e, C) of the held exception -/
def rIsX (K : PySem.W.Frag) (a d : Addr) (cn : Str) : List V → Hp → VK → Prop := fun xs H Q => ∃ (c : V) (cv : Value) (b : Bool) (fs : List (Str × V)), xs = [.ref a, c] ∧ (∀ u, RelV c u → u = cv) ∧ H d = some (.xd fs) ∧ PySem.W.kitOne K (.ref (clA K cn)) cv = some b ∧ Q (.bl b) H
theorem call_isX {X : Cx} {a d : Addr} {cn : Str} (C : ExcC X.K (clA X.K cn)) (hot : HotE X a d cn) : CallR X (.builtin "isinstance") (rIsX X.K a d cn) := fun pins s σ H xs us Q I r h => by
  obtain ⟨c, cv, b, fs, e1, hcv, hd, hk, q⟩ := h
  subst e1
  obtain ⟨oe, od, mA, J, _, _⟩ := hot.at I hd
  obtain ⟨u1, u2, eu, r1, r2⟩ := vals2 r
  subst eu
  have e2 : u1 = Value.ref a := r1
  have e3 := hcv _ r2
  subst e2 e3
  have hcl : (PySem.W.clsIn X.K (clA X.K cn)).isSome = true := by
    obtain ⟨cd, hc, _⟩ := PySem.W.any_some C.hd
    rw [hc]; rfl
  exact PySem.W.kia_one (PySem.W.kitx_exc hcl C.hg C.hk C.hs C.ha C.hn C.ht C.hm) I.kIn J hk (fun z => nomatch z) fun tk => ⟨.bl b, H, I.kept (t' := tk) fun _ _ z => z, rfl, q⟩
def dIsE (a d : Addr) (cn : Str) (b : Bool) (ue : DTE) : DTE := fun δ M Q => ue δ M fun v M1 => (∃ ns fs, v = .exc a d cn ns fs) ∧ Q (.bl b) M1
theorem isE_rel [Ghost] {X : Cx} {a d : Addr} {cn : Str} {b : Bool} {ue : DTE} {c : V} {cv : Value} (hcv : ∀ u, RelV c u → u = cv) (hk : PySem.W.kitOne X.K (.ref (clA X.K cn)) cv = some b) : ∀ σ H Q, lift X.K (dIsE a d cn b ue) σ H Q → tCB (rIsX X.K a d cn) (tCons (lift X.K ue) (tCons (tC c) tNil)) σ H Q := fun σ H Q h => by
  obtain ⟨δ, M, F, Qd, hE, s, hu, po⟩ := h
  refine ⟨δ, M, F, _, hE, s, hu, fun v M1 F1 x H1 q g s1 r => ?_⟩
  obtain ⟨⟨ns, fs, e⟩, q⟩ := q
  subst e
  unfold Rp at r
  obtain ⟨e, xs, hF, _, _⟩ := r
  subst e
  exact ⟨c, cv, b, _, rfl, hcv, s1.fh _ _ hF, hk, po _ _ _ _ _ q g s1 (by unfold Rp; rfl)⟩
/-- isinstance(e, C), C a class of the module -/
theorem de_isE [Ghost] {X : Cx} {a d : Addr} {cn m : Str} {b : Bool} {e : Expr} {ue : DTE} {p p2 pos : Pos} (C : ExcC X.K (clA X.K cn)) (hot : HotE X a d cn) (hk : PySem.W.kitOne X.K (.ref (clA X.K cn)) (.ref (clA X.K m)) = some b) (hm : X.mg m = some (.ref (clA X.K m)))
    (hi : X.mg "isinstance" = none) (he : DE X e ue) (hg : Gl X "isinstance" := by rfl) (hgm : Gl X m := by rfl) (hdb : (m == ("__debug__" : Str)) = false := by decide)
    (hs : starEach [e, .Name m p2] X.env = (false, eval e X.env) :: starEach [.Name m p2] X.env := by rfl) (hpl : (backTo pos (starEach [.Name m p2] X.env)).any (·.1) = false := by rfl) : DE X (.Call (.Name "isinstance" p) [e, .Name m p2] [] pos) (dIsE a d cn b ue) :=
  PE.weak (pe_callB (call_isX C hot) hg hi (by rfl) (pa_cons he (pa_cons (pe_glob (v := .ref (clA X.K m)) hgm hm rfl hdb) pa_nil) hs) (by decide) (by decide) hs hpl) (isE_rel (fun u r => r) hk)
/-- .. a built-in class -/
theorem de_isEB [Ghost] {X : Cx} {a d : Addr} {cn m : Str} {n : String} {b : Bool} {e : Expr} {ue : DTE} {p p2 pos : Pos} (C : ExcC X.K (clA X.K cn)) (hot : HotE X a d cn) (hk : PySem.W.kitOne X.K (.ref (clA X.K cn)) (.type n) = some b) (hm : X.mg m = none) (hv : bootBuiltins m = some (.type n))
    (hi : X.mg "isinstance" = none) (he : DE X e ue) (hg : Gl X "isinstance" := by rfl) (hgm : Gl X m := by rfl) (hn : m ≠ "__name__" := by decide) (hdb : (m == ("__debug__" : Str)) = false := by decide)
    (hs : starEach [e, .Name m p2] X.env = (false, eval e X.env) :: starEach [.Name m p2] X.env := by rfl) (hpl : (backTo pos (starEach [.Name m p2] X.env)).any (·.1) = false := by rfl) : DE X (.Call (.Name "isinstance" p) [e, .Name m p2] [] pos) (dIsE a d cn b ue) :=
  PE.weak (pe_callB (call_isX C hot) hg hi (by rfl) (pa_cons he (pa_cons (pe_bltn (v := .ty n) hgm hm hv rfl hn hdb) pa_nil) hs) (by decide) (by decide) hs hpl) (isE_rel (fun u r => r) hk)
/-- e.f -/
def dFld (a d : Addr) (cn f : Str) (ue : DTE) : DTE := fun δ M Q => ue δ M fun v M1 => ∃ ns fs y, v = .exc a d cn ns fs ∧ (ns.zip fs).lookup f = some y ∧ Q y M1
theorem lookup_rp {K : PySem.W.Frag} {F : Hp} {f : Str} {y : D} : ∀ {ns : List Str} {fs : List D} {xs : List V}, RpL K F fs xs → (ns.zip fs).lookup f = some y → ∃ v, (ns.zip xs).lookup f = some v ∧ Rp K F y v
  | [], _, _, _, h => by simp at h
  | n :: ns, [], _, _, h => by simp at h
  | n :: ns, d :: fs, xs, r, h => by
    unfold RpL at r
    obtain ⟨x, r', e, r1, r2⟩ := r
    subst e
    rw [List.zip_cons_cons, List.lookup_cons] at h
    rw [List.zip_cons_cons, List.lookup_cons]
    by_cases q : (f == n) = true
    · rw [q] at h ⊢
      cases h
      exact ⟨x, rfl, r1⟩
    · have q' : (f == n) = false := by simpa using q
      rw [q'] at h ⊢
      exact lookup_rp r2 h
theorem de_fld [Ghost] {X : Cx} {a d : Addr} {cn f : Str} {e : Expr} {ue : DTE} {pos : Pos} (T : XfC X.K (clA X.K cn)) (hot : HotE X a d cn) (hno : PySem.W.findIn X.K (.ref (clA X.K cn)) f = some none) (he : DE X e ue)
    (hb : attributeBase e f X.env (eval e X.env) = eval e X.env := by rfl) : DE X (.Attribute e f pos) (dFld a d cn f ue) := by
  refine ⟨fun pins s σ H Q I h => ?_⟩
  obtain ⟨δ, M, F, Qd, hE, sv, hu, po⟩ := h
  have h2 : lift X.K ue σ H fun x H1 => ∃ (fs : List (Str × V)) (v : V), x = .ref a ∧ H1 d = some (.xd fs) ∧ fs.lookup f = some v ∧ Q v H1 := by
    refine ⟨δ, M, F, _, hE, sv, hu, fun v M1 F1 x H1 q g s1 r => ?_⟩
    obtain ⟨ns, fs, y, e, hl, q⟩ := q
    subst e
    unfold Rp at r
    obtain ⟨e, xs, hF, _, hR⟩ := r
    subst e
    obtain ⟨u, hu, ru⟩ := lookup_rp hR hl
    exact ⟨_, u, rfl, s1.fh _ _ hF, hu, po _ _ _ _ _ q g s1 ru⟩
  refine attr_of hb (thn (he.run pins s σ H _ I h2) fun u s1 hh => ?_)
  obtain ⟨x, H1, I1, rx, fs, v, ex, hd, l, q⟩ := hh
  subst ex
  have eu : u = Value.ref a := rx
  subst eu
  obtain ⟨oe, od, mA, J, hl, hr⟩ := hot.at I1 hd
  obtain ⟨u, hu, ru⟩ := RelO.some_of (v := v) (o := mA f) (by rw [← l]; exact hr f)
  exact HandSPX.exc_get I1.kIn J T.ga T.gg T.exC (PySem.W.findObj_own T.hdC hno rfl (by rw [hl, hu])) (handed_of ru) ⟨v, H1, I1.tok _, ru, q⟩
end DL

/-! DLX3: a def is called in a suite, the held exception is its argument. -/
namespace DL
open PySem PySem.Spec PyProof.Rows L2 TL L2H
/-- such a def's promise, by the exception's address, its dict's address, its class -/
abbrev ESp := Addr → Addr → Str → DSp
def CalE (P : Program) (w : World) (K : PySem.W.Frag) (mg : Str → Option Value) (base : Heap) (k : Nat) (x : Str) (ps : List Str) (kn : Str → Prop) (sp : ESp) : Prop :=
  ∃ f fd, (∀ a d cn ds M Q E, sp a d cn ds M Q E → ds.length = ps.length) ∧
    (∀ (B : Around) (out : List Env) (st : Shared) (Hh : Hp) (ar : Args) (ul : List Value) (vl : List V) (Qv : VK) (q : Addr × Obj) (d : Addr) (cn : Str), kn cn → RoomH k B → PinOk out Hh st q → Zc (.ref (clA K cn)) (some d) q.2 → (∃ vs, q.2.data = .fields vs) →
      Env0 P w K mg base B out st Hh → BindsTo st fd ar (ps.zip ul) → Vals vl ul → liftSp K (sp q.1 d cn) vl Hh Qv E0 → codeAny (model P w) B (.call (.ref f) ar) (CR CX0 out P w Hh st Qv E0) st) ∧
    mg x = some (.ref f) ∧ PySem.W.keepIn K (.ref f) = true ∧ Binds K fd ps []
theorem calE_of {P : Program} {w : World} {K : PySem.W.Frag} {mg : Str → Option Value} {base : Heap} {x : Str} {st : Stmt} {N ps : List Str} {k : Nat} {kn : Str → Prop} {sp : ESp} {t : Addr → Addr → Str → DTS} (d : DefAt K mg x st) (S : FnScope N ps (defScope st))
    (len : ∀ a d cn ds M Q E, sp a d cn ds M Q E → ds.length = ps.length)
    (hbind : ∀ (kV doc pm : Value) (an : Option Addr) (cdv ct : Value) (us : List Value), us.length = ps.length → bindArgs (PySem.W.fnOf x x (defArgs st) (defBody st) (defScope st) .none kV doc pm an cdv ct) ⟨us, []⟩ = pure (ps.zip us))
    (hb : ∀ (f : Addr) (cdv : Value) (A : Around) (outer : List Env) (s : Shared) (H : Hp) (p : Addr × Obj) (d : Addr) (cn : Str), kn cn → RoomH k (A.deeper (envOfC x (defScope st) s.heap.objs.size f cdv)) → HotE (cxH CX0 P w K mg base N x (defScope st) f cdv A outer s H E0 p) p.1 d cn →
      @DSs gh0 (cxH CX0 P w K mg base N x (defScope st) f cdv A outer s H E0 p) (defBody st) (t p.1 d cn))
    (hs : ∀ a d cn ds M Q E, sp a d cn ds M Q E → t a d cn (dEnd Q) (dstart N.length ds) M) : CalE P w K mg base (k + 1) x ps kn sp := by
  obtain ⟨f, fd, FD, hm⟩ := d
  refine ⟨f, fd, len, fun B out st' Hh ar ul vl Qv q d cn kc rm pin hz hv en bi rl hsp => ?_, hm, FD.kp, FD.bindsN hbind⟩
  obtain ⟨oc, od, dV, kV, doc, pm, an, cdv, ct, osl, efd, lkf, hcode, _, _⟩ := FD.ex
  subst efd
  obtain ⟨ds, M, F, Qd, Ed, rds, sv, hq, po, px⟩ := hsp
  have lenv : vl.length = ps.length := rds.len.symm.trans (len _ _ _ _ _ _ _ hq)
  have inK : K.In st'.heap := PySem.W.Frag.In.keeps en.mod.kin (fun b o z => (en.bs b o z).1)
  have nol : st'.heap.NoLimit := Heap.NoLimit.keeps en.mod.nolimit (fun b o z => (en.bs b o z).1)
  have kinds : ∀ y ∈ ps.zip ul, (defScope st).names.lookup y.1 = some .local ∨ ((defScope st).names.lookup y.1 = some .cell ∧ ((cellsFrom (st'.heap.objs.size + 1) (defScope st).names []).lookup y.1).isSome = true) := by
    intro y hy
    cases S.par y.1 (List.of_mem_zip (show (y.1, y.2) ∈ ps.zip ul from hy)).1 with
    | inl z => exact .inl z
    | inr z => exact .inr ⟨z, PySem.W.cellsFrom_some _ _ _ (.inl z)⟩
  refine codeAny_call_function (RoomH.depth rm) (inK _ _ lkf) rfl S.co S.gen rfl (PySem.W.codeRec_of inK hcode) (bi _ _ _ _ (wpAny_newFunctionEnv_cells S.kind kinds fun env he s1 ic => ?_))
  subst he
  refine ⟨Heap.NoLimit.keeps nol ic.toInCall.keep, codeAny_func ?_⟩
  have start : Inv (cxH CX0 P w K mg base N x (defScope st) f cdv B out st' Hh E0 q) [] (L2.start N vl) Hh s1 := inv_startH S pin en lenv rl ic
  have body := hb f cdv B out st' Hh q d cn kc (RoomH.deeper rm _) ⟨q.2, List.mem_singleton.mpr rfl, hz, hv⟩
  let _i : Ghost := gh0
  have ends : PostS K Hh F M (dEnd Qd) { nx := fun _ H' => Qv .non H', rt := Qv } := ⟨fun δ' M' F' σ' H' z g s' e => po.wq _ _ _ _ _ z g s' (by unfold Rp; rfl), po.wq, fun _ _ _ _ _ z => z.elim, fun _ _ _ _ _ z => z.elim⟩
  refine wpAny_mono (body.run [] s1 _ Hh _ start ⟨dstart N.length ds, M, F, dEnd Qd, ERel.start rds, sv, hs _ _ _ ds M Qd Ed hq, ends⟩) (fun fl s' z => ?_) fun _ _ z => z
  match fl, z with
  | .ret u, z =>
    obtain ⟨v, σ', H', J, rv, y⟩ := z
    exact ⟨v, H', J.os, J.bare, J.base, J.hok, rv, y⟩
  | .next, z =>
    obtain ⟨σ', H', J, y⟩ := z
    exact ⟨V.non, H', J.os, J.bare, J.base, J.hok, rfl, y⟩
  | .brk, z => obtain ⟨_, _, _, y⟩ := z; exact y.elim
  | .cont, z => obtain ⟨_, _, _, y⟩ := z; exact y.elim
def dCallE (sp : ESp) (a d : Addr) (cn : Str) (ua : DTA) : DTE := fun δ M Q => ua δ M fun ds M1 => sp a d cn ds M1 Q fun _ _ => False
theorem de_calE [Ghost] {X : Cx} {k : Nat} {x : Str} {ps : List Str} {kn : Str → Prop} {sp : ESp} {a d : Addr} {cn : Str} {e : Expr} {es : List Expr} {ua : DTA} {p pos : Pos} (C : CalE X.prog X.w X.K X.mg X.base k x ps kn sp) (hk : kn cn) (hr : RoomH k X.A) (hot : HotE X a d cn) (ha : DA X (e :: es) ua) (hg : Gl X x := by rfl)
    (hdb : (x == ("__debug__" : Str)) = false := by decide) (he : starEach (e :: es) X.env = (false, eval e X.env) :: starEach es X.env := by rfl) (hpl : (backTo pos (starEach es X.env)).any (·.1) = false := by rfl) : DE X (.Call (.Name x p) (e :: es) [] pos) (dCallE sp a d cn ua) := by
  obtain ⟨f, fd, len, run, hm, kp, bi⟩ := C
  obtain ⟨oe, hp, hz, hv⟩ := hot
  refine ⟨fun pins s σ H Q I h => wpAny_Call_Name_kw (ld_glob I hg hm ?_ hdb)⟩
  obtain ⟨δ, M, F, Qd, hE, sv, hu, po⟩ := h
  have h2 : liftA X.K ua σ H fun vs H1 => liftSp X.K (sp a d cn) vs H1 Q E0 ∧ vs.length = ps.length :=
    ⟨δ, M, F, _, hE, sv, hu, fun ds M1 F1 vs H1 q g s1 r => ⟨⟨ds, M1, F1, Qd, _, r, s1.re gh0 trivial, q, (po.go g).re s1, @post0 gh0 _ _ _ _ _⟩, r.len.symm.trans (len _ _ _ _ _ _ _ q)⟩⟩
  refine PySem.W.callWith_K (h₀ := X.base) I.ok.mod.kin kp (thn (ha.run pos pins s σ H _ I h2) fun us s1 hh => ?_) he hpl
  obtain ⟨vs, H1, I1, r1, q, hl⟩ := hh
  refine ⟨I1.kIn, ?_⟩
  have bnd := bi s1 us I1.kIn (by rw [List.append_nil, ← r1.length]; exact hl)
  rw [List.append_nil] at bnd
  have pn := I1.pin (a, oe) (List.mem_append_left _ hp)
  have pk : PinOk X.stack H1 s1 (a, oe) := ⟨pn.1, pn.2.1, fun hmem => (List.mem_cons.mp (I1.stkSub a hmem)).elim pn.2.2.1 pn.2.2.2.1, pn.2.2.2.2⟩
  refine wpAny_call (codeAny_mono (run X.A X.stack s1 H1 ⟨us, []⟩ us vs Q (a, oe) d cn hk hr pk hz hv I1.env0 bnd r1 q) fun r s' z => ?_)
  match r, z with
  | .ok (.ret u), z => exact I1.after z
  | .error _, z => exact z.elim
end DL

/-! DLX4: the __init__ of the classes of exceptions. -/
namespace DL
open PySem PySem.Spec PyProof.Rows L2 TL
section
variable {P : Program} {w : World} {K : PySem.W.Frag} {mg : Str → Option Value} {base : Heap} {qual : Str} {params : Arguments} {body : List Stmt} {scope : Scope} {f : Addr} {fd : FuncData}
theorem init1 {n : Str} (F : FunD K "__init__" qual params body scope [] [] f fd) (S : FnScope ["self", n] ["self", n] scope)
    (hb : ∀ (cdv : Value) (A : Around) (outer : List Env) (s : Shared) (H : Hp) (E : XK), PSs (cxOf CX0 P w K mg base ["self", n] qual scope f cdv A outer s H E).nox body (tOst K n (tVar 0) (tVar 1))) : FnOk P w K mg base CX0 1 f fd ["self", n] (spInit K [n]) := by
  refine F.ok S (fun vs H Q E h => ?_) (fun cdv A outer s H vs Q E hr h => ⟨tOst K n (tVar 0) (tVar 1), PSs.nox (hb cdv A outer s H E), ?_⟩)
  · obtain ⟨a, C, ys, rfl, hl, _⟩ := h
    rw [List.length_cons, hl]; rfl
  · obtain ⟨a, C, ys, rfl, hl, T, hno, ha, kk⟩ := h
    match ys, hl with
    | [y], _ => exact ⟨_, rfl, _, rfl, a, C, rfl, T, hno n (by simp), .inl ⟨ha, fun dx h1 h2 => kk dx h1 h2⟩⟩
theorem init2 {n m : Str} (F : FunD K "__init__" qual params body scope [] [] f fd) (S : FnScope ["self", n, m] ["self", n, m] scope)
    (hb : ∀ (cdv : Value) (A : Around) (outer : List Env) (s : Shared) (H : Hp) (E : XK), PSs (cxOf CX0 P w K mg base ["self", n, m] qual scope f cdv A outer s H E).nox body (tSeq (tOst K n (tVar 0) (tVar 1)) (tOst K m (tVar 0) (tVar 2)))) : FnOk P w K mg base CX0 1 f fd ["self", n, m] (spInit K [n, m]) := by
  refine F.ok S (fun vs H Q E h => ?_) (fun cdv A outer s H vs Q E hr h => ⟨tSeq (tOst K n (tVar 0) (tVar 1)) (tOst K m (tVar 0) (tVar 2)), PSs.nox (hb cdv A outer s H E), ?_⟩)
  · obtain ⟨a, C, ys, rfl, hl, _⟩ := h
    rw [List.length_cons, hl]; rfl
  · obtain ⟨a, C, ys, rfl, hl, T, hno, ha, kk⟩ := h
    match ys, hl with
    | [y, z], _ =>
      refine ⟨_, rfl, _, rfl, a, C, rfl, T, hno n (by simp), .inl ⟨ha, fun dx h1 h2 => ?_⟩⟩
      refine ⟨_, rfl, _, rfl, a, C, rfl, T, hno m (by simp), .inr ⟨dx, [(n, y)], upd_same, ?_, by show 1 ≤ 900; omega, ?_⟩⟩
      · rw [upd_ne h2, upd_same]
      · have e : upd (upd (upd H dx (exd dx [(n, y)])) a (exo a C (some dx))) dx (exd dx [(m, z), (n, y)]) = upd (upd H dx (exd dx [(m, z), (n, y)])) a (exo a C (some dx)) := by
          funext b
          by_cases h3 : b = dx
          · subst h3; rw [upd_same, upd_ne h2, upd_same]
          · rw [upd_ne h3]
            by_cases h4 : b = a
            · subst h4; rw [upd_same, upd_same]
            · rw [upd_ne h4, upd_ne h4, upd_ne h3, upd_ne h3]
        have q := kk dx h1 h2
        show Q .non (upd (upd (upd H dx (exd dx [(n, y)])) a (exo a C (some dx))) dx (exd dx [(m, z), (n, y)]))
        rw [e]
        exact q
end
/-! ### the classes' facts, as one Bool -/
def clsOf (K : PySem.W.Frag) (C : Addr) : Bool := match K.lookup C with
  | some ⟨.type t, _, .cls cd, ⟨[_, _, _, _, some (.builtin n), _]⟩⟩ => decide (t = "type") && (decide (n = "ValueError.__new__") && (!cd.hasDel && (cd.hasDict && (match cd.mro with
    | .ref c :: bm => decide (c = C) && PySem.HandSPX.refsVE bm
    | _ => false))))
  | _ => false
theorem clsOf_ok {K : PySem.W.Frag} {C : Addr} (h : clsOf K C = true) : ∃ nm q N bs bm sn sub ab col dd k0 k1 k2 k3 k5, K.lookup C = some (excClassObj nm q C N bs bm true sn sub ab col dd k0 k1 k2 k3 k5 "ValueError.__new__") ∧ PySem.HandSPX.refsVE bm = true := by
  unfold clsOf at h
  split at h
  · rename_i t dd cd k0 k1 k2 k3 n k5 e
    obtain ⟨h1, h⟩ := He.ba h
    obtain ⟨h2, h⟩ := He.ba h
    obtain ⟨h3, h⟩ := He.ba h
    obtain ⟨h4, h⟩ := He.ba h
    obtain ⟨nm, bs, mro, ns, qn, hd, sn, sub, ab, col, del⟩ := cd
    dsimp only at h3 h4 h
    have e1 : t = "type" := of_decide_eq_true h1
    have e2 : n = "ValueError.__new__" := of_decide_eq_true h2
    have e3 : del = false := by simpa using h3
    have e4 : hd = true := h4
    subst e1 e2 e3 e4
    cases mro with
    | nil => cases h
    | cons v bm =>
      cases v with
      | ref c =>
        obtain ⟨h5, h6⟩ := He.ba (show (decide (c = C) && PySem.HandSPX.refsVE bm) = true from h)
        have e5 : c = C := of_decide_eq_true h5
        subst e5
        exact ⟨nm, qn, ns, bs, bm, sn, sub, ab, col, dd, k0, k1, k2, k3, k5, e, h6⟩
      | _ => cases h
  · cases h
end DL

/-! DLX5: what the text says of a class of exceptions, as one Bool. -/
namespace DL
open PySem PySem.Spec PyProof.Rows L2 TL
def excB (K : PySem.W.Frag) (c : Str) (ns : List Str) : Bool :=
  clsOf K (clA K c) && (He.eqO (PySem.W.findIn K (.ref (clA K c)) "__setattr__") (some (some (.builtin "object.__setattr__"))) && (decide (PySem.W.subIn K (.ref (clA K c)) (.type "BaseException") = some true) && (decide (PySem.W.typeIn K (.ref (clA K c)) = some (.type "type")) &&
  (PySem.W.keepIn K (.ref (clA K c)) && ((ns.all fun n => He.eqO (PySem.W.findIn K (.ref (clA K c)) n) (some none)) && (He.eqO (PySem.W.findIn K (.ref (clA K c)) "__getattribute__") (some (some (.builtin "BaseException.__getattribute__"))) &&
  (He.eqO (PySem.W.findIn K (.ref (clA K c)) "__getattr__") (some none) && (PySem.W.hasDictIn K (clA K c) && (He.eqO (PySem.W.findIn K (.ref (clA K c)) "__class__") (some (some (.builtin "object.__class__"))) &&
  (He.eqO (PySem.W.specialIn K (.builtin "object.__class__") "__get__") (some (some (.builtin "getset_descriptor.__get__"))) && (decide (PySem.W.takesIn K (.builtin "object.__class__") = some true) && (decide (PySem.W.mroIn K (clA K c) (.type "object") = some true) &&
  (He.eqO (PySem.W.findIn K (.ref (clA K c)) "__init__") (some (some (.ref (He.fAd K (c, some "__init__"))))) && decide (PySem.W.typeIn K (.ref (He.fAd K (c, some "__init__"))) = some (.type "function")))))))))))))))
structure ExF (K : PySem.W.Frag) (c : Str) (ns : List Str) : Prop where
  oex : OexC K (clA K c)
  noat : ∀ n ∈ ns, PySem.W.findIn K (.ref (clA K c)) n = some none
  exc : ExcC K (clA K c)
  xf : XfC K (clA K c)
  iC : PySem.W.findIn K (.ref (clA K c)) "__init__" = some (some (.ref (He.fAd K (c, some "__init__"))))
  tI : PySem.W.typeIn K (.ref (He.fAd K (c, some "__init__"))) = some (.type "function")
theorem excB_ok {K : PySem.W.Frag} {c : Str} {ns : List Str} (h : excB K c ns = true) : ExF K c ns := by
  obtain ⟨h1, h⟩ := He.ba h
  obtain ⟨h2, h⟩ := He.ba h
  obtain ⟨h3, h⟩ := He.ba h
  obtain ⟨h4, h⟩ := He.ba h
  obtain ⟨h5, h⟩ := He.ba h
  obtain ⟨h6, h⟩ := He.ba h
  obtain ⟨h7, h⟩ := He.ba h
  obtain ⟨h8, h⟩ := He.ba h
  obtain ⟨h9, h⟩ := He.ba h
  obtain ⟨h10, h⟩ := He.ba h
  obtain ⟨h11, h⟩ := He.ba h
  obtain ⟨h12, h⟩ := He.ba h
  obtain ⟨h13, h⟩ := He.ba h
  obtain ⟨h14, h15⟩ := He.ba h
  have d3 := of_decide_eq_true h3
  exact { oex := ⟨clsOf_ok h1, He.eqO_ok h2, d3, of_decide_eq_true h4, h5⟩, noat := fun n hn => He.eqO_ok (List.all_eq_true.mp h6 n hn), exc := ⟨He.eqO_ok h7, He.eqO_ok h8, d3, h9, He.eqO_ok h10, He.eqO_ok h11, of_decide_eq_true h12, of_decide_eq_true h13⟩,
          xf := ⟨He.eqO_ok h7, He.eqO_ok h8, d3, h9⟩, iC := He.eqO_ok h14, tI := of_decide_eq_true h15 }
/-- isinstance of an exception of the class cn: the answers -/
def kisB (K : PySem.W.Frag) (cn : Str) (l : List (Str × Bool)) : Bool := l.all fun q => decide (PySem.W.kitOne K (.ref (clA K cn)) (.ref (clA K q.1)) = some q.2)
theorem kisB_ok {K : PySem.W.Frag} {cn : Str} {l : List (Str × Bool)} (h : kisB K cn l = true) {m : Str} {b : Bool} (hm : (m, b) ∈ l) : PySem.W.kitOne K (.ref (clA K cn)) (.ref (clA K m)) = some b := of_decide_eq_true (List.all_eq_true.mp h (m, b) hm)
def exmB (K : PySem.W.Frag) (cn m : Str) (b : Bool) : Bool := decide (PySem.W.exmOne K (.ref (clA K cn)) (.ref (clA K m)) = some b)
theorem exmB_ok {K : PySem.W.Frag} {cn m : Str} {b : Bool} (h : exmB K cn m b = true) : PySem.W.exmOne K (.ref (clA K cn)) (.ref (clA K m)) = some b := of_decide_eq_true h
def kitB1 (K : PySem.W.Frag) (cn : Str) (n : String) (b : Bool) : Bool := decide (PySem.W.kitOne K (.ref (clA K cn)) (.type n) = some b)
theorem kitB1_ok {K : PySem.W.Frag} {cn : Str} {n : String} {b : Bool} (h : kitB1 K cn n b = true) : PySem.W.kitOne K (.ref (clA K cn)) (.type n) = some b := of_decide_eq_true h
theorem xc_of {P : Program} {w : World} {K : PySem.W.Frag} {mg : Str → Option Value} {base : Heap} {k : Nat} {c : Str} {ns : List Str} {fd : FuncData} (h : ExF K c ns) (hm : mg c = some (.ref (clA K c))) (hs : ns.length ≤ 100)
    (F : FnOk P w K mg base CX0 k (He.fAd K (c, some "__init__")) fd ("self" :: ns) (spInit K ns)) (b : Binds K fd ("self" :: ns) []) : XC P w K mg base k c ns := ⟨h.oex, h.noat, hm, hs, _, fd, h.iC, h.tI, F, b⟩
/-- what an exception of the class cn answers: isinstance by the table kl, its fields -/
structure FX (K : PySem.W.Frag) (cn : Str) (kl : List (Str × Bool)) : Prop where
  exc : ExcC K (clA K cn)
  xf : XfC K (clA K cn)
  noat : ∀ f ∈ (["what", "line", "unknown", "place"] : List Str), PySem.W.findIn K (.ref (clA K cn)) f = some none
  kit : ∀ m b, (m, b) ∈ kl → PySem.W.kitOne K (.ref (clA K cn)) (.ref (clA K m)) = some b
  kitV : PySem.W.kitOne K (.ref (clA K cn)) (.type "ValueError") = some true
theorem unitsH {k : Nat} {A : Around} (r : L2H.RoomH k A) : A.units + 64 < cLine := by
  have := r.un
  omega
theorem roomHs {k : Nat} {A : Around} (r : Room k A) (h : Option Value) : L2H.RoomH k (A.mark h) := ⟨r.dp, r.un⟩
abbrev dw0 : DWX := fun _ _ _ => False
theorem takesD0 [Ghost] {X : Cx} : Takes X (liftW X.K dw0) := Takes.imp takes0 fun _ _ _ _ h => by
  obtain ⟨_, _, _, _, _, _, _, _, q⟩ := h
  exact q
end DL

/-! DLX6: stepping through raise, try, the held exception. -/
namespace DL
open PySem PySem.Spec PyProof.Rows L2 TL
section
variable {δ : DEnv} {M : Mu} {Q : DK} {D0 : DEnds} {u ua ue : DTE} {us : DTA} {a d : Addr} {cn c f : Str} {W Wout : DWX}
theorem r_raise {ns : List Str} (h : us δ M fun ds M1 => ds.length = ns.length ∧ W ⟨c, ns.reverse, ds.reverse⟩ δ M1) : dRaise c ns W us D0 δ M := h
theorem r_callX {sp : DSp} (h : us δ M fun ds M1 => sp ds M1 Q fun x M2 => W x δ M2) : dCallX sp W us δ M Q := h
theorem r_callE {sp : ESp} (h : us δ M fun ds M1 => sp a d cn ds M1 Q fun _ _ => False) : dCallE sp a d cn us δ M Q := h
theorem r_try {i : Nat} {isx : Str → Option Bool} {ub : DWX → DTS} {uh : DSuite} (h : ub (dwTry i isx Wout uh D0) D0 δ M) : dTry i isx Wout ub uh D0 δ M := h
theorem r_caught {i : Nat} {isx : Str → Option Bool} {uh : DSuite} {x : DX} (e : isx x.cls = some true) (h : ∀ a d, uh a d x.cls (endsNo i D0) (δ.set i (some (.exc a d x.cls x.ns x.ds))) M) : dwTry i isx Wout uh D0 x δ M := by
  unfold dwTry
  rw [e]
  exact h
theorem r_isE {b : Bool} (h : ue δ M fun v M1 => (∃ ns fs, v = .exc a d cn ns fs) ∧ Q (.bl b) M1) : dIsE a d cn b ue δ M Q := h
theorem r_excK {ns : List Str} {fs : List D} {P : Prop} (h : P) : (∃ ns' fs', D.exc a d cn ns fs = .exc a d cn ns' fs') ∧ P := ⟨⟨ns, fs, rfl⟩, h⟩
theorem r_fld (h : ue δ M fun v M1 => ∃ ns fs y, v = .exc a d cn ns fs ∧ (ns.zip fs).lookup f = some y ∧ Q y M1) : dFld a d cn f ue δ M Q := h
end
end DL

/-! DLX7: the classes of this program's exceptions. -/
namespace DL
open PySem PySem.Spec PyProof.Rows L2 TL
/-- the first statement of a class's body -/
def inOf : Stmt → Stmt
  | .ClassDef _ _ _ body _ _ _ _ _ _ pos => body.getD 0 (.Pass pos)
  | s => s
def isB (cn m : Str) : Bool := decide (cn = m) || decide (m = ("ApartError" : Str))
def isL (cn : Str) : List (Str × Bool) := [("TooMany", isB cn "TooMany"), ("BadText", isB cn "BadText"), ("BadMeaning", isB cn "BadMeaning"), ("BadPolynomial", isB cn "BadPolynomial"), ("BadNumber", isB cn "BadNumber"), ("BadMove", isB cn "BadMove"), ("BadBox", isB cn "BadBox"),
  ("BadAsk", isB cn "BadAsk"), ("BadReading", isB cn "BadReading"), ("BadCode", isB cn "BadCode"), ("BadPaper", isB cn "BadPaper"), ("BadCourse", isB cn "BadCourse"), ("BadDesk", isB cn "BadDesk"), ("ApartError", isB cn "ApartError")]
def fxB (K : PySem.W.Frag) (cn : Str) (ns : List Str) : Bool :=
  excB K cn ns && ((["what", "line", "unknown", "place"] : List Str).all (fun n => He.eqO (PySem.W.findIn K (.ref (clA K cn)) n) (some none)) && (kisB K cn (isL cn) && (kitB1 K cn "ValueError" true && exmB K cn "ApartError" true)))
structure Gx (K : PySem.W.Frag) (cn : Str) (ns : List Str) : Prop where
  ef : ExF K cn ns
  fx : FX K cn (isL cn)
  exm : PySem.W.exmOne K (.ref (clA K cn)) (.ref (clA K "ApartError")) = some true
theorem fxB_ok {K : PySem.W.Frag} {cn : Str} {ns : List Str} (h : fxB K cn ns = true) : Gx K cn ns := by
  obtain ⟨h1, h⟩ := He.ba h
  obtain ⟨h2, h⟩ := He.ba h
  obtain ⟨h3, h⟩ := He.ba h
  obtain ⟨h4, h5⟩ := He.ba h
  have e := excB_ok h1
  exact ⟨e, ⟨e.exc, e.xf, fun f hf => He.eqO_ok (List.all_eq_true.mp h2 f hf), fun m b hm => kisB_ok h3 hm, kitB1_ok h4⟩, exmB_ok h5⟩
/-- which classes may come -/
def isxOf (l : List Str) (c : Str) : Option Bool := if c ∈ l then some true else none
theorem isxOf_mem {l : List Str} {c : Str} (h : isxOf l c = some true) : c ∈ l := by
  unfold isxOf at h
  split at h
  · assumption
  · cases h
theorem isxOf_true {l : List Str} {c : Str} {b : Bool} (h : isxOf l c = some b) : b = true := by
  unfold isxOf at h
  split at h
  · cases h; rfl
  · cases h
theorem isxOf_in {l : List Str} {c : Str} (h : c ∈ l) : isxOf l c = some true := if_pos h
end DL
namespace DL
open PySem PySem.Spec PyProof.Rows L2 TL
theorem CalE.mono {P : Program} {w : World} {K : PySem.W.Frag} {mg : Str → Option Value} {base : Heap} {j k : Nat} {x : Str} {ps : List Str} {kn : Str → Prop} {sp : ESp} (c : CalE P w K mg base j x ps kn sp) (h : j ≤ k) : CalE P w K mg base k x ps kn sp := by
  obtain ⟨f, fd, len, run, rest⟩ := c
  exact ⟨f, fd, len, fun B out st Hh ar ul vl Qv q d cn kc rm => run B out st Hh ar ul vl Qv q d cn kc (rm.mono h), rest⟩
end DL

/-! DLR: loops by the index of the turn. -/
namespace DL
open PySem PySem.Spec PyProof.Rows L2 TL
theorem for_ix {g : Mu → Prop} {tg : DTg} {b : DTS} {E : DEnds} (ds : List D) (I : Nat → DEnv → Mu → Prop) (hg : ∀ j δ M, I j δ M → g M)
    (hs : ∀ j x δ M (N : DEnv → Mu → Prop), ds[j]? = some x → I j δ M → (∀ δ' M', I (j + 1) δ' M' → N δ' M') → tg x δ M fun δ' M' => b { E with nx := N, ct := N, bk := E.nx } δ' M')
    (he : ∀ δ M, I ds.length δ M → E.nx δ M) (δ : DEnv) (M : Mu) (h : I 0 δ M) : dForGo g tg b E ds δ M := by
  refine for_inv (fun xs δ M => ∃ j, xs = ds.drop j ∧ j ≤ ds.length ∧ I j δ M) (fun xs δ M ⟨j, _, _, h⟩ => hg j δ M h) ?_ ?_ ds δ M ⟨0, rfl, Nat.zero_le _, h⟩
  · rintro x xs δ M N ⟨j, e, hj, hI⟩ hN
    have hlt : j < ds.length := by
      rcases Nat.lt_or_ge j ds.length with h1 | h1
      · exact h1
      · rw [List.drop_of_length_le h1] at e; cases e
    rw [List.drop_eq_getElem_cons hlt] at e
    injection e with e1 e2
    refine hs j x δ M N (by rw [List.getElem?_eq_getElem hlt, e1]) hI fun δ' M' h' => hN δ' M' ⟨j + 1, e2, hlt, h'⟩
  · rintro δ M ⟨j, e, hj, hI⟩
    have hge : ds.length ≤ j := by
      rcases Nat.lt_or_ge j ds.length with h1 | h1
      · rw [List.drop_eq_getElem_cons h1] at e; cases e
      · exact h1
    have : j = ds.length := by omega
    subst this
    exact he δ M hI
theorem for_rng {tg : DTg} {b : DTS} {E : DEnds} {lo : Int} (n : Nat) (I : Nat → DEnv → Mu → Prop)
    (hs : ∀ (j : Nat) δ M (N : DEnv → Mu → Prop), j < n → I j δ M → (∀ δ' M', I (j + 1) δ' M' → N δ' M') → tg (.int (lo + (j : Int))) δ M fun δ' M' => b { E with nx := N, ct := N, bk := E.nx } δ' M')
    (he : ∀ δ M, I n δ M → E.nx δ M) (δ : DEnv) (M : Mu) (h : I 0 δ M) : dForGo (fun _ => True) tg b E (rngD lo n) δ M := by
  refine for_ix _ I (fun _ _ _ _ => trivial) (fun j x δ M N e hI hN => ?_) (by rw [rngD_len]; exact he) δ M h
  have hj : j < n := by
    have := (List.getElem?_eq_some_iff.mp e).1
    rw [rngD_len] at this
    exact this
  rw [rngD_at hj] at e
  cases e
  exact hs j δ M N hj hI hN
theorem for_rng0 {tg : DTg} {b : DTS} {E : DEnds} (n : Nat) (I : Nat → DEnv → Mu → Prop)
    (hs : ∀ (j : Nat) δ M (N : DEnv → Mu → Prop), j < n → I j δ M → (∀ δ' M', I (j + 1) δ' M' → N δ' M') → tg (.int (j : Int)) δ M fun δ' M' => b { E with nx := N, ct := N, bk := E.nx } δ' M')
    (he : ∀ δ M, I n δ M → E.nx δ M) (δ : DEnv) (M : Mu) (h : I 0 δ M) : dForGo (fun _ => True) tg b E (rngD 0 n) δ M :=
  for_rng n I (fun j δ M N hj hI hN => by rw [Int.zero_add]; exact hs j δ M N hj hI hN) he δ M h
theorem lc_ix {g : Mu → Prop} {tg : DTg} {tt : DTT} {te : DTE} {δw : DEnv} {Q : List D → Mu → Prop} (ds : List D) (I : Nat → List D → Mu → Prop) (hg : ∀ j acc M, I j acc M → g M)
    (hs : ∀ j x acc M (N : List D → Mu → Prop), ds[j]? = some x → I j acc M → (∀ acc' M', I (j + 1) acc' M' → N acc' M') → tg x δw M fun δ' M' => tt δ' M' fun b M1 => match b with
      | true => te δ' M1 fun y M2 => acc.length < sizeLine ∧ N (acc ++ [y]) M2
      | false => N acc M1)
    (he : ∀ acc M, I ds.length acc M → Q acc M) (M : Mu) (h : I 0 [] M) : dLcGo g tg tt te δw ds [] M Q := by
  refine lc_inv (fun xs acc M => ∃ j, xs = ds.drop j ∧ j ≤ ds.length ∧ I j acc M) (fun xs acc M ⟨j, _, _, h⟩ => hg j acc M h) ?_ ?_ ds [] M ⟨0, rfl, Nat.zero_le _, h⟩
  · rintro x xs acc M N ⟨j, e, hj, hI⟩ hN
    have hlt : j < ds.length := by
      rcases Nat.lt_or_ge j ds.length with h1 | h1
      · exact h1
      · rw [List.drop_of_length_le h1] at e; cases e
    rw [List.drop_eq_getElem_cons hlt] at e
    injection e with e1 e2
    exact hs j x acc M N (by rw [List.getElem?_eq_getElem hlt, e1]) hI fun acc' M' h' => hN acc' M' ⟨j + 1, e2, hlt, h'⟩
  · rintro acc M ⟨j, e, hj, hI⟩
    have hge : ds.length ≤ j := by
      rcases Nat.lt_or_ge j ds.length with h1 | h1
      · rw [List.drop_eq_getElem_cons h1] at e; cases e
      · exact h1
    have : j = ds.length := by omega
    subst this
    exact he acc M hI
end DL
namespace DL
def plB : Nat → D → Bool
  | _, .non => true
  | _, .bl _ => true
  | _, .int _ => true
  | _, .str _ => true
  | n + 1, .tup ds => decide (ds.length ≤ 1000000) && ds.all (plB n)
  | n + 1, .lst ds => decide (ds.length ≤ 1000000) && ds.all (plB n)
  | _, _ => false
theorem plB_ok : ∀ (n : Nat) (d : D), plB n d = true → Pl n d
  | n, .non, _ => by cases n <;> exact True.intro
  | n, .bl _, _ => by cases n <;> exact True.intro
  | n, .int _, _ => by cases n <;> exact True.intro
  | n, .str _, _ => by cases n <;> exact True.intro
  | 0, .tup ds, h => by simp [plB] at h
  | 0, .lst ds, h => by simp [plB] at h
  | n + 1, .tup ds, h => by
    unfold plB at h
    rw [Bool.and_eq_true] at h
    exact ⟨of_decide_eq_true h.1, fun d hd => plB_ok n d (List.all_eq_true.mp h.2 d hd)⟩
  | n + 1, .lst ds, h => by
    unfold plB at h
    rw [Bool.and_eq_true] at h
    exact ⟨of_decide_eq_true h.1, fun d hd => plB_ok n d (List.all_eq_true.mp h.2 d hd)⟩
  | n, .src _, h => by cases n <;> simp [plB] at h
  | n, .exc _ _ _ _ _, h => by cases n <;> simp [plB] at h
  | n, .ref _, h => by cases n <;> simp [plB] at h
  | n, .ty _, h => by cases n <;> simp [plB] at h
/-- a thing is the same as itself -/
theorem same_me {M : Mu} {d : D} {Q : DK} {E : DXK} (h : Q (.bl true) M) (hp : plB 8 d = true := by rfl) : sp_law_same [d, d] M Q E := same_of d (.inl rfl) (.inl rfl) (plB_ok _ _ hp) h
theorem mul_le_cancel {g a b : Int} (hg : 0 < g) (h : g * a ≤ g * b) : a ≤ b := Int.le_of_mul_le_mul_left h hg
theorem mul_pos_cancel {g c : Int} (hg : 0 < g) (h : 0 < g * c) : 0 < c := by
  rcases Int.lt_or_le 0 c with h1 | h1
  · exact h1
  · have := Int.mul_le_mul_of_nonneg_left h1 (Int.le_of_lt hg)
    rw [Int.mul_zero] at this
    omega
theorem le_mul_self {g c : Int} (hg : 0 < g) (hc : 0 ≤ c) : c ≤ g * c := by
  have := Int.mul_le_mul_of_nonneg_right (show 1 ≤ g by omega) hc
  rw [Int.one_mul] at this
  exact this
theorem lt1000 {x : Int} (h : x < 2 ^ 60) : x < 2 ^ 1000 := Int.lt_of_lt_of_le h (by decide +kernel)
theorem bt_le {k : Nat} {a b : Int} (h : Bt k b) (h0 : 0 ≤ a) (hl : a ≤ b) : Bt k a := by
  unfold Bt at *
  omega
end DL

/-! DLM: more built-ins: max of a list. -/
namespace DL
open PySem PySem.Spec PyProof.Rows L2 TL
def dMaxL : DRC := fun ds M Q => match ds with
  | [d] => match (dseq M d).bind intsOf with
    | some ns => 0 < ns.length ∧ ∀ m, m ∈ ns → (∀ y, y ∈ ns → y ≤ m) → Q (.int m) M
    | none => False
  | _ => False
theorem rel_maxL [Ghost] {K : PySem.W.Frag} : RelC K (rMax K) dMaxL := by
  intro ds vs H F M Qd Q r s h po
  unfold dMaxL at h
  split at h
  · obtain ⟨v, e, r1⟩ := r.one
    subst e
    split at h
    · rename_i ns e
      obtain ⟨es, e1, e2⟩ := Option.bind_eq_some_iff.mp e
      obtain ⟨a, xs, e3, h1, r2⟩ := dseq_at s r1 e1
      have e4 := intsOf_at r2 e2
      subst e3 e4
      exact ⟨a, ns, rfl, .inl (.inl h1), h.1, fun m hm hy => po.fin s (h.2 m hm hy) (by unfold Rp; rfl)⟩
    · exact h.elim
  · exact h.elim
theorem r_maxL {M : Mu} {Q : DK} {d : D} {es : List D} {ns : List Int} (e : dseq M d = some es) (hi : intsOf es = some ns) (h0 : 0 < ns.length) (q : ∀ m, m ∈ ns → (∀ y, y ∈ ns → y ≤ m) → Q (.int m) M) : dMaxL [d] M Q := by
  unfold dMaxL; simp only [e, Option.bind_some, hi]; exact ⟨h0, q⟩
end DL
namespace DL
open PySem PySem.Spec PyProof.Rows L2 TL
/-! a tuple times a number -/
def dMulT : DR2
  | .tup ds, .int k, M, Q => ds ≠ [] ∧ 2 ≤ k ∧ k ≤ 1000 ∧ ds.length ≤ 1000 ∧ Q (.tup (List.replicate k.toNat ds).flatten) M
  | _, _, _, _ => False
theorem rel_mulT [Ghost] {K : PySem.W.Frag} : Rel2 K (rRepT K) dMulT := by
  intro x y vx vy H F M Qd Q rx ry s h po
  unfold dMulT at h
  split at h
  · unfold Rp at rx ry
    obtain ⟨a, xs, e1, h1, r1⟩ := rx
    obtain ⟨h2, h3, h4, h5, h6⟩ := h
    refine ⟨a, _, xs, e1, ry, s.fh.sqT h1, fun z => ?_, h3, h4, by rw [← r1.len]; exact h5, fun p hp => newT_at s (r1.rep _) h6 po hp⟩
    subst z
    exact h2 (List.length_eq_zero_iff.mp (by rw [r1.len]; rfl))
  · exact h.elim
theorem de_mulT [Ghost] {X : Cx} {a b : Expr} {ua ub : DTE} {pos : Pos} (ha : DE X a ua) (hb : DE X b ub) : DE X (.BinOp a .Mult b pos) (dOp dMulT ua ub) := de_op op_repT rel_mulT ha hb
theorem r_mulT {ds : List D} {k : Int} {M : Mu} {Q : DK} (h0 : ds ≠ []) (h2 : 2 ≤ k) (h3 : k ≤ 1000) (h4 : ds.length ≤ 1000) (q : Q (.tup (List.replicate k.toNat ds).flatten) M) : dMulT (.tup ds) (.int k) M Q := ⟨h0, h2, h3, h4, q⟩
end DL

/-! DLH: a head in parts. -/
namespace DL
open PySem PySem.Spec PyProof.Rows L2 TL
theorem obsD_app {fa1 fa2 : List He.Fa} {fn1 fn2 : List He.DefD} {K : PySem.W.Frag} (h1 : He.obsD fa1 fn1 K = He.valD fn1) (h2 : He.obsD fa2 fn2 K = He.valD fn2) : He.obsD (fa1 ++ fa2) (fn1 ++ fn2) K = He.valD (fn1 ++ fn2) := by
  unfold He.obsD He.valD at *
  obtain ⟨a1, b1⟩ := Prod.mk.inj h1
  obtain ⟨a2, b2⟩ := Prod.mk.inj h2
  rw [Bool.and_eq_true] at a1 a2
  rw [List.map_append, List.map_append, b1, b2, List.all_append, List.all_append, a1.1, a1.2, a2.1, a2.2]
  rfl
theorem run_app {r : PySem.W.OpenRow} {q : Program} {n M : Nat} {fa1 fa2 : List He.Fa} {fn1 fn2 : List He.DefD} {loose : List Str} {w : World}
    (h1 : HandSHeadRun.RunEq r q (He.hookD n fa1 fn1) (fun s => He.obsDG n fa1 fn1 (HandSHeadRun.getT s)) M loose w)
    (h2 : HandSHeadRun.RunEq r q (He.hookD n fa2 fn2) (fun s => He.obsDG n fa2 fn2 (HandSHeadRun.getT s)) M loose w) :
    HandSHeadRun.RunEq r q (He.hookD n (fa1 ++ fa2) (fn1 ++ fn2)) (fun s => He.obsDG n (fa1 ++ fa2) (fn1 ++ fn2) (HandSHeadRun.getT s)) M loose w := by
  intro os
  have e1 := h1 os
  have e2 := h2 os
  revert e1 e2
  generalize HandSHeadRun.endF _ _ _ _ _ = E
  intro e1 e2
  cases E with
  | none => cases e1
  | some s =>
    obtain ⟨l1, m1⟩ := Prod.mk.inj (Option.some.inj e1)
    obtain ⟨s1, o1⟩ := Prod.mk.inj m1
    obtain ⟨l2, m2⟩ := Prod.mk.inj (Option.some.inj e2)
    obtain ⟨s2, o2⟩ := Prod.mk.inj m2
    refine congrArg some (Prod.ext l1 (Prod.ext s1 ?_))
    exact obsD_app o1 o2
end DL

/-! CUa: signs of u + v sqrt c; numbers by their order to the fractions. -/
namespace SU
open PySem PySem.Spec PyProof.Rows L2 TL DL
def sg (x : Int) : Int := b2I (decide (0 < x)) - b2I (decide (x < 0))
theorem sg_eq (x : Int) : sg x = if 0 < x then 1 else if x < 0 then -1 else 0 := by
  unfold sg b2I
  by_cases h : 0 < x
  · rw [decide_eq_true h, decide_eq_false (by omega), if_pos h]; rfl
  · rw [decide_eq_false h, if_neg h]
    by_cases h2 : x < 0
    · rw [decide_eq_true h2, if_pos h2]; rfl
    · rw [decide_eq_false h2, if_neg h2]; rfl
theorem sg_pos {x : Int} (h : 0 < x) : sg x = 1 := by rw [sg_eq, if_pos h]
theorem sg_neg {x : Int} (h : x < 0) : sg x = -1 := by rw [sg_eq, if_neg (by omega), if_pos h]
theorem sg_zero : sg 0 = 0 := rfl
theorem tri (z : Int) : (0 < z ∧ sg z = 1) ∨ (z = 0 ∧ sg z = 0) ∨ (z < 0 ∧ sg z = -1) := by
  rcases Int.lt_trichotomy z 0 with h | h | h
  · exact .inr (.inr ⟨h, sg_neg h⟩)
  · exact .inr (.inl ⟨h, by rw [h]; rfl⟩)
  · exact .inl ⟨h, sg_pos h⟩
theorem sg_op (z : Int) : sg (-z) = -sg z := by
  rcases tri z with ⟨h, e⟩ | ⟨h, e⟩ | ⟨h, e⟩
  · rw [e, sg_neg (by omega)]
  · rw [h]; rfl
  · rw [e, sg_pos (by omega)]; rfl
theorem sg_mul (x y : Int) : sg (x * y) = sg x * sg y := by
  rcases tri x with ⟨h, e⟩ | ⟨h, e⟩ | ⟨h, e⟩
  · rcases tri y with ⟨k, f⟩ | ⟨k, f⟩ | ⟨k, f⟩
    · rw [e, f, sg_pos (Int.mul_pos h k)]; rfl
    · rw [k, Int.mul_zero]; simp [sg_zero]
    · rw [e, f, sg_neg (Int.mul_neg_of_pos_of_neg h k)]; rfl
  · rw [h, Int.zero_mul]; simp [sg_zero]
  · rcases tri y with ⟨k, f⟩ | ⟨k, f⟩ | ⟨k, f⟩
    · rw [e, f, sg_neg (Int.mul_neg_of_neg_of_pos h k)]; rfl
    · rw [k, Int.mul_zero]; simp [sg_zero]
    · rw [e, f, sg_pos (Int.mul_pos_of_neg_of_neg h k)]; rfl
theorem sq_nn (x : Int) : 0 ≤ x * x := by
  rcases Int.le_total 0 x with h | h
  · exact Int.mul_nonneg h h
  · exact Int.mul_nonneg_of_nonpos_of_nonpos h h
theorem sq_pos {x : Int} (h : x ≠ 0) : 0 < x * x := by
  rcases Int.lt_or_gt_of_ne h with h | h
  · exact Int.mul_pos_of_neg_of_neg h h
  · exact Int.mul_pos h h
theorem sq_smono {s r : Int} (hs : 0 ≤ s) (h : s < r) : s * s < r * r := by
  have h1 := Int.mul_le_mul_of_nonneg_left (Int.le_of_lt h) hs
  have h2 := Int.mul_lt_mul_of_pos_right h (show 0 < r by omega)
  omega
theorem sq_lt {s r : Int} (hr : 0 ≤ r) (h : s * s < r * r) : s < r := by
  rcases Int.lt_or_le s r with h1 | h1
  · exact h1
  · have := Int.mul_le_mul h1 h1 hr (by omega)
    omega
theorem sq_le {s r : Int} (hr : 0 ≤ r) (h : s * s ≤ r * r) : s ≤ r := by
  rcases Int.lt_or_le r s with h1 | h1
  · have := sq_smono hr h1
    omega
  · exact h1
theorem sq_mono {s r : Int} (hs : 0 ≤ s) (h : s ≤ r) : s * s ≤ r * r := Int.mul_le_mul h h hs (by omega)
/-! ### the sign of u + sqrt V -/
def pl (u V : Int) : Int := if 0 ≤ u then (if u = 0 ∧ V = 0 then 0 else 1) else sg (V - u * u)
theorem pl_neg_u {u V : Int} (h : u < 0) : pl u V = sg (V - u * u) := if_neg (by omega)
theorem pl_pos_u {u V : Int} (h : 0 < u) : pl u V = 1 := by unfold pl; rw [if_pos (by omega), if_neg (by omega)]
theorem pl_zero_u {V : Int} : pl 0 V = if V = 0 then 0 else 1 := by
  unfold pl
  rw [if_pos (Int.le_refl 0)]
  by_cases h : V = 0
  · rw [if_pos ⟨rfl, h⟩, if_pos h]
  · rw [if_neg (fun z => h z.2), if_neg h]
theorem pl_tri (u V : Int) : pl u V = 1 ∨ pl u V = 0 ∨ pl u V = -1 := by
  unfold pl
  split
  · split
    · exact .inr (.inl rfl)
    · exact .inl rfl
  · rcases tri (V - u * u) with ⟨_, e⟩ | ⟨_, e⟩ | ⟨_, e⟩
    · exact .inl e
    · exact .inr (.inl e)
    · exact .inr (.inr e)
/-- at or above 0: -u is at most sqrt V -/
theorem pl_nn {u V : Int} (hV : 0 ≤ V) : 0 ≤ pl u V ↔ (0 ≤ u ∨ u * u ≤ V) := by
  unfold pl
  split
  · next h =>
    refine ⟨fun _ => .inl h, fun _ => ?_⟩
    split <;> decide
  · next h =>
    rcases tri (V - u * u) with ⟨k, e⟩ | ⟨k, e⟩ | ⟨k, e⟩
    · rw [e]; exact ⟨fun _ => .inr (by omega), fun _ => by decide⟩
    · rw [e]; exact ⟨fun _ => .inr (by omega), fun _ => by decide⟩
    · rw [e]
      refine ⟨fun z => absurd z (by decide), fun z => ?_⟩
      rcases z with z | z <;> omega
theorem pl_p {u V : Int} (hV : 0 ≤ V) : pl u V = 1 ↔ (0 < u ∨ (u = 0 ∧ 0 < V) ∨ (u < 0 ∧ u * u < V)) := by
  rcases Int.lt_trichotomy u 0 with h | h | h
  · rw [pl_neg_u h]
    rcases tri (V - u * u) with ⟨k, e⟩ | ⟨k, e⟩ | ⟨k, e⟩
    · rw [e]; exact ⟨fun _ => .inr (.inr ⟨h, by omega⟩), fun _ => rfl⟩
    · rw [e]; exact ⟨fun z => absurd z (by decide), fun z => by omega⟩
    · rw [e]; exact ⟨fun z => absurd z (by decide), fun z => by omega⟩
  · subst h
    rw [pl_zero_u]
    by_cases hv : V = 0
    · rw [if_pos hv]; exact ⟨fun z => absurd z (by decide), fun z => by omega⟩
    · rw [if_neg hv]; exact ⟨fun _ => .inr (.inl ⟨rfl, by omega⟩), fun _ => rfl⟩
  · rw [pl_pos_u h]; exact ⟨fun _ => .inl h, fun _ => rfl⟩
theorem pl_scale {k u V : Int} (hk : 0 < k) : pl (k * u) (k * k * V) = pl u V := by
  have hkk : 0 < k * k := Int.mul_pos hk hk
  rcases Int.lt_trichotomy u 0 with h | h | h
  · rw [pl_neg_u h, pl_neg_u (Int.mul_neg_of_pos_of_neg hk h)]
    have e : k * k * V - k * u * (k * u) = k * k * (V - u * u) := by grind
    rw [e, sg_mul, sg_pos hkk, Int.one_mul]
  · subst h
    rw [Int.mul_zero, pl_zero_u, pl_zero_u]
    by_cases hv : V = 0
    · rw [hv, Int.mul_zero]
    · rw [if_neg hv, if_neg]
      intro z
      rcases Int.mul_eq_zero.mp z with z | z <;> omega
  · rw [pl_pos_u h, pl_pos_u (Int.mul_pos hk h)]
/-- more of u -/
theorem pl_mono {u u' V : Int} (hV : 0 ≤ V) (h : u < u') (h0 : 0 ≤ pl u V) : pl u' V = 1 := by
  rw [pl_p hV]
  rcases (pl_nn hV).mp h0 with h1 | h1
  · exact .inl (by omega)
  · rcases Int.lt_trichotomy u' 0 with h2 | h2 | h2
    · refine .inr (.inr ⟨h2, ?_⟩)
      have := sq_smono (s := -u') (r := -u) (by omega) (by omega)
      rw [Int.neg_mul_neg, Int.neg_mul_neg] at this
      omega
    · refine .inr (.inl ⟨h2, ?_⟩)
      have := sq_pos (x := u) (by omega)
      omega
    · exact .inl h2
/-! ### numbers as cuts: the sign of x - n / m -/
structure Cut (φ : Int → Int → Int) : Prop where
  tri : ∀ n m, 0 < m → φ n m = 1 ∨ φ n m = 0 ∨ φ n m = -1
  mono : ∀ n m n' m', 0 < m → 0 < m' → n * m' < n' * m → 0 ≤ φ n' m' → φ n m = 1
  hom : ∀ n m n' m', 0 < m → 0 < m' → n * m' = n' * m → φ n m = φ n' m'
section
variable {φ ψ : Int → Int → Int}
theorem Cut.anti (C : Cut φ) {n m n' m' : Int} (hm : 0 < m) (hm' : 0 < m') (h : n * m' < n' * m) (h0 : φ n m ≤ 0) : φ n' m' = -1 := by
  rcases C.tri n' m' hm' with e | e | e
  · have := C.mono n m n' m' hm hm' h (by omega); omega
  · have := C.mono n m n' m' hm hm' h (by omega); omega
  · exact e
theorem Cut.monoL (C : Cut φ) {n m n' m' : Int} (hm : 0 < m) (hm' : 0 < m') (h : n * m' ≤ n' * m) (h0 : 0 ≤ φ n' m') : 0 ≤ φ n m := by
  rcases Int.lt_or_eq_of_le h with h1 | h1
  · rw [C.mono n m n' m' hm hm' h1 h0]; decide
  · rw [C.hom n m n' m' hm hm' h1]; exact h0
theorem Cut.antiL (C : Cut φ) {n m n' m' : Int} (hm : 0 < m) (hm' : 0 < m') (h : n * m' ≤ n' * m) (h0 : φ n m ≤ 0) : φ n' m' ≤ 0 := by
  rcases Int.lt_or_eq_of_le h with h1 | h1
  · rw [C.anti hm hm' h1 h0]; decide
  · rw [← C.hom n m n' m' hm hm' h1]; exact h0
/-- below x, at or above x -/
theorem Cut.lt_of (C : Cut φ) {n m n' m' : Int} (hm : 0 < m) (hm' : 0 < m') (h1 : 0 ≤ φ n m) (h2 : φ n' m' = -1) : n * m' < n' * m := by
  rcases Int.lt_or_le (n * m') (n' * m) with h | h
  · exact h
  · have := C.monoL hm' hm (by omega : n' * m ≤ n * m') h1
    omega
/-- f = floor (n x) -/
def Fl (φ : Int → Int → Int) (n f : Int) : Prop := 0 ≤ φ f n ∧ φ (f + 1) n = -1
theorem Cut.fl_one (C : Cut φ) {n f g : Int} (hn : 0 < n) (h1 : Fl φ n f) (h2 : Fl φ n g) : f = g := by
  have a := C.lt_of hn hn h1.1 h2.2
  have b := C.lt_of hn hn h2.1 h1.2
  have := Int.lt_of_mul_lt_mul_right a (Int.le_of_lt hn)
  have := Int.lt_of_mul_lt_mul_right b (Int.le_of_lt hn)
  omega
theorem Cut.fl_ge (C : Cut φ) {n f k : Int} (hn : 0 < n) (h : Fl φ n f) : 0 ≤ φ k n ↔ k ≤ f := by
  constructor
  · intro h1
    have a := C.lt_of hn hn h1 h.2
    have := Int.lt_of_mul_lt_mul_right a (Int.le_of_lt hn)
    omega
  · intro h1
    exact C.monoL hn hn (Int.mul_le_mul_of_nonneg_right h1 (Int.le_of_lt hn)) h.1
end
/-- a fraction -/
def cQ (a d : Int) : Int → Int → Int := fun n m => sg (a * m - n * d)
theorem cutQ {a d : Int} (hd : 0 < d) : Cut (cQ a d) where
  tri n m _ := by rcases tri (a * m - n * d) with ⟨_, e⟩ | ⟨_, e⟩ | ⟨_, e⟩ <;> unfold cQ <;> omega
  mono n m n' m' hm hm' h h0 := by
    unfold cQ at *
    refine sg_pos ?_
    have h1 : 0 ≤ a * m' - n' * d := by rcases tri (a * m' - n' * d) with ⟨_, e⟩ | ⟨_, e⟩ | ⟨_, e⟩ <;> omega
    have h2 := Int.mul_lt_mul_of_pos_right h hd
    have h3 := Int.mul_le_mul_of_nonneg_right (show n' * d ≤ a * m' by omega) (Int.le_of_lt hm)
    have e1 : n * m' * d = n * d * m' := by grind
    have e2 : n' * m * d = n' * d * m := by grind
    have e3 : a * m' * m = a * m * m' := by grind
    have : n * d * m' < a * m * m' := by omega
    have := Int.lt_of_mul_lt_mul_right this (Int.le_of_lt hm')
    omega
  hom n m n' m' hm hm' h := by
    unfold cQ
    have e : m' * (a * m - n * d) = m * (a * m' - n' * d) := by
      have : n * m' * d = n' * m * d := by rw [h]
      grind
    have := congrArg sg e
    rw [sg_mul, sg_mul, sg_pos hm, sg_pos hm', Int.one_mul, Int.one_mul] at this
    exact this
/-- (A + sqrt V) / D -/
def cP (A V D : Int) : Int → Int → Int := fun n m => pl (A * m - n * D) (V * (m * m))
/-- (A - sqrt V) / D -/
def cM (A V D : Int) : Int → Int → Int := fun n m => -(pl (n * D - A * m) (V * (m * m)))
theorem cP_hom {A V D n m n' m' : Int} (hm : 0 < m) (hm' : 0 < m') (h : n * m' = n' * m) : cP A V D n m = cP A V D n' m' := by
  unfold cP
  rw [← pl_scale (k := m') hm', ← pl_scale (k := m) (u := A * m' - n' * D) hm]
  have e1 : m' * (A * m - n * D) = m * (A * m' - n' * D) := by
    have : n * m' * D = n' * m * D := by rw [h]
    grind
  have e2 : m' * m' * (V * (m * m)) = m * m * (V * (m' * m')) := by grind
  rw [e1, e2]
theorem cutP {A V D : Int} (hV : 0 ≤ V) (hD : 0 < D) : Cut (cP A V D) where
  tri n m _ := pl_tri _ _
  mono n m n' m' hm hm' h h0 := by
    unfold cP at *
    rw [← pl_scale (k := m) hm] at h0
    rw [← pl_scale (k := m') hm']
    have e2 : m * m * (V * (m' * m')) = m' * m' * (V * (m * m)) := by grind
    rw [e2] at h0
    refine pl_mono (Int.mul_nonneg (sq_nn m') (Int.mul_nonneg hV (sq_nn m))) ?_ h0
    have h2 := Int.mul_lt_mul_of_pos_right h hD
    have e1 : m * (A * m' - n' * D) = m' * A * m - n' * m * D := by grind
    have e3 : m' * (A * m - n * D) = m' * A * m - n * m' * D := by grind
    omega
  hom n m n' m' hm hm' h := cP_hom hm hm' h
theorem cM_eq (A V D n m : Int) : cM A V D n m = -(cP (-A) V D (-n) m) := by
  unfold cM cP
  have e : n * D - A * m = -A * m - -n * D := by grind
  rw [e]
theorem cutM {A V D : Int} (hV : 0 ≤ V) (hD : 0 < D) : Cut (cM A V D) where
  tri n m hm := by
    rw [cM_eq]
    rcases (cutP (A := -A) hV hD).tri (-n) m hm with e | e | e <;> rw [e] <;> simp
  mono n m n' m' hm hm' h h0 := by
    rw [cM_eq] at *
    have h1 : -n' * m < -n * m' := by rw [Int.neg_mul, Int.neg_mul]; omega
    rw [(cutP (A := -A) hV hD).anti hm' hm h1 (by omega)]
    rfl
  hom n m n' m' hm hm' h := by
    rw [cM_eq, cM_eq, cP_hom hm hm' (by rw [Int.neg_mul, Int.neg_mul, h])]
/-! ### floors by whole roots -/
structure Rt (V r : Int) : Prop where
  r0 : 0 ≤ r
  le : r * r ≤ V
  top : ∀ s, 0 ≤ s → s * s ≤ V → s ≤ r
theorem pl_rt {u V r : Int} (R : Rt V r) : 0 ≤ pl u V ↔ -u ≤ r := by
  have hV : 0 ≤ V := Int.le_trans (sq_nn r) R.le
  rw [pl_nn hV]
  constructor
  · intro h
    rcases h with h | h
    · have := R.r0; omega
    · rcases Int.le_total 0 (-u) with h1 | h1
      · exact R.top _ h1 (by rw [Int.neg_mul_neg]; exact h)
      · have := R.r0; omega
  · intro h
    rcases Int.le_total 0 u with h1 | h1
    · exact .inl h1
    · right
      have := sq_mono (s := -u) (r := r) (by omega) h
      rw [Int.neg_mul_neg] at this
      exact Int.le_trans this R.le
theorem pl_lt {u V r : Int} (R : Rt V r) : pl u V = -1 ↔ r < -u := by
  have h := pl_rt (u := u) R
  rcases pl_tri u V with e | e | e <;> rw [e] at h ⊢ <;> constructor <;> intro z <;> omega
theorem fl_P {A V D n r : Int} (hD : 0 < D) (R : Rt (V * (n * n)) r) : Fl (cP A V D) n ((A * n + r) / D) := by
  have h1 := Int.emod_nonneg (A * n + r) (show D ≠ 0 by omega)
  have h2 := Int.emod_lt_of_pos (A * n + r) hD
  have h3 := Int.emod_add_mul_ediv (A * n + r) D
  have e : D * ((A * n + r) / D) = (A * n + r) / D * D := Int.mul_comm _ _
  constructor
  · show 0 ≤ pl _ _
    rw [pl_rt R]
    omega
  · show pl _ _ = -1
    rw [pl_lt R, Int.add_mul, Int.one_mul]
    omega
theorem fl_M {A V D n r : Int} (hD : 0 < D) (R : Rt (V * (n * n)) r) (hn : r * r ≠ V * (n * n)) : Fl (cM A V D) n ((A * n - r - 1) / D) := by
  have h1 := Int.emod_nonneg (A * n - r - 1) (show D ≠ 0 by omega)
  have h2 := Int.emod_lt_of_pos (A * n - r - 1) hD
  have h3 := Int.emod_add_mul_ediv (A * n - r - 1) D
  have e : D * ((A * n - r - 1) / D) = (A * n - r - 1) / D * D := Int.mul_comm _ _
  constructor
  · show 0 ≤ -(pl _ _)
    have : pl ((A * n - r - 1) / D * D - A * n) (V * (n * n)) = -1 := by
      rw [pl_lt R]
      omega
    rw [this]; decide
  · show -(pl _ _) = -1
    have hV : 0 ≤ V * (n * n) := Int.le_trans (sq_nn r) R.le
    have : pl (((A * n - r - 1) / D + 1) * D - A * n) (V * (n * n)) = 1 := by
      rw [Int.add_mul, Int.one_mul]
      -- the first one that may be 0 is -r, and r * r is not V
      have h0 : 0 ≤ pl (-r) (V * (n * n)) := by rw [pl_rt R]; omega
      rcases Int.lt_or_le (-r) ((A * n - r - 1) / D * D + D - A * n) with h4 | h4
      · exact pl_mono hV h4 h0
      · have h5 : (A * n - r - 1) / D * D + D - A * n = -r := by omega
        rw [h5, pl_p hV]
        rcases Int.lt_trichotomy r 0 with h6 | h6 | h6
        · exact absurd R.r0 (by omega)
        · subst h6
          exact .inr (.inl ⟨rfl, by omega⟩)
        · refine .inr (.inr ⟨by omega, ?_⟩)
          rw [Int.neg_mul_neg]
          have := R.le
          omega
    rw [this]
theorem fl_Q {a d n : Int} (hd : 0 < d) : Fl (cQ a d) n (a * n / d) := by
  have h1 := Int.emod_nonneg (a * n) (show d ≠ 0 by omega)
  have h2 := Int.emod_lt_of_pos (a * n) hd
  have h3 := Int.emod_add_mul_ediv (a * n) d
  have e : d * (a * n / d) = a * n / d * d := Int.mul_comm _ _
  constructor
  · show 0 ≤ sg _
    rcases tri (a * n - a * n / d * d) with ⟨_, e⟩ | ⟨_, e⟩ | ⟨_, e⟩ <;> omega
  · show sg _ = -1
    refine sg_neg ?_
    rw [Int.add_mul, Int.one_mul]
    omega
end SU

/-! CUb: a + b sqrt c, its order to d sqrt e. -/
namespace SU
open PySem PySem.Spec PyProof.Rows L2 TL DL
def s2 (a b c : Int) : Int := if b = 0 ∨ c = 0 then sg a else if a = 0 ∨ decide (0 < a) = decide (0 < b) then sg b else sg a * sg (a * a - b * b * c)
def s3 (a b c d e : Int) : Int :=
  if s2 a b c = 0 ∨ (if 0 < e then sg d else 0) = 0 ∨ s2 a b c = (if 0 < e then sg d else 0) then (if s2 a b c ≠ 0 then s2 a b c else (if 0 < e then sg d else 0))
  else s2 a b c * s2 (a * a + b * b * c - d * d * e) (2 * a * b) c
structure Su where
  a : Int
  b : Int
  c : Int
  d : Int
def so (x y : Su) : Int := s3 (x.a * y.d - y.a * x.d) (x.b * y.d) x.c (-y.b * x.d) y.c
def NonSq (c : Int) : Prop := ∀ s : Int, s * s ≠ c
theorem s2_b0 (a c : Int) : s2 a 0 c = sg a := if_pos (.inl rfl)
theorem s2_c0 (a b : Int) : s2 a b 0 = sg a := if_pos (.inr rfl)
theorem s2_P {u b c : Int} (hb : 0 < b) (hc : 0 ≤ c) : s2 u b c = pl u (b * b * c) := by
  unfold s2
  by_cases h0 : c = 0
  · subst h0
    rw [if_pos (.inr rfl), Int.mul_zero]
    rcases Int.lt_trichotomy u 0 with h | h | h
    · rw [pl_neg_u h, sg_neg h, sg_neg (by have := sq_pos (x := u) (by omega); omega)]
    · subst h; rfl
    · rw [pl_pos_u h, sg_pos h]
  · have hV : 0 < b * b * c := Int.mul_pos (Int.mul_pos hb hb) (by omega)
    rw [if_neg (by omega)]
    rcases Int.lt_trichotomy u 0 with h | h | h
    · rw [if_neg, pl_neg_u h, sg_neg h]
      · have e : b * b * c - u * u = -(u * u - b * b * c) := by omega
        rw [e, sg_op]; omega
      · rintro (z | z)
        · omega
        · rw [decide_eq_false (by omega), decide_eq_true hb] at z; cases z
    · subst h
      rw [if_pos (.inl rfl), sg_pos hb, pl_zero_u, if_neg (by omega)]
    · rw [if_pos (.inr (by rw [decide_eq_true h, decide_eq_true hb])), sg_pos hb, pl_pos_u h]
theorem s2_op (a b c : Int) : s2 (-a) (-b) c = -s2 a b c := by
  unfold s2
  by_cases h : b = 0 ∨ c = 0
  · rw [if_pos h, if_pos (by omega), sg_op]
  · have e1 : -a * -a - -b * -b * c = a * a - b * b * c := by rw [Int.neg_mul_neg, Int.neg_mul_neg]
    rw [if_neg h, if_neg (by omega), e1, sg_op, sg_op]
    by_cases h2 : a = 0
    · rw [if_pos (show -a = 0 ∨ _ from .inl (by omega)), if_pos (show a = 0 ∨ _ from .inl h2)]
    · have hb : b ≠ 0 := fun z => h (.inl z)
      have key : (decide (0 < -a) = decide (0 < -b)) ↔ (decide (0 < a) = decide (0 < b)) := by
        rw [decide_eq_decide, decide_eq_decide]
        omega
      by_cases h3 : decide (0 < a) = decide (0 < b)
      · rw [if_pos (show -a = 0 ∨ _ from .inr (key.mpr h3)), if_pos (show a = 0 ∨ _ from .inr h3)]
      · rw [if_neg (fun z => by rcases z with z | z; omega; exact h3 (key.mp z)), if_neg (fun z => by rcases z with z | z; omega; exact h3 z), Int.neg_mul]
theorem s2_M {u b c : Int} (hb : b < 0) (hc : 0 ≤ c) : s2 u b c = -(pl (-u) (b * b * c)) := by
  have h := s2_P (u := -u) (b := -b) (by omega) hc
  rw [s2_op, Int.neg_mul_neg] at h
  omega
theorem s2_tri (a b c : Int) (hc : 0 ≤ c) : s2 a b c = 1 ∨ s2 a b c = 0 ∨ s2 a b c = -1 := by
  rcases Int.lt_trichotomy b 0 with h | h | h
  · rw [s2_M h hc]
    rcases pl_tri (-a) (b * b * c) with e | e | e <;> rw [e] <;> simp
  · subst h
    rw [s2_b0]
    rcases tri a with ⟨_, e⟩ | ⟨_, e⟩ | ⟨_, e⟩ <;> rw [e] <;> simp
  · rw [s2_P h hc]; exact pl_tri _ _
theorem s2_scale {k a b c : Int} (hk : 0 < k) : s2 (k * a) (k * b) c = s2 a b c := by
  unfold s2
  have h1 : k * b = 0 ↔ b = 0 := by
    constructor
    · intro z; rcases Int.mul_eq_zero.mp z with z | z <;> omega
    · rintro rfl; simp
  have h2 : k * a = 0 ↔ a = 0 := by
    constructor
    · intro z; rcases Int.mul_eq_zero.mp z with z | z <;> omega
    · rintro rfl; simp
  have h3 : ∀ z : Int, decide (0 < k * z) = decide (0 < z) := fun z => by
    rw [decide_eq_decide]
    exact ⟨fun h => mul_pos_cancel hk h, fun h => Int.mul_pos hk h⟩
  have e : k * a * (k * a) - k * b * (k * b) * c = k * k * (a * a - b * b * c) := by grind
  simp only [h1, h2, h3, sg_mul k b, sg_mul k a, sg_pos hk, e, sg_mul (k * k), sg_pos (Int.mul_pos hk hk), Int.one_mul]
/-- more of a -/
theorem s2_mono {a a' b c : Int} (hc : 0 ≤ c) (h : a < a') (h0 : 0 ≤ s2 a b c) : s2 a' b c = 1 := by
  rcases Int.lt_trichotomy b 0 with hb | hb | hb
  · rw [s2_M hb hc] at h0 ⊢
    have hV : 0 ≤ b * b * c := Int.mul_nonneg (sq_nn b) hc
    rcases pl_tri (-a') (b * b * c) with e | e | e
    · have := pl_mono hV (show -a' < -a by omega) (by omega); omega
    · have := pl_mono hV (show -a' < -a by omega) (by omega); omega
    · omega
  · subst hb
    rw [s2_b0] at h0 ⊢
    rcases tri a with ⟨_, e⟩ | ⟨_, e⟩ | ⟨_, e⟩
    · exact sg_pos (by omega)
    · exact sg_pos (by omega)
    · omega
  · rw [s2_P hb hc] at h0 ⊢
    exact pl_mono (Int.mul_nonneg (sq_nn b) hc) h h0
theorem s2_monoL {a a' b c : Int} (hc : 0 ≤ c) (h : a ≤ a') (h0 : 0 ≤ s2 a b c) : 0 ≤ s2 a' b c := by
  rcases Int.lt_or_eq_of_le h with h1 | h1
  · rw [s2_mono hc h1 h0]; decide
  · rw [← h1]; exact h0
/-- from two signs to the order of the first parts -/
theorem s2_le {a a' b c : Int} (hc : 0 ≤ c) (h : 0 ≤ s2 a b c) (h' : s2 a' b c ≤ 0) : a' ≤ a := by
  rcases Int.lt_or_le a a' with h1 | h1
  · have := s2_mono hc h1 h; omega
  · exact h1
theorem nonsq_ne {c A B : Int} (hc : NonSq c) (hB : B ≠ 0) : A * A ≠ B * B * c := by
  intro h
  have h1 : B * B ∣ A * A := ⟨c, h⟩
  have h2 : B.natAbs * B.natAbs ∣ A.natAbs * A.natAbs := by
    have := Int.natAbs_dvd_natAbs.mpr h1
    rwa [Int.natAbs_mul, Int.natAbs_mul] at this
  have h3 : B.natAbs ∣ A.natAbs := by
    rw [← Nat.pow_two, ← Nat.pow_two] at h2
    exact (Nat.pow_dvd_pow_iff (by decide)).mp h2
  obtain ⟨k, hk⟩ := Int.natAbs_dvd_natAbs.mp h3
  subst hk
  refine hc k ?_
  have e : B * B * (k * k) = B * B * c := by
    rw [← h]; grind
  exact Int.eq_of_mul_eq_mul_left (by have := sq_pos hB; omega) e
theorem s2A {A B c : Int} (hc : 0 < c) (h : B * B * c < A * A) : s2 A B c = sg A := by
  unfold s2
  by_cases hB : B = 0
  · rw [if_pos (.inl hB)]
  · rw [if_neg (by omega)]
    split
    · next h1 =>
      rcases h1 with h1 | h1
      · subst h1
        have := Int.mul_pos (sq_pos hB) hc
        omega
      · by_cases h2 : 0 < A
        · rw [decide_eq_true h2] at h1
          rw [sg_pos h2, sg_pos (of_decide_eq_true h1.symm)]
        · rw [decide_eq_false h2] at h1
          have h3 := of_decide_eq_false h1.symm
          have h4 : A ≠ 0 := by
            rintro rfl
            have := Int.mul_pos (sq_pos hB) hc
            omega
          rw [sg_neg (show A < 0 by omega), sg_neg (show B < 0 by omega)]
    · rw [sg_pos (show 0 < A * A - B * B * c by omega), Int.mul_one]
theorem s2B {A B c : Int} (hc : 0 < c) (h : A * A < B * B * c) : s2 A B c = sg B := by
  have hB : B ≠ 0 := by
    rintro rfl
    have := sq_nn A
    simp at h
    omega
  unfold s2
  rw [if_neg (by omega)]
  split
  · rfl
  · next h1 =>
    rw [sg_neg (show A * A - B * B * c < 0 by omega)]
    have h2 : A ≠ 0 := fun z => h1 (.inl z)
    by_cases h3 : 0 < A
    · by_cases h4 : 0 < B
      · exact absurd (.inr (by rw [decide_eq_true h3, decide_eq_true h4])) h1
      · rw [sg_pos h3, sg_neg (show B < 0 by omega)]; rfl
    · by_cases h4 : 0 < B
      · rw [sg_neg (show A < 0 by omega), sg_pos h4]; rfl
      · exact absurd (.inr (by rw [decide_eq_false h3, decide_eq_false h4])) h1
theorem sg_dom {x y : Int} (h : y * y < x * x) : sg (x + y) = sg x := by
  rcases Int.lt_trichotomy x 0 with h1 | h1 | h1
  · rw [sg_neg h1, sg_neg]
    have := sq_lt (s := y) (r := -x) (by omega) (by rw [Int.neg_mul_neg]; exact h)
    omega
  · subst h1
    have := sq_nn y
    simp at h; omega
  · rw [sg_pos h1, sg_pos]
    have := sq_lt (s := -y) (r := x) (by omega) (by rw [Int.neg_mul_neg]; exact h)
    omega
theorem mul_lt4 {a b c d : Int} (ha : 0 ≤ a) (hc : 0 ≤ c) (h1 : a < b) (h2 : c < d) : a * c < b * d := by
  have e1 := Int.mul_le_mul_of_nonneg_left (Int.le_of_lt h2) ha
  have e2 := Int.mul_lt_mul_of_pos_right h1 (show 0 < d by omega)
  omega
/-- the sign of a product -/
theorem s2_mul {A B A' B' c : Int} (hc : 0 < c) (hn : NonSq c) : s2 (A * A' + B * B' * c) (A * B' + A' * B) c = s2 A B c * s2 A' B' c := by
  have zero : ∀ {A B : Int}, A * A = B * B * c → A = 0 ∧ B = 0 := fun {A B} h => by
    by_cases hB : B = 0
    · subst hB
      rw [Int.mul_zero, Int.zero_mul] at h
      rcases Int.mul_eq_zero.mp h with h | h <;> exact ⟨h, rfl⟩
    · exact absurd h (nonsq_ne hn hB)
  have hBB : ∀ B : Int, 0 ≤ B * B * c := fun B => Int.mul_nonneg (sq_nn B) (by omega)
  have nrm : (A * A' + B * B' * c) * (A * A' + B * B' * c) - (A * B' + A' * B) * (A * B' + A' * B) * c = (A * A - B * B * c) * (A' * A' - B' * B' * c) := by grind
  rcases Int.lt_trichotomy (A * A) (B * B * c) with h | h | h
  · rcases Int.lt_trichotomy (A' * A') (B' * B' * c) with k | k | k
    · have hp := Int.mul_pos_of_neg_of_neg (show A * A - B * B * c < 0 by omega) (show A' * A' - B' * B' * c < 0 by omega)
      rw [s2A hc (by omega), s2B hc h, s2B hc k, ← sg_mul]
      have e : A * A' + B * B' * c = B * B' * c + A * A' := by omega
      rw [e, sg_dom, sg_mul _ c, sg_pos hc, Int.mul_one]
      have := mul_lt4 (sq_nn A) (sq_nn A') h k
      have e1 : A * A' * (A * A') = A * A * (A' * A') := by grind
      have e2 : B * B' * c * (B * B' * c) = B * B * c * (B' * B' * c) := by grind
      omega
    · obtain ⟨rfl, rfl⟩ := zero k
      simp [s2_b0, sg_zero]
    · have hp := Int.mul_neg_of_neg_of_pos (show A * A - B * B * c < 0 by omega) (show 0 < A' * A' - B' * B' * c by omega)
      rw [s2B hc (by omega), s2B hc h, s2A hc k, ← sg_mul]
      have e : A * B' + A' * B = A' * B + A * B' := by omega
      rw [e, sg_dom, Int.mul_comm A' B]
      have := mul_lt4 (sq_nn A) (hBB B') h k
      have e1 : A * A * (B' * B' * c) = A * B' * (A * B') * c := by grind
      have e2 : B * B * c * (A' * A') = A' * B * (A' * B) * c := by grind
      rw [e1, e2] at this
      exact Int.lt_of_mul_lt_mul_right this (Int.le_of_lt hc)
  · obtain ⟨rfl, rfl⟩ := zero h
    simp [s2_b0, sg_zero]
  · rcases Int.lt_trichotomy (A' * A') (B' * B' * c) with k | k | k
    · have hp := Int.mul_neg_of_pos_of_neg (show 0 < A * A - B * B * c by omega) (show A' * A' - B' * B' * c < 0 by omega)
      rw [s2B hc (by omega), s2A hc h, s2B hc k, ← sg_mul, sg_dom]
      have := mul_lt4 (hBB B) (sq_nn A') h k
      have e1 : A * A * (B' * B' * c) = A * B' * (A * B') * c := by grind
      have e2 : B * B * c * (A' * A') = A' * B * (A' * B) * c := by grind
      rw [e1, e2] at this
      exact Int.lt_of_mul_lt_mul_right this (Int.le_of_lt hc)
    · obtain ⟨rfl, rfl⟩ := zero k
      simp [s2_b0, sg_zero]
    · have hp := Int.mul_pos (show 0 < A * A - B * B * c by omega) (show 0 < A' * A' - B' * B' * c by omega)
      rw [s2A hc (by omega), s2A hc h, s2A hc k, ← sg_mul, sg_dom]
      have := mul_lt4 (hBB B) (hBB B') h k
      have e1 : A * A' * (A * A') = A * A * (A' * A') := by grind
      have e2 : B * B' * c * (B * B' * c) = B * B * c * (B' * B' * c) := by grind
      omega
/-- c is no square, or it is not met -/
def Okc (b c : Int) : Prop := (0 < c ∧ NonSq c) ∨ (b = 0 ∧ 0 ≤ c)
theorem Okc.c0 {b c : Int} (h : Okc b c) : 0 ≤ c := by rcases h with h | h <;> omega
theorem Okc.mul {b c : Int} (h : Okc b c) (k : Int) : Okc (b * k) c := by
  rcases h with h | ⟨rfl, h⟩
  · exact .inl h
  · exact .inr ⟨Int.zero_mul k, h⟩
/-- the square less t * t -/
theorem s2_sqT {A B c : Int} (h : Okc B c) (T : Int) : s2 (A * A + B * B * c - T * T) (2 * A * B) c = s2 (A - T) B c * s2 (A + T) B c := by
  rcases h with ⟨hc, hn⟩ | ⟨rfl, hc⟩
  · rw [← s2_mul hc hn]
    have e1 : (A - T) * (A + T) + B * B * c = A * A + B * B * c - T * T := by grind
    have e2 : (A - T) * B + (A + T) * B = 2 * A * B := by grind
    rw [e1, e2]
  · rw [show 2 * A * 0 = 0 from Int.mul_zero _, s2_b0, s2_b0, s2_b0, ← sg_mul]
    congr 1
    grind
end SU

/-! CUc: the order of two surds, by the fractions between them. -/
namespace SU
open PySem PySem.Spec PyProof.Rows L2 TL DL
theorem s3_scale {k a b c d e : Int} (hk : 0 < k) : s3 (k * a) (k * b) c (k * d) e = s3 a b c d e := by
  unfold s3
  have e1 : k * a * (k * a) + k * b * (k * b) * c - k * d * (k * d) * e = k * k * (a * a + b * b * c - d * d * e) := by grind
  have e2 : 2 * (k * a) * (k * b) = k * k * (2 * a * b) := by grind
  rw [s2_scale hk, e1, e2, s2_scale (Int.mul_pos hk hk), sg_mul, sg_pos hk, Int.one_mul]
def lst (D e : Int) : Int := if 0 < e then sg (-D) else 0
theorem s3_eq (A B c D e : Int) : s3 A B c (-D) e = if s2 A B c = 0 ∨ lst D e = 0 ∨ s2 A B c = lst D e then (if s2 A B c ≠ 0 then s2 A B c else lst D e) else s2 A B c * s2 (A * A + B * B * c - D * D * e) (2 * A * B) c := by
  unfold s3 lst
  rw [Int.neg_mul_neg]
/-- D sqrt e against T -/
inductive Bet (D e : Int) : Prop
  | pos (hD : 0 < D) (he : 0 < e) (l : lst D e = -1) (h : ∀ T, 0 ≤ s2 (-T) D e ↔ (T ≤ 0 ∨ T * T ≤ D * D * e))
  | neg (hD : D < 0) (he : 0 < e) (l : lst D e = 1) (h : ∀ T, 0 ≤ s2 (-T) D e ↔ (T ≤ 0 ∧ D * D * e ≤ T * T))
  | zero (hz : D * D * e = 0) (l : lst D e = 0) (h : ∀ T, 0 ≤ s2 (-T) D e ↔ T ≤ 0)
theorem sg_nn (x : Int) : 0 ≤ sg x ↔ 0 ≤ x := by
  rcases tri x with ⟨h, e⟩ | ⟨h, e⟩ | ⟨h, e⟩ <;> rw [e] <;> constructor <;> omega
theorem bet (D e : Int) (he : 0 ≤ e) : Bet D e := by
  by_cases h0 : e = 0
  · subst h0
    refine .zero (Int.mul_zero _) rfl fun T => ?_
    rw [s2_c0, sg_nn]
    omega
  · have he' : 0 < e := by omega
    rcases Int.lt_trichotomy D 0 with h | h | h
    · refine .neg h he' (by unfold lst; rw [if_pos he', sg_pos (by omega)]) fun T => ?_
      rw [s2_M h he, Int.neg_neg]
      have hV : 0 < D * D * e := Int.mul_pos (Int.mul_pos_of_neg_of_neg h h) he'
      have hp := pl_p (u := T) (Int.le_of_lt hV)
      constructor
      · intro z
        have hn : ¬ pl T (D * D * e) = 1 := by omega
        rw [hp] at hn
        constructor
        · rcases Int.lt_or_le 0 T with h1 | h1
          · exact absurd (.inl h1) hn
          · exact h1
        · rcases Int.lt_trichotomy T 0 with h1 | h1 | h1
          · rcases Int.lt_or_le (T * T) (D * D * e) with h2 | h2
            · exact absurd (.inr (.inr ⟨h1, h2⟩)) hn
            · exact h2
          · exact absurd (.inr (.inl ⟨h1, hV⟩)) hn
          · exact absurd (.inl h1) hn
      · rintro ⟨h1, h2⟩
        have hn : ¬ pl T (D * D * e) = 1 := by
          rw [hp]
          rintro (h3 | ⟨h3, _⟩ | ⟨_, h3⟩)
          · omega
          · subst h3; omega
          · omega
        rcases pl_tri T (D * D * e) with h3 | h3 | h3
        · exact absurd h3 hn
        · omega
        · omega
    · subst h
      refine .zero (by simp) (by unfold lst; rw [if_pos he']; rfl) fun T => ?_
      rw [s2_b0, sg_nn]
      omega
    · refine .pos h he' (by unfold lst; rw [if_pos he', sg_neg (by omega)]) fun T => ?_
      rw [s2_P h he, pl_nn (Int.mul_nonneg (sq_nn D) he), Int.neg_mul_neg]
      omega
section
variable {A B c D e T : Int}
theorem ab_le (hB : Okc B c) (he : 0 ≤ e) (h : s3 A B c (-D) e ≤ 0) (h1 : 0 ≤ s2 (A - T) B c) : 0 ≤ s2 (-T) D e := by
  have hc := hB.c0
  rw [s3_eq] at h
  have sq := s2_sqT hB (A := A) T
  rcases s2_tri A B c hc with f | f | f
  · -- above 0
    rcases bet D e he with ⟨hD, he', l, hb⟩ | ⟨hD, he', l, hb⟩ | ⟨hz, l, hb⟩
    · rw [f, l, if_neg (by decide), Int.one_mul] at h
      rw [hb]
      rcases Int.lt_or_le 0 T with hT | hT
      · right
        have h2 : s2 (A + T) B c = 1 := s2_mono hc (show A - T < A + T by omega) h1
        rw [h2, Int.mul_one] at sq
        have := s2_le hc (by rw [sq]; exact h1) h
        omega
      · exact .inl hT
    · rw [f, l, if_pos (.inr (.inr rfl)), if_pos (by decide)] at h; omega
    · rw [f, l, if_pos (.inr (.inl rfl)), if_pos (by decide)] at h; omega
  · have hT : T ≤ 0 := by
      have := s2_le hc h1 (a' := A) (by omega)
      omega
    rcases bet D e he with ⟨hD, he', l, hb⟩ | ⟨hD, he', l, hb⟩ | ⟨hz, l, hb⟩
    · rw [hb]; exact .inl hT
    · rw [f, l, if_pos (.inl rfl), if_neg (by decide)] at h; omega
    · rw [hb]; exact hT
  · have hT : T ≤ 0 := by
      have := s2_le hc h1 (a' := A) (by omega)
      omega
    rcases bet D e he with ⟨hD, he', l, hb⟩ | ⟨hD, he', l, hb⟩ | ⟨hz, l, hb⟩
    · rw [hb]; exact .inl hT
    · rw [f, l, if_neg (by decide)] at h
      rw [hb]
      refine ⟨hT, ?_⟩
      have h2 : s2 (A + T) B c ≤ 0 := by
        rcases s2_tri (A + T) B c hc with z | z | z
        · have := s2_monoL hc (show A + T ≤ A by omega) (by omega : 0 ≤ s2 (A + T) B c); omega
        · omega
        · omega
      have h3 : s2 (A - T) B c * s2 (A + T) B c ≤ 0 := Int.mul_nonpos_of_nonneg_of_nonpos h1 h2
      have := s2_le hc (show 0 ≤ s2 (A * A + B * B * c - D * D * e) (2 * A * B) c by omega) (by rw [sq]; exact h3)
      omega
    · rw [hb]; exact hT
theorem ab_ge (hB : Okc B c) (he : 0 ≤ e) (h : 0 ≤ s3 A B c (-D) e) (h1 : 0 ≤ s2 (-T) D e) : 0 ≤ s2 (A - T) B c := by
  have hc := hB.c0
  rw [s3_eq] at h
  have sq := s2_sqT hB (A := A) T
  rcases s2_tri A B c hc with f | f | f
  · rcases Int.lt_or_le 0 T with hT | hT
    · have h2 : s2 (A + T) B c = 1 := s2_mono hc (show A < A + T by omega) (by omega)
      rcases bet D e he with ⟨hD, he', l, hb⟩ | ⟨hD, he', l, hb⟩ | ⟨hz, l, hb⟩
      · rw [f, l, if_neg (by decide), Int.one_mul] at h
        have h3 : T * T ≤ D * D * e := by
          rcases (hb T).mp h1 with z | z <;> omega
        have := s2_monoL (b := 2 * A * B) hc (show A * A + B * B * c - D * D * e ≤ A * A + B * B * c - T * T by omega) h
        rw [sq, h2, Int.mul_one] at this
        exact this
      · have := ((hb T).mp h1).1; omega
      · have := (hb T).mp h1; omega
    · exact s2_monoL hc (show A ≤ A - T by omega) (by omega)
  · rcases bet D e he with ⟨hD, he', l, hb⟩ | ⟨hD, he', l, hb⟩ | ⟨hz, l, hb⟩
    · rw [f, l, if_pos (.inl rfl), if_neg (by decide)] at h; omega
    · exact s2_monoL hc (show A ≤ A - T by have := ((hb T).mp h1).1; omega) (by omega)
    · exact s2_monoL hc (show A ≤ A - T by have := (hb T).mp h1; omega) (by omega)
  · rcases bet D e he with ⟨hD, he', l, hb⟩ | ⟨hD, he', l, hb⟩ | ⟨hz, l, hb⟩
    · rw [f, l, if_pos (.inr (.inr rfl)), if_pos (by decide)] at h; omega
    · rw [f, l, if_neg (by decide)] at h
      obtain ⟨hT, hE⟩ := (hb T).mp h1
      have h2 : s2 (A + T) B c = -1 := by
        rcases s2_tri (A + T) B c hc with z | z | z
        · have := s2_monoL hc (show A + T ≤ A by omega) (by omega : 0 ≤ s2 (A + T) B c); omega
        · have := s2_monoL hc (show A + T ≤ A by omega) (by omega : 0 ≤ s2 (A + T) B c); omega
        · exact z
      have h3 : s2 (A * A + B * B * c - T * T) (2 * A * B) c ≤ 0 := by
        rcases Int.lt_or_eq_of_le (show A * A + B * B * c - T * T ≤ A * A + B * B * c - D * D * e by omega) with z | z
        · rcases s2_tri (A * A + B * B * c - T * T) (2 * A * B) c hc with y | y | y
          · have := s2_mono (b := 2 * A * B) hc z (by omega); omega
          · omega
          · omega
        · rw [z]; omega
      rw [sq, h2] at h3
      omega
    · rw [f, l, if_pos (.inr (.inl rfl)), if_pos (by decide)] at h; omega
end
/-! ### surds -/
def cS (x : Su) : Int → Int → Int := fun n m => s2 (x.a * m - n * x.d) (x.b * m) x.c
theorem Cut.congr {φ ψ : Int → Int → Int} (e : ∀ n m, 0 < m → φ n m = ψ n m) (C : Cut ψ) : Cut φ where
  tri n m hm := by rw [e n m hm]; exact C.tri n m hm
  mono n m n' m' hm hm' h h0 := by rw [e n m hm]; rw [e n' m' hm'] at h0; exact C.mono n m n' m' hm hm' h h0
  hom n m n' m' hm hm' h := by rw [e n m hm, e n' m' hm']; exact C.hom n m n' m' hm hm' h
theorem Fl.congr {φ ψ : Int → Int → Int} {n f : Int} (hn : 0 < n) (e : ∀ n m, 0 < m → φ n m = ψ n m) (h : Fl ψ n f) : Fl φ n f := ⟨by rw [e _ _ hn]; exact h.1, by rw [e _ _ hn]; exact h.2⟩
theorem cS_P {x : Su} (hb : 0 < x.b) (hc : 0 ≤ x.c) (n m : Int) (hm : 0 < m) : cS x n m = cP x.a (x.b * x.b * x.c) x.d n m := by
  unfold cS cP
  rw [s2_P (Int.mul_pos hb hm) hc]
  congr 1
  grind
theorem cS_M {x : Su} (hb : x.b < 0) (hc : 0 ≤ x.c) (n m : Int) (hm : 0 < m) : cS x n m = cM x.a (x.b * x.b * x.c) x.d n m := by
  unfold cS cM
  rw [s2_M (Int.mul_neg_of_neg_of_pos hb hm) hc]
  have e1 : -(x.a * m - n * x.d) = n * x.d - x.a * m := by omega
  have e2 : x.b * m * (x.b * m) * x.c = x.b * x.b * x.c * (m * m) := by grind
  rw [e1, e2]
theorem cS_Q {x : Su} (hb : x.b = 0) (n m : Int) : cS x n m = cQ x.a x.d n m := by
  unfold cS cQ
  rw [hb, Int.zero_mul, s2_b0]
theorem cutS {x : Su} (hd : 0 < x.d) (hc : 0 ≤ x.c) : Cut (cS x) := by
  rcases Int.lt_trichotomy x.b 0 with h | h | h
  · exact (cutM (Int.mul_nonneg (sq_nn _) hc) hd).congr (cS_M h hc)
  · exact (cutQ hd).congr fun n m _ => cS_Q h n m
  · exact (cutP (Int.mul_nonneg (sq_nn _) hc) hd).congr (cS_P h hc)
section
variable {x y : Su} {n m : Int}
theorem so_eq (m : Int) (hm : 0 < m) : so x y = s3 (m * (x.a * y.d - y.a * x.d)) (m * (x.b * y.d)) x.c (-(m * (y.b * x.d))) y.c := by
  unfold so
  have e : -(m * (y.b * x.d)) = m * (-y.b * x.d) := by grind
  rw [e, s3_scale hm]
theorem cS_left (hy : 0 < y.d) : s2 (m * (x.a * y.d - y.a * x.d) - (n * y.d - y.a * m) * x.d) (m * (x.b * y.d)) x.c = cS x n m := by
  unfold cS
  have e1 : m * (x.a * y.d - y.a * x.d) - (n * y.d - y.a * m) * x.d = y.d * (x.a * m - n * x.d) := by grind
  have e2 : m * (x.b * y.d) = y.d * (x.b * m) := by grind
  rw [e1, e2, s2_scale hy]
theorem cS_right (hx : 0 < x.d) : s2 (-((n * y.d - y.a * m) * x.d)) (m * (y.b * x.d)) y.c = cS y n m := by
  unfold cS
  have e1 : -((n * y.d - y.a * m) * x.d) = x.d * (y.a * m - n * y.d) := by grind
  have e2 : m * (y.b * x.d) = x.d * (y.b * m) := by grind
  rw [e1, e2, s2_scale hx]
theorem Okc.mul' {b c : Int} (h : Okc b c) (k m : Int) : Okc (m * (b * k)) c := by
  have := h.mul (k * m)
  rwa [show b * (k * m) = m * (b * k) by grind] at this
/-- x <= y: what is below x is below y -/
theorem so_le (hx : Okc x.b x.c) (dx : 0 < x.d) (dy : 0 < y.d) (hy : 0 ≤ y.c) (h : so x y ≤ 0) (hm : 0 < m) (h1 : 0 ≤ cS x n m) : 0 ≤ cS y n m := by
  rw [so_eq m hm] at h
  rw [← cS_left dy] at h1
  rw [← cS_right dx]
  exact ab_le (hx.mul' _ _) hy h h1
theorem so_ge (hx : Okc x.b x.c) (dx : 0 < x.d) (dy : 0 < y.d) (hy : 0 ≤ y.c) (h : 0 ≤ so x y) (hm : 0 < m) (h1 : 0 ≤ cS y n m) : 0 ≤ cS x n m := by
  rw [so_eq m hm] at h
  rw [← cS_right dx] at h1
  rw [← cS_left dy]
  exact ab_ge (hx.mul' _ _) hy h h1
end
/-- a fraction as a surd -/
def qSu (n m : Int) : Su := ⟨n, 0, 0, m⟩
theorem so_left (x : Su) (n m : Int) : so x (qSu n m) = cS x n m := by
  show s3 (x.a * m - n * x.d) (x.b * m) x.c (-0 * x.d) 0 = _
  unfold s3
  rw [if_pos (.inr (.inl rfl))]
  split
  · rfl
  · next h =>
    have h : s2 (x.a * m - n * x.d) (x.b * m) x.c = 0 := by simpa using h
    exact h.symm
theorem so_right (y : Su) (n m : Int) (hd : 0 < y.d) (hm : 0 < m) (hc : 0 ≤ y.c) : so (qSu n m) y = -cS y n m := by
  show s3 (n * y.d - y.a * m) (0 * y.d) 0 (-y.b * m) y.c = _
  have e : -y.b * m = -(y.b * m) := by grind
  rw [e, s3_eq, s2_c0]
  unfold cS
  have op : s2 (y.a * m - n * y.d) (y.b * m) y.c = s2 (-(n * y.d - y.a * m)) (y.b * m) y.c := by
    congr 1; omega
  rw [op]
  generalize n * y.d - y.a * m = T
  generalize y.b * m = D
  rcases bet D y.c hc with ⟨hD, he', l, hb⟩ | ⟨hD, he', l, hb⟩ | ⟨hz, l, hb⟩
  · rw [l]
    rcases tri T with ⟨h1, e1⟩ | ⟨h1, e1⟩ | ⟨h1, e1⟩
    · rw [e1, if_neg (by decide), Int.one_mul]
      have e2 : T * T + 0 * y.d * (0 * y.d) * 0 - D * D * y.c = T * T - D * D * y.c := by simp
      rw [e2, s2_c0, s2_P hD hc, pl_neg_u (by omega), Int.neg_mul_neg, ← sg_op]
      congr 1; omega
    · subst h1
      rw [sg_zero, if_pos (.inl rfl), if_neg (by simp), s2_P hD hc]
      show (-1 : Int) = -(pl 0 _)
      rw [pl_zero_u, if_neg (by have := Int.mul_pos (Int.mul_pos hD hD) he'; omega)]
    · rw [e1, if_pos (.inr (.inr rfl)), if_pos (by decide), s2_P hD hc, pl_pos_u (by omega)]
  · rw [l]
    rcases tri T with ⟨h1, e1⟩ | ⟨h1, e1⟩ | ⟨h1, e1⟩
    · rw [e1, if_pos (.inr (.inr rfl)), if_pos (by decide), s2_M hD hc, Int.neg_neg, Int.neg_neg, pl_pos_u h1]
    · subst h1
      rw [sg_zero, if_pos (.inl rfl), if_neg (by simp), s2_M hD hc]
      show (1 : Int) = - -(pl (- -0) _)
      rw [Int.neg_neg, Int.neg_neg, pl_zero_u, if_neg (by have := Int.mul_pos (Int.mul_pos_of_neg_of_neg hD hD) he'; omega)]
    · rw [e1, if_neg (by decide)]
      have e2 : T * T + 0 * y.d * (0 * y.d) * 0 - D * D * y.c = T * T - D * D * y.c := by simp
      rw [e2, s2_c0, s2_M hD hc, Int.neg_neg, Int.neg_neg, pl_neg_u h1]
      have e3 : D * D * y.c - T * T = -(T * T - D * D * y.c) := by omega
      rw [e3, sg_op]
      omega
  · rw [l, if_pos (.inr (.inl rfl))]
    have e4 : s2 (-T) D y.c = sg (-T) := by
      unfold s2
      rw [if_pos]
      rcases Int.mul_eq_zero.mp hz with z | z
      · rcases Int.mul_eq_zero.mp z with z | z <;> exact .inl z
      · exact .inr z
    rw [e4, sg_op]
    split
    · omega
    · next h => 
      have h : sg T = 0 := by simpa using h
      rw [h]; rfl
end SU

namespace SU
open PySem PySem.Spec PyProof.Rows L2 TL DL
local macro_rules | `(tactic| walk_at "st1") => `(tactic| first
  | with_reducible refine r_sq ?_ | with_reducible refine r_nx ?_ | with_reducible refine r_rt ?_ | with_reducible refine r_rtN ?_ | with_reducible refine r_ex ?_ | with_reducible refine r_as ?_ | with_reducible refine r_bk ?_ | with_reducible refine r_ct ?_
  | ((with_reducible apply r_var); exact rfl) | with_reducible refine r_c ?_ | with_reducible refine r_op ?_ | with_reducible refine r_un ?_ | with_reducible refine r_neg ?_
  | ((with_reducible refine r_dgN rfl ?_); (try simp only [List.set]))
  | with_reducible refine r_dgSub ?_ | with_reducible refine r_dgT rfl ?_ | with_reducible refine r_dga0 ?_ | with_reducible refine r_dga1 ?_ | with_reducible refine r_auS ?_ | ((with_reducible apply r_au); exact rfl)
  | with_reducible refine r_par ?_ | ((with_reducible refine r_kPar rfl ?_); (try simp only [List.set]))
  | with_reducible refine r_addI ?_ | with_reducible refine r_addS ?_ | with_reducible refine r_addT ?_ | with_reducible refine r_addL ?_ | with_reducible refine r_subI ?_ | with_reducible refine r_mulI ?_ | with_reducible refine r_fdiv ?_ | with_reducible refine r_mod ?_ | with_reducible refine r_pow ?_ | with_reducible refine r_shl ?_
  | with_reducible refine r_eqI ?_ | with_reducible refine r_eqS ?_ | with_reducible refine r_eqB ?_ | with_reducible refine r_neI ?_ | with_reducible refine r_neS ?_ | with_reducible refine r_neB ?_ | with_reducible refine r_ltI ?_ | with_reducible refine r_gtI ?_ | with_reducible refine r_leI ?_ | with_reducible refine r_geI ?_ | with_reducible refine r_isN ?_ | with_reducible refine r_notN ?_ | with_reducible refine r_inS ?_
  | with_reducible refine r_test ?_ | with_reducible refine r_kB ?_ | with_reducible refine r_tru ?_ | with_reducible refine r_kTb ?_ | with_reducible refine r_kTi ?_ | with_reducible refine r_kTn ?_ | with_reducible refine r_kTl ?_ | with_reducible refine r_kTt ?_ | with_reducible refine r_kTs ?_ | with_reducible refine r_not ?_ | with_reducible refine r_notV ?_ | with_reducible refine r_yes ?_
  | with_reducible refine r_nil ?_ | with_reducible refine r_cons ?_ | with_reducible refine r_tup ?_ | with_reducible refine r_lst ?_ | with_reducible refine r_newF ?_ | with_reducible refine r_cb ?_
  | with_reducible refine r_lenS ?_ | with_reducible refine r_lenL ?_ | with_reducible refine r_lenT ?_ | with_reducible refine r_lenSrc ?_ | with_reducible refine r_abs ?_ | with_reducible refine r_min2 ?_ | with_reducible refine r_max2 ?_ | with_reducible refine r_intI ?_ | with_reducible refine r_str ?_ | with_reducible refine r_tupT ?_ | with_reducible refine r_tupL ?_ | with_reducible refine r_divmod ?_
  | with_reducible refine r_sl ?_ | with_reducible refine r_noP ?_ | with_reducible refine r_part ?_ | with_reducible refine r_kP ?_ | with_reducible refine r_slS ?_ | with_reducible refine r_slT ?_ | with_reducible refine r_slL ?_ | with_reducible refine r_slSrc ?_
  | with_reducible refine r_bm ?_ | with_reducible refine r_tyS ?_ | with_reducible refine r_starts ?_ | with_reducible refine r_count ?_ | with_reducible refine r_call ?_ | with_reducible refine r_for ?_ | with_reducible refine r_seq ?_ | with_reducible refine r_kIt ?_ | with_reducible refine r_kIl ?_ | with_reducible refine r_kIs ?_ | with_reducible refine r_kIsrc ?_ | with_reducible refine r_r1 ?_ | with_reducible refine r_r2 ?_ | with_reducible refine r_lc ?_
  | with_reducible refine lit0 ?_ | with_reducible refine lit1 ?_ | with_reducible refine lit2 ?_ | with_reducible refine lit3 ?_ | with_reducible refine lit4 ?_ | with_reducible refine lit5 ?_ | with_reducible refine lit6 ?_ | with_reducible refine lit7 ?_
  | with_reducible refine r_callX ?_ | with_reducible refine r_callE ?_ | with_reducible refine r_try ?_ | with_reducible refine r_isE ?_ | with_reducible refine r_fld ?_ | with_reducible refine r_excK ?_ | with_reducible refine r_raise ?_
  | with_reducible refine r_subB ?_ | with_reducible refine r_r3 ?_ | with_reducible refine r_rev ?_ | with_reducible refine r_kRv ?_
  | fail)
local macro_rules | `(tactic| walk_at "st") => `(tactic| repeat (first | walk_at "st1" | dsimp only))
local macro_rules | `(tactic| walk_at "go") => `(tactic| (simp only [dstart, dEnd, List.map_cons, List.map_nil, List.length_cons, List.length_nil, Nat.reduceAdd, Nat.reduceSub, Nat.zero_add, List.replicate, List.cons_append, List.nil_append]; walk_at "st"))

local macro_rules | `(tactic| walk_at "bt") => `(tactic| first | with_reducible assumption | ((with_reducible apply bt_mul) <;> walk_at "bt") | ((with_reducible apply bt_sub) <;> walk_at "bt") | ((with_reducible apply bt_add) <;> walk_at "bt") | ((with_reducible apply bt_neg) <;> walk_at "bt") | ((with_reducible apply bt_abs) <;> walk_at "bt") | ((with_reducible apply bt_fdiv) <;> walk_at "bt") | exact bt_lit 64 (by decide +kernel))
local macro_rules | `(tactic| walk_at "cm") => `(tactic| ((with_reducible refine And.intro ?_ ?_); (focus ((with_reducible apply cm_ok) <;> first | decide | walk_at "bt"))))
local macro_rules | `(tactic| walk_at "sm") => `(tactic| repeat (first | walk_at "st1" | ((with_reducible apply r_idxT); exact rfl) | ((with_reducible apply r_idxL); exact rfl) | dsimp only | walk_at "cm"))

def iD (ns : List Int) : List D := ns.map D.int
theorem iD_len (ns : List Int) : (iD ns).length = ns.length := by unfold iD; rw [List.length_map]
theorem iD_at {ns : List Int} {j : Nat} (h : j < ns.length) : atI (iD ns) (j : Int) = some (.int ns[j]) := atI_nat (by unfold iD; rw [List.getElem?_map, List.getElem?_eq_getElem h]; rfl)
/-! plain -/
def gcdL (ns : List Int) : Int := ns.foldl (fun g c => (Int.gcd g c : Int)) 0
def cutN (ns : List Int) : Nat → Nat
  | 0 => 0
  | k + 1 => if ns[k]? = some 0 then cutN ns k else k + 1
def trim (ns : List Int) : List Int := ns.take (cutN ns ns.length)
def homS (n m : Int) (a : Int × Int) (c : Int) : Int × Int := (a.1 * n + c * a.2, a.2 * m)
def hom (ns : List Int) (n m : Int) : Int := (ns.reverse.foldl (homS n m) (0, 1)).1
/-- shapes: leading coefficient above 0 -/
inductive Sh : List Int → Prop
  | quad {c0 c1 c2 : Int} (h : 0 < c2) (hd : 0 < c1 * c1 - 4 * (c0 * c2)) : Sh [c0, c1, c2]
  | r3 {S T : Int} (hT : 0 < T) (hS : S ≠ 0) : Sh [-S, 0, 0, T]
  | r5 {S T : Int} (hT : 0 < T) (hS : S ≠ 0) : Sh [-S, 0, 0, 0, 0, T]
  | r7 {S T : Int} (hT : 0 < T) (hS : S ≠ 0) : Sh [-S, 0, 0, 0, 0, 0, 0, T]
def derP : List Int → List Int
  | [_, c1, c2] => [c1, c2 * 2]
  | [_, _, _, t] => [0, 0, t * 3]
  | [_, _, _, _, _, t] => [0, 0, 0, 0, t * 5]
  | [_, _, _, _, _, _, _, t] => [0, 0, 0, 0, 0, 0, t * 7]
  | _ => []
/-- the last remainder -/
def remS : List Int → Int
  | [_, _, _] => -1
  | ns => sg (ns.headD 0)
def chainP (ns : List Int) : List (List Int) := [ns, derP ns, [-(remS ns)]]
def chgS (a : Int × Int) (s : Int) : Int × Int := if s = 0 then a else (if s = -a.2 then a.1 + 1 else a.1, s)
def chg (ss : List Int) : Int := (ss.foldl chgS (0, 0)).1
/-! ### specs of the program's side -/
def B5 (ns : List Int) : Prop := ns.length ≤ 8 ∧ ∀ c ∈ ns, Bt 2000 c
def B4 (ns : List Int) : Prop := ns.length ≤ 8 ∧ ∀ c ∈ ns, Bt 700 c
def sp_gcd_of : DSp := fun ds M Q _ => ∃ (a b : Int), ds = [.int a, .int b] ∧ Q (.int (Int.gcd a b : Int)) M
def sp_trimmed : DSp := fun ds M Q _ => ∃ (x : D) (ns : List Int), ds = [x] ∧ dseq M x = some (iD ns) ∧ ns.length ≤ 1000 ∧ Q (.tup (iD (trim ns))) M
def sp_content : DSp := fun ds M Q _ => ∃ (x : D) (ns : List Int), ds = [x] ∧ dits M x = some (iD ns) ∧ Q (.int (gcdL ns)) M
def sp_primitive : DSp := fun ds M Q _ => ∃ (ns : List Int) (l : Int), ds = [.tup (iD ns)] ∧ B4 ns ∧ ns.getLast? = some l ∧ l ≠ 0 ∧ ∀ g ms, ns = ms.map (g * ·) → 0 < g * l → B4 ms → (∀ k, ns = [k] → ms = [1]) → Q (.tup (iD ms)) M
def sp_homogeneous : DSp := fun ds M Q _ => ∃ (ns : List Int) (n m : Int), ds = [.tup (iD ns), .tup [.int n, .int m]] ∧ B5 ns ∧ Bt 2000 n ∧ Bt 2000 m ∧ Q (.int (hom ns n m)) M
def sp_sign : DSp := fun ds M Q _ => ∃ (ns : List Int) (n m : Int), ds = [.tup (iD ns), .tup [.int n, .int m]] ∧ B5 ns ∧ Bt 2000 n ∧ Bt 2000 m ∧ Q (.int (sg (hom ns n m))) M
def sp_derived : DSp := fun ds M Q _ => ∃ (ns : List Int), ds = [.tup (iD ns)] ∧ Sh ns ∧ B4 ns ∧ Q (.tup (iD (derP ns))) M
def sp_remainder : DSp := fun ds M Q _ => ∃ (ns es : List Int), ds = [.tup (iD ns), .tup (iD es)] ∧ ns.length ≤ 8 ∧ (∀ c ∈ ns, Bt 710 c) ∧ (∀ c ∈ es, Bt 710 c) ∧
  ((∃ h, es = [h] ∧ h ≠ 0 ∧ Bt 1 h ∧ Q (.tup []) M) ∨ (Sh ns ∧ 3 ≤ ns.length ∧ es = derP ns ∧ Q (.tup [.int (remS ns)]) M))
def sp_quotient : DSp := fun ds M Q _ => ∃ (ns : List Int), ds = [.tup (iD ns), .tup [.int 1]] ∧ 1 ≤ ns.length ∧ B4 ns ∧ Q (.tup (iD ns)) M
def sp_common : DSp := fun ds M Q _ => ∃ (ns : List Int), ds = [.tup (iD ns), .tup (iD (derP ns))] ∧ Sh ns ∧ B4 ns ∧ Q (.tup [.int 1]) M
def Prim (ns : List Int) : Prop := ∀ (g : Int) (ms : List Int), 0 < g → ns = ms.map (g * ·) → g = 1
def sp_free : DSp := fun ds M Q _ => ∃ (ns : List Int), ds = [.tup (iD ns)] ∧ Sh ns ∧ B4 ns ∧ Prim ns ∧ Q (.tup (iD ns)) M
def polys (ps : List (List Int)) : List D := ps.map fun p => D.tup (iD p)
def sp_chain_of : DSp := fun ds M Q _ => ∃ (ns : List Int), ds = [.tup (iD ns)] ∧ Sh ns ∧ B4 ns ∧ Q (.lst (polys (chainP ns))) M
def sp_changes : DSp := fun ds M Q _ => ∃ (x : D) (ss : List Int), ds = [x] ∧ dseq M x = some (iD ss) ∧ Q (.int (chg ss)) M
def sp_changes_at : DSp := fun ds M Q _ => ∃ (ps : List (List Int)) (n m : Int), ds = [.lst (polys ps), .tup [.int n, .int m]] ∧ ps.length ≤ 8 ∧ (∀ p ∈ ps, p.length ≤ 8 ∧ ∀ c ∈ p, Bt 2000 c) ∧ Bt 2000 n ∧ Bt 2000 m ∧ Q (.int (chg (ps.map fun p => sg (hom p n m)))) M
def t_gcd_of : DTS := (dSq (dWhile (dTest (dOp dNe (dVar 1) (dC (.int 0)))) (dPar 0 1 (dCons (dVar 1) (dCons (dOp dMod (dVar 0) (dVar 1)) dNil)))) (dRt (dCB dAbs (dCons (dVar 0) dNil))))
def t_trimmed : DTS := (dSq (dAs (dCB dLen (dCons (dVar 0) dNil)) (dgN 1)) (dSq (dWhile (dAnd (dTest (dOp dGt (dVar 1) (dC (.int 0)))) (dTest (dOp dEq (dOp dIdx (dVar 0) (dOp dSub (dVar 1) (dC (.int 1)))) (dC (.int 0))))) (dAu 1 dSub (dC (.int 1)))) (dRt (dCB dTupOf (dCons (dSl false (dVar 0) dNoP (dPart (dVar 1))) dNil)))))
def t_content : DTS := (dSq (dAs (dC (.int 0)) (dgN 1)) (dSq (dFor (diSeq (dVar 0)) (dgN 2) (dSq (dAs (dCall sp_gcd_of [] dX0 (dCons (dVar 1) (dCons (dVar 2) dNil))) (dgN 1)) (dIfS (dTest (dOp dEq (dVar 1) (dC (.int 1)))) (dRt (dC (.int 1))) dNx))) (dRt (dVar 1))))
def t_primitive : DTS := (dSq (dIfS (dTest (dOp dEq (dCB dLen (dCons (dVar 0) dNil)) (dC (.int 0)))) dNo dNx) (dSq (dAs (dCall sp_content [] dX0 (dCons (dVar 0) dNil)) (dgN 1)) (dSq (dIfS (dTest (dOp dLt (dOp dIdx (dVar 0) (dUn dNeg (dC (.int 1)))) (dC (.int 0)))) (dAs (dUn dNeg (dVar 1)) (dgN 1)) dNx) (dRt (dCB dTupOf (dCons (dLc false (diSeq (dVar 0)) (dgN 2) dYes (dOp dFdiv (dVar 2) (dVar 1)) [2]) dNil))))))
def t_homogeneous : DTS := (dSq (dAs (dVar 1) (dgT [(dgN 2), (dgN 3)])) (dSq (dAs (dC (.int 0)) (dgN 4)) (dSq (dAs (dC (.int 1)) (dgN 5)) (dSq (dFor (diRev (dVar 0)) (dgN 6) (dSq (dAs (dOp (dAdd false) (dOp (dMul false) (dVar 4) (dVar 2)) (dOp (dMul false) (dVar 6) (dVar 5))) (dgN 4)) (dAs (dOp (dMul false) (dVar 5) (dVar 3)) (dgN 5)))) (dRt (dVar 4))))))
def t_sign : DTS := (dSq (dAs (dCall sp_homogeneous [] dX0 (dCons (dVar 0) (dCons (dVar 1) dNil))) (dgN 2)) (dRt (dOp dSubB (dOp dGt (dVar 2) (dC (.int 0))) (dOp dLt (dVar 2) (dC (.int 0))))))
def t_derived : DTS := (dRt (dCall sp_trimmed [] dX0 (dCons (dLc false (diR2 (dCons (dC (.int 1)) (dCons (dCB dLen (dCons (dVar 0) dNil)) dNil))) (dgN 1) dYes (dOp (dMul false) (dOp dIdx (dVar 0) (dVar 1)) (dVar 1)) [1]) dNil)))
def t_remainder : DTS := (dSq (dAs (dCB (dListOf true) (dCons (dVar 0) dNil)) (dgN 2)) (dSq (dAs (dOp dIdx (dVar 1) (dUn dNeg (dC (.int 1)))) (dgN 3)) (dSq (dAs (dCB dAbs (dCons (dVar 3) dNil)) (dgN 4)) (dSq (dWhile (dTest (dOp dGe (dCB dLen (dCons (dVar 2) dNil)) (dCB dLen (dCons (dVar 1) dNil)))) (dSq (dAs (dIf (dTest (dOp dGt (dVar 3) (dC (.int 0)))) (dOp dIdx (dVar 2) (dUn dNeg (dC (.int 1)))) (dUn dNeg (dOp dIdx (dVar 2) (dUn dNeg (dC (.int 1)))))) (dgN 5)) (dSq (dAs (dOp dSub (dCB dLen (dCons (dVar 2) dNil)) (dCB dLen (dCons (dVar 1) dNil))) (dgN 6)) (dSq (dAs (dLc true (diSeq (dVar 2)) (dgN 9) dYes (dOp (dMul false) (dVar 9) (dVar 4)) [9]) (dgN 2)) (dSq (dFor (diR1 (dCons (dCB dLen (dCons (dVar 1) dNil)) dNil)) (dgN 7) (dAs (dOp dSub (dOp dIdx (dVar 2) (dOp (dAdd false) (dVar 6) (dVar 7))) (dOp (dMul false) (dVar 5) (dOp dIdx (dVar 1) (dVar 7)))) (dgSub (dVar 2) (dOp (dAdd false) (dVar 6) (dVar 7))))) (dAs (dCB (dListOf true) (dCons (dCall sp_trimmed [] dX0 (dCons (dVar 2) dNil)) dNil)) (dgN 2))))))) (dSq (dAs (dCall sp_content [] dX0 (dCons (dVar 2) dNil)) (dgN 8)) (dRt (dCB dTupOf (dCons (dLc false (diSeq (dVar 2)) (dgN 9) dYes (dOp dFdiv (dVar 9) (dVar 8)) [9]) dNil))))))))
def t_quotient : DTS := (dSq (dIfS (dTest (dOp dLt (dCB dLen (dCons (dVar 0) dNil)) (dCB dLen (dCons (dVar 1) dNil)))) (dRt (dIf (dTest (dOp dEq (dCB dLen (dCons (dVar 0) dNil)) (dC (.int 0)))) (dTup dNil) (dC .non))) dNx) (dSq (dAs (dCB (dListOf true) (dCons (dVar 0) dNil)) (dgN 2)) (dSq (dAs (dOp (dMul true) (dLst false (dCons (dC (.int 0)) dNil)) (dOp (dAdd false) (dOp dSub (dCB dLen (dCons (dVar 0) dNil)) (dCB dLen (dCons (dVar 1) dNil))) (dC (.int 1)))) (dgN 3)) (dSq (dFor (diR3 (dCons (dOp dSub (dCB dLen (dCons (dVar 0) dNil)) (dCB dLen (dCons (dVar 1) dNil))) (dCons (dUn dNeg (dC (.int 1))) (dCons (dUn dNeg (dC (.int 1))) dNil)))) (dgN 4) (dSq (dAs (dCB dDivmod (dCons (dOp dIdx (dVar 2) (dOp dSub (dOp (dAdd false) (dVar 4) (dCB dLen (dCons (dVar 1) dNil))) (dC (.int 1)))) (dCons (dOp dIdx (dVar 1) (dUn dNeg (dC (.int 1)))) dNil))) (dgT [(dgN 5), (dgN 6)])) (dSq (dIfS (dTest (dOp dNe (dVar 6) (dC (.int 0)))) (dRt (dC .non)) dNx) (dSq (dAs (dVar 5) (dgSub (dVar 3) (dVar 4))) (dIfS (dTest (dOp dNe (dVar 5) (dC (.int 0)))) (dFor (diR1 (dCons (dCB dLen (dCons (dVar 1) dNil)) dNil)) (dgN 7) (dAs (dOp dSub (dOp dIdx (dVar 2) (dOp (dAdd false) (dVar 4) (dVar 7))) (dOp (dMul false) (dVar 5) (dOp dIdx (dVar 1) (dVar 7)))) (dgSub (dVar 2) (dOp (dAdd false) (dVar 4) (dVar 7))))) dNx))))) (dRt (dIf (dNot (dTru (dCB dAny (dCons (dLc false (diSeq (dVar 2)) (dgN 8) dYes (dOp dNe (dVar 8) (dC (.int 0))) [8]) dNil)))) (dCB dTupOf (dCons (dVar 3) dNil)) (dC .non)))))))
def t_common : DTS := (dSq (dIfS (dAnd (dTest (dOp dEq (dCB dLen (dCons (dVar 0) dNil)) (dC (.int 0)))) (dTest (dOp dEq (dCB dLen (dCons (dVar 1) dNil)) (dC (.int 0))))) dNo dNx) (dSq (dWhile (dTest (dOp dGt (dCB dLen (dCons (dVar 1) dNil)) (dC (.int 0)))) (dPar 0 1 (dCons (dVar 1) (dCons (dCall sp_remainder [] dX0 (dCons (dVar 0) (dCons (dVar 1) dNil))) dNil)))) (dRt (dCall sp_primitive [] dX0 (dCons (dVar 0) dNil)))))
def t_free : DTS := (dSq (dAs (dCall sp_primitive [] dX0 (dCons (dVar 0) dNil)) (dgN 1)) (dSq (dAs (dCall sp_common [] dX0 (dCons (dVar 1) (dCons (dCall sp_derived [] dX0 (dCons (dVar 1) dNil)) dNil))) (dgN 2)) (dRt (dCall sp_quotient [] dX0 (dCons (dVar 1) (dCons (dVar 2) dNil))))))
def t_chain_of : DTS := (dSq (dAs (dLst true (dCons (dVar 0) (dCons (dCall sp_derived [] dX0 (dCons (dVar 0) dNil)) dNil))) (dgN 1)) (dSq (dWhile (dTest (dOp dGt (dCB dLen (dCons (dOp dIdx (dVar 1) (dUn dNeg (dC (.int 1)))) dNil)) (dC (.int 0)))) (dEx (dBM "list" dAppend (dVar 1) (dCons (dCB dTupOf (dCons (dLc false (diSeq (dCall sp_remainder [] dX0 (dCons (dOp dIdx (dVar 1) (dUn dNeg (dC (.int 2)))) (dCons (dOp dIdx (dVar 1) (dUn dNeg (dC (.int 1)))) dNil)))) (dgN 2) dYes (dUn dNeg (dVar 2)) [2]) dNil)) dNil)))) (dRt (dSl false (dVar 1) dNoP (dPart (dUn dNeg (dC (.int 1))))))))
def t_changes : DTS := (dSq (dAs (dC (.int 0)) (dgN 1)) (dSq (dAs (dC (.int 0)) (dgN 2)) (dSq (dFor (diSeq (dVar 0)) (dgN 3) (dIfS (dTest (dOp dNe (dVar 3) (dC (.int 0)))) (dSq (dIfS (dTest (dOp dEq (dVar 3) (dUn dNeg (dVar 2)))) (dAu 1 dIAdd (dC (.int 1))) dNx) (dAs (dVar 3) (dgN 2))) dNx)) (dRt (dVar 1)))))
def t_changes_at : DTS := (dRt (dCall sp_changes [] dX0 (dCons (dLc false (diSeq (dVar 0)) (dgN 2) dYes (dCall sp_sign [] dX0 (dCons (dVar 2) (dCons (dVar 1) dNil))) [2]) dNil)))
/-! ### gcd -/
theorem gcd_step (a b : Int) : Int.gcd b (a.fmod b) = Int.gcd a b := by
  refine Nat.dvd_antisymm ?_ ?_
  · have h1 : (Int.gcd b (a.fmod b) : Int) ∣ b := Int.gcd_dvd_left ..
    have h2 : (Int.gcd b (a.fmod b) : Int) ∣ a.fmod b := Int.gcd_dvd_right ..
    have h3 := Int.dvd_add h2 (Int.dvd_trans h1 (Int.dvd_mul_right b (a.fdiv b)))
    rw [Int.fmod_add_mul_fdiv] at h3
    exact Int.dvd_gcd h3 h1
  · have h1 : (Int.gcd a b : Int) ∣ a := Int.gcd_dvd_left ..
    have h2 : (Int.gcd a b : Int) ∣ b := Int.gcd_dvd_right ..
    have e : a.fmod b = a - b * a.fdiv b := by have := Int.fmod_add_mul_fdiv a b; omega
    refine Int.dvd_gcd h2 ?_
    rw [e]
    exact Int.dvd_sub h1 (Int.dvd_trans h2 (Int.dvd_mul_right ..))
theorem fmod_lt {a b : Int} (h : b ≠ 0) : (a.fmod b).natAbs < b.natAbs := by
  have e := Int.fmod_eq_emod (a := a) (b := b)
  have h1 := Int.emod_nonneg a h
  have h2 := Int.emod_lt a h
  rw [e]
  split
  · omega
  · next hn =>
    have h3 : ¬ b ∣ a := fun hd => hn (.inr hd)
    have h4 : a % b ≠ 0 := fun hz => h3 (Int.dvd_of_emod_eq_zero hz)
    have h5 : ¬ 0 ≤ b := fun hz => hn (.inl hz)
    omega
theorem sem_gcd_of (ds : List D) (M : Mu) (Q : DK) (E : DXK) (h : sp_gcd_of ds M Q E) : t_gcd_of (dEnd Q) (dstart 2 ds) M := by
  obtain ⟨a, b, rfl, h⟩ := h
  unfold t_gcd_of
  walk_at "go"
  refine r_while (fun k δ M' => ∃ x y : Int, k = y.natAbs ∧ Int.gcd x y = Int.gcd a b ∧ M' = M ∧ δ = [some (.int x), some (.int y)]) _ ⟨a, b, rfl, rfl, rfl, rfl⟩ ?_
  rintro k δ M' ⟨x, y, rfl, e, rfl, rfl⟩
  walk_at "st"
  refine ⟨fun z => ?_, fun z => ?_⟩
  · have hy : y ≠ 0 := by simpa using z
    walk_at "st"
    refine ⟨hy, ?_⟩
    walk_at "st"
    exact ⟨_, fmod_lt hy, y, x.fmod y, rfl, (gcd_step x y).trans e, by simp⟩
  · have hy : y = 0 := by simpa using z
    subst hy
    walk_at "st"
    rw [Int.gcd_zero_right] at e
    rw [← e] at h
    exact Wq.now h
theorem cutN_le (ns : List Int) : ∀ k, cutN ns k ≤ k
  | 0 => Nat.le_refl _
  | k + 1 => by
    unfold cutN
    split
    · exact Nat.le_succ_of_le (cutN_le ns k)
    · exact Nat.le_refl _
theorem sem_trimmed (ds : List D) (M : Mu) (Q : DK) (E : DXK) (h : sp_trimmed ds M Q E) : t_trimmed (dEnd Q) (dstart 2 ds) M := by
  obtain ⟨x, ns, rfl, hx, hl, h⟩ := h
  unfold t_trimmed
  walk_at "go"
  refine r_lenQ hx ?_
  walk_at "st"
  rw [iD_len]
  refine r_while (fun k δ M' => ∃ j : Nat, j = k ∧ j ≤ ns.length ∧ cutN ns j = cutN ns ns.length ∧ M' = M ∧ δ = [some x, some (.int (j : Int))]) _ ⟨ns.length, rfl, Nat.le_refl _, rfl, rfl, rfl⟩ ?_
  rintro k δ M' ⟨j, rfl, hj, e, rfl, rfl⟩
  have stop : j = cutN ns ns.length → dRt (dCB dTupOf (dCons (dSl false (dVar 0) dNoP (dPart (dVar 1))) dNil)) { nx := fun x M => Wq Q D.non M, rt := Wq Q } [some x, some (.int (j : Int))] M' := fun e => by
    walk_at "st"
    have hs : dSlV false x none (some (j : Int)) M' = fun Q => Q (.lst (iD (trim ns))) M' := by
      have e2 : cutL (iD ns) none (some (j : Int)) = iD (trim ns) := by
        rw [cutL_none_nat, e]
        unfold trim iD
        rw [List.map_take]
      cases x with
      | lst es =>
        cases hx
        funext Q
        show Q _ _ = _
        rw [e2]
      | ref a =>
        have h2 : dlis M' (.ref a) = some (iD ns) := hx
        funext Q
        unfold dSlV
        simp only [h2]
        show Q _ _ = _
        rw [e2]
      | _ => cases hx
    rw [hs]
    walk_at "st"
    exact Wq.now h
  refine r_and ?_
  walk_at "st"
  refine ⟨fun z => ?_, fun z => ⟨fun z => Bool.noConfusion z, fun _ => ?_⟩⟩
  · have hp : 0 < j := by have := of_decide_eq_true z; omega
    obtain ⟨i, rfl⟩ : ∃ i, j = i + 1 := ⟨j - 1, by omega⟩
    have hi : i < ns.length := by omega
    walk_at "st"
    rw [show ((i + 1 : Nat) : Int) - 1 = (i : Int) by omega]
    refine r_idxQ hx (iD_at hi) ?_
    walk_at "st"
    have hc : cutN ns (i + 1) = if ns[i]? = some 0 then cutN ns i else i + 1 := rfl
    rw [List.getElem?_eq_getElem hi] at hc
    refine ⟨fun z => ?_, fun z => ?_⟩
    · have z := of_decide_eq_true z
      rw [z, if_pos rfl] at hc
      walk_at "st"
      refine ⟨i, by omega, i, rfl, by omega, by rw [← hc]; exact e, rfl, ?_⟩
      rw [show ((i + 1 : Nat) : Int) - 1 = (i : Int) by omega]
      rfl
    · have z := of_decide_eq_false z
      rw [if_neg (fun hh => z (Option.some.inj hh))] at hc
      exact stop (by rw [← e, hc])
  · have hp : j = 0 := by have := of_decide_eq_false z; omega
    subst hp
    exact stop (by rw [← e]; rfl)
theorem gcd_one (ns : List Int) : ns.foldl (fun g c => (Int.gcd g c : Int)) 1 = 1 := by
  induction ns with
  | nil => rfl
  | cons c r ih =>
    rw [List.foldl_cons, show ((Int.gcd 1 c : Nat) : Int) = 1 by rw [Int.one_gcd]; rfl]
    exact ih
theorem r_kIits {x : D} {M : Mu} {es : List D} {R : List D → (Mu → Prop) → Mu → Prop} (h : dits M x = some es) (q : ∀ g : Mu → Prop, g M → R es g M) : kI R x M := by
  cases x with
  | tup ds =>
    cases h
    exact q _ trivial
  | src ns =>
    cases h
    exact q _ trivial
  | lst ds => exact r_kIQ h q
  | ref a => exact r_kIQ h q
  | _ => cases h
theorem sem_content (ds : List D) (M : Mu) (Q : DK) (E : DXK) (h : sp_content ds M Q E) : t_content (dEnd Q) (dstart 3 ds) M := by
  obtain ⟨x, ns, rfl, hx, h⟩ := h
  unfold t_content
  walk_at "go"
  refine r_kIits hx fun g hg => ?_
  refine for_inv (fun xs δ M' => ∃ (v : Int) (s2 : Option D) (r : List Int), xs = iD r ∧ r.foldl (fun g c => (Int.gcd g c : Int)) v = gcdL ns ∧ M' = M ∧ δ = [some x, some (.int v), s2]) (fun xs δ M' hh => by obtain ⟨_, _, _, _, _, rfl, _⟩ := hh; exact hg) ?_ ?_ _ _ _ ⟨0, none, ns, rfl, rfl, rfl, rfl⟩
  · rintro y ys δ M' N ⟨v, s2, r, e1, e2, rfl, rfl⟩ hN
    cases r with
    | nil => cases e1
    | cons c r =>
      have e1 : y :: ys = .int c :: iD r := e1
      obtain ⟨rfl, rfl⟩ := List.cons.inj e1
      rw [List.foldl_cons] at e2
      walk_at "st"
      refine ⟨v, c, rfl, ?_⟩
      walk_at "st"
      refine r_if ?_
      walk_at "st"
      refine ⟨fun z => ?_, fun z => ?_⟩
      · have z := of_decide_eq_true z
        rw [z, gcd_one] at e2
        walk_at "st"
        rw [← e2] at h
        exact Wq.now h
      · walk_at "st"
        exact hN _ _ ⟨_, _, r, rfl, e2, rfl, rfl⟩
  · rintro δ M' ⟨v, s2, r, e1, e2, rfl, rfl⟩
    cases r with
    | cons c r => cases e1
    | nil =>
      walk_at "st"
      have e2 : v = gcdL ns := e2
      rw [e2]
      exact Wq.now h
end SU

namespace SU
open PySem PySem.Spec PyProof.Rows L2 TL DL
local macro_rules | `(tactic| walk_at "st1") => `(tactic| first
  | with_reducible refine r_sq ?_ | with_reducible refine r_nx ?_ | with_reducible refine r_rt ?_ | with_reducible refine r_rtN ?_ | with_reducible refine r_ex ?_ | with_reducible refine r_as ?_ | with_reducible refine r_bk ?_ | with_reducible refine r_ct ?_
  | ((with_reducible apply r_var); exact rfl) | with_reducible refine r_c ?_ | with_reducible refine r_op ?_ | with_reducible refine r_un ?_ | with_reducible refine r_neg ?_
  | ((with_reducible refine r_dgN rfl ?_); (try simp only [List.set]))
  | with_reducible refine r_dgSub ?_ | with_reducible refine r_dgT rfl ?_ | with_reducible refine r_dga0 ?_ | with_reducible refine r_dga1 ?_ | with_reducible refine r_auS ?_ | ((with_reducible apply r_au); exact rfl)
  | with_reducible refine r_par ?_ | ((with_reducible refine r_kPar rfl ?_); (try simp only [List.set]))
  | with_reducible refine r_addI ?_ | with_reducible refine r_addS ?_ | with_reducible refine r_addT ?_ | with_reducible refine r_addL ?_ | with_reducible refine r_subI ?_ | with_reducible refine r_mulI ?_ | with_reducible refine r_fdiv ?_ | with_reducible refine r_mod ?_ | with_reducible refine r_pow ?_ | with_reducible refine r_shl ?_
  | with_reducible refine r_eqI ?_ | with_reducible refine r_eqS ?_ | with_reducible refine r_eqB ?_ | with_reducible refine r_neI ?_ | with_reducible refine r_neS ?_ | with_reducible refine r_neB ?_ | with_reducible refine r_ltI ?_ | with_reducible refine r_gtI ?_ | with_reducible refine r_leI ?_ | with_reducible refine r_geI ?_ | with_reducible refine r_isN ?_ | with_reducible refine r_notN ?_ | with_reducible refine r_inS ?_
  | with_reducible refine r_test ?_ | with_reducible refine r_kB ?_ | with_reducible refine r_tru ?_ | with_reducible refine r_kTb ?_ | with_reducible refine r_kTi ?_ | with_reducible refine r_kTn ?_ | with_reducible refine r_kTl ?_ | with_reducible refine r_kTt ?_ | with_reducible refine r_kTs ?_ | with_reducible refine r_not ?_ | with_reducible refine r_notV ?_ | with_reducible refine r_yes ?_
  | with_reducible refine r_nil ?_ | with_reducible refine r_cons ?_ | with_reducible refine r_tup ?_ | with_reducible refine r_lst ?_ | with_reducible refine r_newF ?_ | with_reducible refine r_cb ?_
  | with_reducible refine r_lenS ?_ | with_reducible refine r_lenL ?_ | with_reducible refine r_lenT ?_ | with_reducible refine r_lenSrc ?_ | with_reducible refine r_abs ?_ | with_reducible refine r_min2 ?_ | with_reducible refine r_max2 ?_ | with_reducible refine r_intI ?_ | with_reducible refine r_str ?_ | with_reducible refine r_tupT ?_ | with_reducible refine r_tupL ?_ | with_reducible refine r_divmod ?_
  | with_reducible refine r_sl ?_ | with_reducible refine r_noP ?_ | with_reducible refine r_part ?_ | with_reducible refine r_kP ?_ | with_reducible refine r_slS ?_ | with_reducible refine r_slT ?_ | with_reducible refine r_slL ?_ | with_reducible refine r_slSrc ?_
  | with_reducible refine r_bm ?_ | with_reducible refine r_tyS ?_ | with_reducible refine r_starts ?_ | with_reducible refine r_count ?_ | with_reducible refine r_call ?_ | with_reducible refine r_for ?_ | with_reducible refine r_seq ?_ | with_reducible refine r_kIt ?_ | with_reducible refine r_kIl ?_ | with_reducible refine r_kIs ?_ | with_reducible refine r_kIsrc ?_ | with_reducible refine r_r1 ?_ | with_reducible refine r_r2 ?_ | with_reducible refine r_lc ?_
  | with_reducible refine lit0 ?_ | with_reducible refine lit1 ?_ | with_reducible refine lit2 ?_ | with_reducible refine lit3 ?_ | with_reducible refine lit4 ?_ | with_reducible refine lit5 ?_ | with_reducible refine lit6 ?_ | with_reducible refine lit7 ?_
  | with_reducible refine r_callX ?_ | with_reducible refine r_callE ?_ | with_reducible refine r_try ?_ | with_reducible refine r_isE ?_ | with_reducible refine r_fld ?_ | with_reducible refine r_excK ?_ | with_reducible refine r_raise ?_
  | with_reducible refine r_subB ?_ | with_reducible refine r_r3 ?_ | with_reducible refine r_rev ?_ | with_reducible refine r_kRv ?_
  | fail)
local macro_rules | `(tactic| walk_at "st") => `(tactic| repeat (first | walk_at "st1" | dsimp only))
local macro_rules | `(tactic| walk_at "go") => `(tactic| (simp only [dstart, dEnd, List.map_cons, List.map_nil, List.length_cons, List.length_nil, Nat.reduceAdd, Nat.reduceSub, Nat.zero_add, List.replicate, List.cons_append, List.nil_append]; walk_at "st"))

local macro_rules | `(tactic| walk_at "bt") => `(tactic| first | with_reducible assumption | ((with_reducible apply bt_mul) <;> walk_at "bt") | ((with_reducible apply bt_sub) <;> walk_at "bt") | ((with_reducible apply bt_add) <;> walk_at "bt") | ((with_reducible apply bt_neg) <;> walk_at "bt") | ((with_reducible apply bt_abs) <;> walk_at "bt") | ((with_reducible apply bt_fdiv) <;> walk_at "bt") | exact bt_lit 64 (by decide +kernel))
local macro_rules | `(tactic| walk_at "cm") => `(tactic| ((with_reducible refine And.intro ?_ ?_); (focus ((with_reducible apply cm_ok) <;> first | decide | walk_at "bt"))))
local macro_rules | `(tactic| walk_at "sm") => `(tactic| repeat (first | walk_at "st1" | ((with_reducible apply r_idxT); exact rfl) | ((with_reducible apply r_idxL); exact rfl) | dsimp only | walk_at "cm"))

theorem gcdF_dvd : ∀ (ns : List Int) (v : Int), ns.foldl (fun g c => (Int.gcd g c : Int)) v ∣ v ∧ ∀ c ∈ ns, ns.foldl (fun g c => (Int.gcd g c : Int)) v ∣ c
  | [], v => ⟨Int.dvd_refl _, fun c hc => by cases hc⟩
  | x :: ns, v => by
    obtain ⟨h1, h2⟩ := gcdF_dvd ns (Int.gcd v x : Int)
    rw [List.foldl_cons]
    refine ⟨Int.dvd_trans h1 (Int.gcd_dvd_left ..), fun c hc => ?_⟩
    rcases List.mem_cons.mp hc with rfl | hc
    · exact Int.dvd_trans h1 (Int.gcd_dvd_right ..)
    · exact h2 c hc
theorem gcdF_nn : ∀ (ns : List Int) (v : Int), 0 ≤ v → 0 ≤ ns.foldl (fun g c => (Int.gcd g c : Int)) v
  | [], v, h => h
  | x :: ns, v, h => by
    rw [List.foldl_cons]
    exact gcdF_nn ns _ (by omega)
theorem gcdL_dvd {ns : List Int} {c : Int} (h : c ∈ ns) : gcdL ns ∣ c := (gcdF_dvd ns 0).2 c h
theorem gcdL_nn (ns : List Int) : 0 ≤ gcdL ns := gcdF_nn ns 0 (by decide)
theorem gcdL_one (k : Int) : gcdL [k] = (k.natAbs : Int) := by
  show ((Int.gcd 0 k : Nat) : Int) = _
  rw [Int.gcd_zero_left]
theorem iD_last {ns : List Int} {l : Int} (h : ns.getLast? = some l) : atI (iD ns) (-1) = some (.int l) := atI_last (by unfold iD; rw [List.getLast?_map, h]; rfl)
theorem lc_ints {i : Nat} {te : DTE} {δw : DEnv} {M : Mu} {Q : List D → Mu → Prop} {g : Mu → Prop} (f : Int → Int) (ns : List Int) (hg : g M) (hl : ns.length ≤ 100000) (hs : ∀ c ∈ ns, ∀ R : DK, R (.int (f c)) M → te (δw.set i (some (.int c))) M R) (q : Q (iD (ns.map f)) M) : dLcGo g (dgN i) dYes te δw (iD ns) [] M Q := by
  refine lc_map (fun d => match d with
    | .int c => .int (f c)
    | d => d) hg _ _ (by rw [iD_len, List.length_nil, Nat.zero_add]; exact sz1000 (by omega)) (fun x hx R hR => ?_) ?_
  · obtain ⟨c, hc, rfl⟩ := List.mem_map.mp hx
    exact r_dgN rfl (hs c hc R hR)
  · rw [List.nil_append]
    unfold iD at q ⊢
    rw [List.map_map] at q ⊢
    exact q
theorem sem_primitive (ds : List D) (M : Mu) (Q : DK) (E : DXK) (h : sp_primitive ds M Q E) : t_primitive (dEnd Q) (dstart 3 ds) M := by
  obtain ⟨ns, l, rfl, hB, hl, hl0, h⟩ := h
  have hB1 := hB.1
  have hmem := List.mem_of_getLast? hl
  have hne : ns ≠ [] := fun z => by rw [z] at hl; cases hl
  have hpos : 0 < ns.length := List.length_pos_iff.mpr hne
  unfold t_primitive
  walk_at "go"
  refine r_if ?_
  walk_at "st"
  rw [iD_len]
  refine ⟨fun z => absurd (of_decide_eq_true z) (by omega), fun _ => ?_⟩
  walk_at "st"
  refine ⟨_, ns, rfl, rfl, ?_⟩
  have hg0 : 0 < gcdL ns := by
    have h1 := gcdL_nn ns
    have h2 := gcdL_dvd hmem
    rcases Int.lt_or_eq_of_le h1 with h3 | h3
    · exact h3
    · rw [← h3] at h2
      exact absurd (Int.zero_dvd.mp h2) hl0
  have hgb : Bt 700 (gcdL ns) := by
    have h2 := Int.natAbs_dvd_natAbs.mpr (gcdL_dvd hmem)
    exact Nat.lt_of_le_of_lt (Nat.le_of_dvd (by omega) h2) (hB.2 l hmem)
  have fin : ∀ g : Int, g ≠ 0 → Bt 700 g → (∀ c ∈ ns, g ∣ c) → 0 < g * l → (∀ k, ns = [k] → g = k) → (dRt (dCB dTupOf (dCons (dLc false (diSeq (dVar 0)) (dgN 2) dYes (dOp dFdiv (dVar 2) (dVar 1)) [2]) dNil))) { nx := fun x M => Wq Q D.non M, rt := Wq Q } [some (.tup (iD ns)), some (.int g), none] M := by
    intro g hg hb hd hgl h1
    walk_at "st"
    refine lc_ints (fun c => c.fdiv g) ns trivial (by omega) (fun c hc R hR => ?_) ?_
    · simp only [dwipe, List.set]
      walk_at "st"
      exact ⟨cd_ok hg hb (by decide), hR⟩
    · walk_at "st"
      refine Wq.now (h g _ ?_ hgl ⟨by rw [List.length_map]; exact hB1, ?_⟩ ?_)
      · rw [List.map_map]
        have hh : ∀ L : List Int, (∀ c ∈ L, g ∣ c) → L = L.map ((g * ·) ∘ fun c => c.fdiv g) := by
          intro L hL
          induction L with
          | nil => rfl
          | cons c r ih =>
            rw [List.map_cons, ← ih fun z hz => hL z (List.mem_cons_of_mem _ hz)]
            obtain ⟨k, rfl⟩ := hL c (List.mem_cons_self ..)
            show _ = g * (g * k).fdiv g :: r
            rw [Int.mul_fdiv_cancel_left _ hg]
        exact hh ns hd
      · intro c hc
        obtain ⟨x, hx, rfl⟩ := List.mem_map.mp hc
        exact bt_fdiv (hB.2 x hx)
      · intro k hk
        have := h1 k hk
        subst hk
        subst this
        show [g.fdiv g] = [1]
        rw [Int.fdiv_self hg]
  walk_at "st"
  refine r_if ?_
  walk_at "st"
  refine r_idxT (iD_last hl) ?_
  walk_at "st"
  refine ⟨fun z => ?_, fun z => ?_⟩
  · have z := of_decide_eq_true z
    walk_at "st1"
    walk_at "st1"
    walk_at "st1"
    walk_at "st1"
    walk_at "st1"
    refine fin _ (by omega) (bt_neg hgb) (fun c hc => Int.neg_dvd.mpr (gcdL_dvd hc)) (Int.mul_pos_of_neg_of_neg (by omega) z) fun k hk => ?_
    subst hk
    have : k = l := Option.some.inj hl
    rw [gcdL_one]
    omega
  · have z := of_decide_eq_false z
    walk_at "st1"
    refine fin _ (by omega) hgb (fun c hc => gcdL_dvd hc) (Int.mul_pos hg0 (by omega)) fun k hk => ?_
    subst hk
    have : k = l := Option.some.inj hl
    rw [gcdL_one]
    omega
theorem sem_homogeneous (ds : List D) (M : Mu) (Q : DK) (E : DXK) (h : sp_homogeneous ds M Q E) : t_homogeneous (dEnd Q) (dstart 7 ds) M := by
  obtain ⟨ns, n, m, rfl, hB, hn, hm, h⟩ := h
  unfold t_homogeneous
  walk_at "go"
  have hrev : (iD ns).reverse = iD ns.reverse := by unfold iD; rw [List.map_reverse]
  rw [hrev]
  have hBr : ∀ c ∈ ns.reverse, Bt 2000 c := fun c hc => hB.2 c (List.mem_reverse.mp hc)
  have hlr : ns.reverse.length ≤ 8 := by rw [List.length_reverse]; exact hB.1
  have hgoal : hom ns n m = (ns.reverse.foldl (homS n m) (0, 1)).1 := rfl
  rw [hgoal] at h
  generalize ns.reverse = rs at hBr hlr h ⊢
  refine for_inv (fun xs δ M' => ∃ (t w : Int) (s6 : Option D) (r : List Int), xs = iD r ∧ r.length ≤ 8 ∧ (∀ c ∈ r, Bt 2000 c) ∧ (r.foldl (homS n m) (t, w)) = (rs.foldl (homS n m) (0, 1)) ∧ Bt (100000 * (9 - r.length)) t ∧ Bt (2000 * (9 - r.length)) w ∧ M' = M ∧ δ = [some (.tup (iD ns)), some (.tup [.int n, .int m]), some (.int n), some (.int m), some (.int t), some (.int w), s6]) (fun _ _ _ _ => trivial) ?_ ?_ _ _ _ ⟨0, 1, none, rs, rfl, hlr, hBr, rfl, bt_up (bt_lit 1 (by decide)) (by omega), bt_up (bt_lit 1 (by decide)) (by omega), rfl, rfl⟩
  · rintro x xs δ M' N ⟨t, w, s6, r, e1, hr8, hrB, e2, ht, hw, rfl, rfl⟩ hN
    cases r with
    | nil => cases e1
    | cons c r =>
      have e1 : x :: xs = .int c :: iD r := e1
      obtain ⟨rfl, rfl⟩ := List.cons.inj e1
      rw [List.length_cons] at hr8 ht hw
      have hc := hrB c (List.mem_cons_self ..)
      walk_at "st"
      refine ⟨cm_ok ht hn (by omega), ?_⟩
      walk_at "st"
      refine ⟨cm_ok hc hw (by omega), ?_⟩
      walk_at "st"
      refine ⟨cm_ok hw hm (by omega), ?_⟩
      walk_at "st"
      exact hN _ _ ⟨_, _, _, r, rfl, by omega, fun c hc => hrB c (List.mem_cons_of_mem _ hc), e2, bt_up (bt_add (bt_mul ht hn) (bt_mul hc hw)) (by omega), bt_up (bt_mul hw hm) (by omega), rfl, rfl⟩
  · rintro δ M' ⟨t, w, s6, r, e1, hr8, hrB, e2, ht, hw, rfl, rfl⟩
    cases r with
    | cons c r => cases e1
    | nil =>
      walk_at "st"
      rw [← e2] at h
      exact Wq.now h
theorem sem_sign (ds : List D) (M : Mu) (Q : DK) (E : DXK) (h : sp_sign ds M Q E) : t_sign (dEnd Q) (dstart 3 ds) M := by
  obtain ⟨ns, n, m, rfl, hB, hn, hm, h⟩ := h
  unfold t_sign
  walk_at "go"
  refine ⟨ns, n, m, rfl, hB, hn, hm, ?_⟩
  walk_at "st"
  exact Wq.now h
theorem sem_derived (ds : List D) (M : Mu) (Q : DK) (E : DXK) (h : sp_derived ds M Q E) : t_derived (dEnd Q) (dstart 2 ds) M := by
  obtain ⟨ns, rfl, hS, hB, h⟩ := h
  have b1 : Bt 64 1 := bt_lit 64 (by decide)
  have b2 : Bt 64 2 := bt_lit 64 (by decide)
  have b3 : Bt 64 3 := bt_lit 64 (by decide)
  unfold t_derived
  walk_at "go"
  rw [iD_len]
  have hB1 := hB.1
  refine r_kR2 (by omega) ?_
  have main : ∀ (ms : List Int), (List.range (ns.length - 1)).map (fun k => ns.getD (k + 1) 0 * ((k : Int) + 1)) = ms → trim ms = derP ns → dLcGo (fun _ => True) (dgN 1) dYes (dOp (dMul false) (dOp dIdx (dVar 0) (dVar 1)) (dVar 1)) (dwipe [some (.tup (iD ns)), none] [1]) (rngD 1 ((ns.length : Int) - 1).toNat) [] M fun acc M2 => dNew false acc M2 fun d M1 => dNil [some (.tup (iD ns)), none] M1 fun ds M2 => sp_trimmed (d :: ds) M2 (Wq Q) dX0 := by
    intro ms hms htr
    have hn : ((ns.length : Int) - 1).toNat = ns.length - 1 := by omega
    rw [hn]
    refine lc_map (fun d => match d with
      | .int c => .int (ns.getD c.toNat 0 * c)
      | d => d) trivial _ _ (by rw [rngD_len, List.length_nil, Nat.zero_add]; exact sz1000 (by omega)) (fun x hx R hR => ?_) ?_
    · obtain ⟨j, hj, rfl⟩ := List.mem_map.mp hx
      rw [List.mem_range] at hj
      have hj1 : j + 1 < ns.length := by omega
      simp only [dwipe, List.set]
      walk_at "st"
      rw [show (1 : Int) + (j : Int) = ((j + 1 : Nat) : Int) by omega] at hR ⊢
      refine r_idxT (iD_at hj1) ?_
      walk_at "st"
      have hbj : Bt 64 ((j + 1 : Nat) : Int) := by
        show (j + 1) < 2 ^ 64
        omega
      refine ⟨cm_ok (hB.2 _ (List.getElem_mem hj1)) hbj (by decide), ?_⟩
      simp only [Int.toNat_natCast, List.getD_eq_getElem?_getD, List.getElem?_eq_getElem hj1, Option.getD_some] at hR
      exact hR
    · rw [List.nil_append]
      walk_at "st"
      refine ⟨_, ms, rfl, ?_, ?_, ?_⟩
      · show some _ = some _
        congr 1
        rw [← hms]
        unfold rngD iD
        rw [List.map_map, List.map_map]
        refine List.map_congr_left fun k _ => ?_
        show D.int (ns.getD ((1 : Int) + (k : Int)).toNat 0 * ((1 : Int) + (k : Int))) = D.int (ns.getD (k + 1) 0 * ((k : Int) + 1))
        rw [show ((1 : Int) + (k : Int)).toNat = k + 1 by omega, Int.add_comm 1 (k : Int)]
      · rw [← hms, List.length_map, List.length_range]
        omega
      · rw [htr]
        exact Wq.now h
  cases hS with
  | quad h1 hd =>
    rename_i c0 c1 c2
    refine main [c1, c2 * 2] (by simp [List.range, List.range.loop]) ?_
    have : c2 * 2 ≠ 0 := by omega
    simp [trim, cutN, derP, this]
  | r3 hT hS0 =>
    rename_i S T
    refine main [0, 0, T * 3] (by simp [List.range, List.range.loop]) ?_
    have : T * 3 ≠ 0 := by omega
    simp [trim, cutN, derP, this]
  | r5 hT hS0 =>
    rename_i S T
    refine main [0, 0, 0, 0, T * 5] (by simp [List.range, List.range.loop]) ?_
    have : T * 5 ≠ 0 := by omega
    simp [trim, cutN, derP, this]
  | r7 hT hS0 =>
    rename_i S T
    refine main [0, 0, 0, 0, 0, 0, T * 7] (by simp [List.range, List.range.loop]) ?_
    have : T * 7 ≠ 0 := by omega
    simp [trim, cutN, derP, this]
end SU

namespace SU
open PySem PySem.Spec PyProof.Rows L2 TL DL
local macro_rules | `(tactic| walk_at "st1") => `(tactic| first
  | with_reducible refine r_sq ?_ | with_reducible refine r_nx ?_ | with_reducible refine r_rt ?_ | with_reducible refine r_rtN ?_ | with_reducible refine r_ex ?_ | with_reducible refine r_as ?_ | with_reducible refine r_bk ?_ | with_reducible refine r_ct ?_
  | ((with_reducible apply r_var); exact rfl) | with_reducible refine r_c ?_ | with_reducible refine r_op ?_ | with_reducible refine r_un ?_ | with_reducible refine r_neg ?_
  | ((with_reducible refine r_dgN rfl ?_); (try simp only [List.set]))
  | with_reducible refine r_dgSub ?_ | with_reducible refine r_dgT rfl ?_ | with_reducible refine r_dga0 ?_ | with_reducible refine r_dga1 ?_ | with_reducible refine r_auS ?_ | ((with_reducible apply r_au); exact rfl)
  | with_reducible refine r_par ?_ | ((with_reducible refine r_kPar rfl ?_); (try simp only [List.set]))
  | with_reducible refine r_addI ?_ | with_reducible refine r_addS ?_ | with_reducible refine r_addT ?_ | with_reducible refine r_addL ?_ | with_reducible refine r_subI ?_ | with_reducible refine r_mulI ?_ | with_reducible refine r_fdiv ?_ | with_reducible refine r_mod ?_ | with_reducible refine r_pow ?_ | with_reducible refine r_shl ?_
  | with_reducible refine r_eqI ?_ | with_reducible refine r_eqS ?_ | with_reducible refine r_eqB ?_ | with_reducible refine r_neI ?_ | with_reducible refine r_neS ?_ | with_reducible refine r_neB ?_ | with_reducible refine r_ltI ?_ | with_reducible refine r_gtI ?_ | with_reducible refine r_leI ?_ | with_reducible refine r_geI ?_ | with_reducible refine r_isN ?_ | with_reducible refine r_notN ?_ | with_reducible refine r_inS ?_
  | with_reducible refine r_test ?_ | with_reducible refine r_kB ?_ | with_reducible refine r_tru ?_ | with_reducible refine r_kTb ?_ | with_reducible refine r_kTi ?_ | with_reducible refine r_kTn ?_ | with_reducible refine r_kTl ?_ | with_reducible refine r_kTt ?_ | with_reducible refine r_kTs ?_ | with_reducible refine r_not ?_ | with_reducible refine r_notV ?_ | with_reducible refine r_yes ?_
  | with_reducible refine r_nil ?_ | with_reducible refine r_cons ?_ | with_reducible refine r_tup ?_ | with_reducible refine r_lst ?_ | with_reducible refine r_newF ?_ | with_reducible refine r_cb ?_
  | with_reducible refine r_lenS ?_ | with_reducible refine r_lenL ?_ | with_reducible refine r_lenT ?_ | with_reducible refine r_lenSrc ?_ | with_reducible refine r_abs ?_ | with_reducible refine r_min2 ?_ | with_reducible refine r_max2 ?_ | with_reducible refine r_intI ?_ | with_reducible refine r_str ?_ | with_reducible refine r_tupT ?_ | with_reducible refine r_tupL ?_ | with_reducible refine r_divmod ?_
  | with_reducible refine r_sl ?_ | with_reducible refine r_noP ?_ | with_reducible refine r_part ?_ | with_reducible refine r_kP ?_ | with_reducible refine r_slS ?_ | with_reducible refine r_slT ?_ | with_reducible refine r_slL ?_ | with_reducible refine r_slSrc ?_
  | with_reducible refine r_bm ?_ | with_reducible refine r_tyS ?_ | with_reducible refine r_starts ?_ | with_reducible refine r_count ?_ | with_reducible refine r_call ?_ | with_reducible refine r_for ?_ | with_reducible refine r_seq ?_ | with_reducible refine r_kIt ?_ | with_reducible refine r_kIl ?_ | with_reducible refine r_kIs ?_ | with_reducible refine r_kIsrc ?_ | with_reducible refine r_r1 ?_ | with_reducible refine r_r2 ?_ | with_reducible refine r_lc ?_
  | with_reducible refine lit0 ?_ | with_reducible refine lit1 ?_ | with_reducible refine lit2 ?_ | with_reducible refine lit3 ?_ | with_reducible refine lit4 ?_ | with_reducible refine lit5 ?_ | with_reducible refine lit6 ?_ | with_reducible refine lit7 ?_
  | with_reducible refine r_callX ?_ | with_reducible refine r_callE ?_ | with_reducible refine r_try ?_ | with_reducible refine r_isE ?_ | with_reducible refine r_fld ?_ | with_reducible refine r_excK ?_ | with_reducible refine r_raise ?_
  | with_reducible refine r_subB ?_ | with_reducible refine r_r3 ?_ | with_reducible refine r_rev ?_ | with_reducible refine r_kRv ?_
  | fail)
local macro_rules | `(tactic| walk_at "st") => `(tactic| repeat (first | walk_at "st1" | dsimp only))
local macro_rules | `(tactic| walk_at "go") => `(tactic| (simp only [dstart, dEnd, List.map_cons, List.map_nil, List.length_cons, List.length_nil, Nat.reduceAdd, Nat.reduceSub, Nat.zero_add, List.replicate, List.cons_append, List.nil_append]; walk_at "st"))

local macro_rules | `(tactic| walk_at "bt") => `(tactic| first | with_reducible assumption | ((with_reducible apply bt_mul) <;> walk_at "bt") | ((with_reducible apply bt_sub) <;> walk_at "bt") | ((with_reducible apply bt_add) <;> walk_at "bt") | ((with_reducible apply bt_neg) <;> walk_at "bt") | ((with_reducible apply bt_abs) <;> walk_at "bt") | ((with_reducible apply bt_fdiv) <;> walk_at "bt") | exact bt_lit 64 (by decide +kernel))
local macro_rules | `(tactic| walk_at "cm") => `(tactic| ((with_reducible refine And.intro ?_ ?_); (focus ((with_reducible apply cm_ok) <;> first | decide | walk_at "bt"))))
local macro_rules | `(tactic| walk_at "sm") => `(tactic| repeat (first | walk_at "st1" | ((with_reducible apply r_idxT); exact rfl) | ((with_reducible apply r_idxL); exact rfl) | dsimp only | walk_at "cm"))

/-! ### one round of the remainder -/
def subAt (top : Int) : List Int → Nat → List Int → List Int
  | rest, _, [] => rest
  | rest, s, x :: xs => subAt top (rest.set s (rest.getD s 0 - top * x)) (s + 1) xs
def topV (ns : List Int) (h : Int) : Int := if 0 < h then ns.getLastD 0 else -(ns.getLastD 0)
def stepR (ns es : List Int) : List Int := trim (subAt (topV ns (es.getLastD 0)) (ns.map (· * ((es.getLastD 0).natAbs : Int))) (ns.length - es.length) es)
theorem last_D {ns : List Int} {l : Int} (h : ns.getLast? = some l) : ns.getLastD 0 = l := by
  rw [List.getLastD_eq_getLast?, h]; rfl
theorem trim_mem {ns : List Int} {c : Int} (h : c ∈ trim ns) : c ∈ ns := List.mem_of_mem_take h
theorem trim_len (ns : List Int) : (trim ns).length ≤ ns.length := by
  unfold trim
  rw [List.length_take]
  omega
theorem subAt_len (top : Int) : ∀ (es rest : List Int) (s : Nat), (subAt top rest s es).length = rest.length
  | [], _, _ => rfl
  | x :: xs, rest, s => by
    unfold subAt
    rw [subAt_len top xs, List.length_set]
theorem upd_same {M : Mu} {r : Addr} {o o' : DO} : mset (mset M r o) r o' = mset M r o' := mset_mset
theorem none_sub {M M' : Mu} {q : Addr} (s : DL.Sub M M') (h : M' q = none) : M q = none := by
  cases e : M q with
  | none => rfl
  | some o => rw [s q o e] at h; cases h
theorem sub_upd {M M' : Mu} {q : Addr} {o : DO} (s : DL.Sub M M') (h : M q = none) : DL.Sub M (mset M' q o) := fun b u e => by
  rw [mset_ne (fun z => by rw [z, h] at e; cases e)]
  exact s b u e
def bodyR : DTS := (dSq (dAs (dIf (dTest (dOp dGt (dVar 3) (dC (.int 0)))) (dOp dIdx (dVar 2) (dUn dNeg (dC (.int 1)))) (dUn dNeg (dOp dIdx (dVar 2) (dUn dNeg (dC (.int 1)))))) (dgN 5)) (dSq (dAs (dOp dSub (dCB dLen (dCons (dVar 2) dNil)) (dCB dLen (dCons (dVar 1) dNil))) (dgN 6)) (dSq (dAs (dLc true (diSeq (dVar 2)) (dgN 9) dYes (dOp (dMul false) (dVar 9) (dVar 4)) [9]) (dgN 2)) (dSq (dFor (diR1 (dCons (dCB dLen (dCons (dVar 1) dNil)) dNil)) (dgN 7) (dAs (dOp dSub (dOp dIdx (dVar 2) (dOp (dAdd false) (dVar 6) (dVar 7))) (dOp (dMul false) (dVar 5) (dOp dIdx (dVar 1) (dVar 7)))) (dgSub (dVar 2) (dOp (dAdd false) (dVar 6) (dVar 7))))) (dAs (dCB (dListOf true) (dCons (dCall sp_trimmed [] dX0 (dCons (dVar 2) dNil)) dNil)) (dgN 2))))))
theorem rem_body {ns es : List Int} {M1 : Mu} {r : Addr} {p : D} {s5 s6 s7 s8 s9 : Option D} {D0 : DEnds} {k kb : Nat} {h : Int} (hb0 : kb ≤ 710) (hr : M1 r = some (.lst (iD ns))) (hne : es.getLast? = some h) (hl : es.length ≤ ns.length) (h8 : ns.length ≤ 8) (hk : k ≤ 1000000)
    (hn : ∀ c ∈ ns, Bt k c) (he : ∀ c ∈ es, Bt kb c)
    (hN : ∀ r' M' s5 s6 s7, M' r' = some (.lst (iD (stepR ns es))) → (∀ c ∈ stepR ns es, Bt (2 * (k + kb) + 1) c) → DL.Sub M1 M' → D0.nx [some p, some (.tup (iD es)), some (.ref r'), some (.int h), some (.int (h.natAbs : Int)), s5, s6, s7, s8, s9] M') :
    bodyR D0 [some p, some (.tup (iD es)), some (.ref r), some (.int h), some (.int (h.natAbs : Int)), s5, s6, s7, s8, s9] M1 := by
  have hh := he h (List.mem_of_getLast? hne)
  have hes : 0 < es.length := by
    cases es with
    | nil => cases hne
    | cons _ _ => simp
  obtain ⟨l, hll⟩ : ∃ l, ns.getLast? = some l := by
    cases hz : ns with
    | nil => rw [hz, List.length_nil] at hl; omega
    | cons a b => exact ⟨_, List.getLast?_cons⟩
  have hlb := hn l (List.mem_of_getLast? hll)
  unfold bodyR
  walk_at "st"
  refine via (P := fun d M' => d = .int (topV ns h) ∧ M1 = M') (fun Q' hQ' => ?_) ?_
  · refine r_dif ?_
    walk_at "st"
    refine ⟨fun z => ?_, fun z => ?_⟩
    · walk_at "st"
      refine r_idxR hr (iD_last hll) ?_
      refine hQ' _ _ ⟨?_, rfl⟩
      unfold topV
      rw [if_pos (of_decide_eq_true z), last_D hll]
    · walk_at "st"
      refine r_idxR hr (iD_last hll) ?_
      walk_at "st"
      refine hQ' _ _ ⟨?_, rfl⟩
      unfold topV
      rw [if_neg (of_decide_eq_false z), last_D hll]
  rintro _ _ ⟨rfl, rfl⟩
  have htb : Bt k (topV ns h) := by
    unfold topV
    split
    · rw [last_D hll]; exact hlb
    · rw [last_D hll]; exact bt_neg hlb
  have hstep : stepR ns es = trim (subAt (topV ns h) (ns.map (· * (h.natAbs : Int))) (ns.length - es.length) es) := by
    unfold stepR
    rw [last_D hne]
  rw [hstep] at hN
  generalize topV ns h = top at htb hN ⊢
  walk_at "st"
  refine r_lenR hr ?_
  walk_at "st"
  rw [iD_len, iD_len, show (ns.length : Int) - (es.length : Int) = ((ns.length - es.length : Nat) : Int) by omega]
  obtain ⟨sh, hsh⟩ : ∃ sh, sh = ns.length - es.length := ⟨_, rfl⟩
  rw [← hsh] at hN ⊢
  refine r_kIr hr ?_
  refine lc_ints (fun c => c * (h.natAbs : Int)) ns hr (by omega) (fun c hc R hR => ?_) ?_
  · simp only [dwipe, List.set]
    walk_at "st"
    exact ⟨cm_ok (hn c hc) (bt_abs hh) (by omega), hR⟩
  have hr0 : ∀ c ∈ ns.map (· * (h.natAbs : Int)), Bt (k + kb) c := by
    intro c hc
    obtain ⟨x, hx, rfl⟩ := List.mem_map.mp hc
    exact bt_mul (hn x hx) (bt_abs hh)
  have hl0 : (ns.map (· * (h.natAbs : Int))).length = ns.length := List.length_map ..
  generalize ns.map (· * (h.natAbs : Int)) = rest at hr0 hl0 hN ⊢
  refine r_newT fun r1 hr1 => ?_
  walk_at "st"
  rw [iD_len]
  refine r_kR1 (by omega) (by omega) ?_
  rw [Int.toNat_natCast]
  refine for_inv (fun xs δ M' => ∃ (j : Nat) (cur : List Int) (s7 : Option D), xs = (rngD 0 es.length).drop j ∧ j ≤ es.length ∧ subAt top cur (sh + j) (es.drop j) = subAt top rest sh es ∧ cur.length = ns.length ∧ (∀ i, sh + j ≤ i → Bt (k + kb) (cur.getD i 0)) ∧ (∀ c ∈ cur, Bt (2 * (k + kb) + 1) c) ∧ M' = mset M1 r1 (.lst (iD cur)) ∧ δ = [some p, some (.tup (iD es)), some (.ref r1), some (.int h), some (.int (h.natAbs : Int)), some (.int top), some (.int (sh : Int)), s7, s8, s9]) (fun _ _ _ _ => trivial) ?_ ?_ _ _ _
    ⟨0, rest, s7, rfl, Nat.zero_le _, rfl, hl0, ?_, fun c hc => bt_up (hr0 c hc) (by omega), rfl, rfl⟩
  · rintro x xs δ M' N ⟨j, cur, s7, e1, hj, e2, hcl, hc1, hc2, rfl, rfl⟩ hN'
    have hjl : j < es.length := by
      rcases Nat.lt_or_ge j es.length with h1 | h1
      · exact h1
      · rw [List.drop_of_length_le (by rw [rngD_len]; exact h1)] at e1; cases e1
    rw [List.drop_eq_getElem_cons (by rw [rngD_len]; exact hjl)] at e1
    obtain ⟨e3, e4⟩ := List.cons.inj e1
    have e3 : x = .int (j : Int) := by
      rw [e3]
      have := rngD_at (lo := 0) hjl
      rw [List.getElem?_eq_getElem (by rw [rngD_len]; exact hjl)] at this
      rw [Option.some.inj this, Int.zero_add]
    subst e3
    rw [List.drop_eq_getElem_cons hjl] at e2
    have hi : sh + j < cur.length := by omega
    have hbc := hc1 (sh + j) (Nat.le_refl _)
    have hgd : cur.getD (sh + j) 0 = cur[sh + j] := by rw [List.getD_eq_getElem?_getD, List.getElem?_eq_getElem hi]; rfl
    have hbe := he _ (List.getElem_mem hjl)
    walk_at "st"
    rw [show (sh : Int) + (j : Int) = ((sh + j : Nat) : Int) by omega]
    refine r_idxR mset_same (iD_at hi) ?_
    walk_at "st"
    refine r_idxT (iD_at hjl) ?_
    walk_at "st"
    refine ⟨cm_ok htb hbe (by omega), ?_⟩
    walk_at "st"
    rw [show (sh : Int) + (j : Int) = ((sh + j : Nat) : Int) by omega]
    refine r_setV mset_same (ixN_nat (by rw [iD_len]; exact hi)) ?_
    rw [mset_mset]
    have hset : (iD cur).set (sh + j) (.int (cur[sh + j] - top * es[j])) = iD (cur.set (sh + j) (cur.getD (sh + j) 0 - top * es[j])) := by
      unfold iD
      rw [List.map_set, hgd]
    rw [hset]
    refine hN' _ _ ⟨j + 1, _, _, e4, hjl, e2, by rw [List.length_set]; exact hcl, ?_, ?_, rfl, rfl⟩
    · intro i hi2
      rw [List.getD_eq_getElem?_getD, List.getElem?_set_ne (by omega), ← List.getD_eq_getElem?_getD]
      exact hc1 i (by omega)
    · intro c hc
      rcases List.mem_or_eq_of_mem_set hc with hc | hc
      · exact hc2 c hc
      · rw [hc]
        exact bt_up (bt_sub hbc (bt_mul htb hbe)) (by omega)
  · rintro δ M' ⟨j, cur, s7, e1, hj, e2, hcl, hc1, hc2, rfl, rfl⟩
    have hjl : j = es.length := by
      rcases Nat.lt_or_ge j es.length with h1 | h1
      · rw [List.drop_eq_getElem_cons (by rw [rngD_len]; exact h1)] at e1; cases e1
      · omega
    subst hjl
    rw [List.drop_length] at e2
    have e2 : cur = subAt top rest sh es := e2
    rw [← e2] at hN
    walk_at "st"
    refine ⟨.ref r1, cur, rfl, dseq_ref mset_same, by omega, ?_⟩
    unfold dListOf
    walk_at "st"
    simp only [dits]
    refine r_newT fun r2 hr2 => ?_
    walk_at "st"
    have hr12 : DL.Sub M1 (mset M1 r1 (.lst (iD cur))) := sub_new hr1
    exact hN r2 _ _ _ _ mset_same (fun c hc => hc2 c (trim_mem hc)) (sub_upd hr12 (none_sub hr12 hr2))
  · intro i _
    rw [List.getD_eq_getElem?_getD]
    cases hi : rest[i]? with
    | none => exact bt_up (bt_lit 0 (by decide)) (by omega)
    | some c => exact hr0 c (List.mem_of_getElem? hi)
end SU

namespace SU
open PySem PySem.Spec PyProof.Rows L2 TL DL
local macro_rules | `(tactic| walk_at "st1") => `(tactic| first
  | with_reducible refine r_sq ?_ | with_reducible refine r_nx ?_ | with_reducible refine r_rt ?_ | with_reducible refine r_rtN ?_ | with_reducible refine r_ex ?_ | with_reducible refine r_as ?_ | with_reducible refine r_bk ?_ | with_reducible refine r_ct ?_
  | ((with_reducible apply r_var); exact rfl) | with_reducible refine r_c ?_ | with_reducible refine r_op ?_ | with_reducible refine r_un ?_ | with_reducible refine r_neg ?_
  | ((with_reducible refine r_dgN rfl ?_); (try simp only [List.set]))
  | with_reducible refine r_dgSub ?_ | with_reducible refine r_dgT rfl ?_ | with_reducible refine r_dga0 ?_ | with_reducible refine r_dga1 ?_ | with_reducible refine r_auS ?_ | ((with_reducible apply r_au); exact rfl)
  | with_reducible refine r_par ?_ | ((with_reducible refine r_kPar rfl ?_); (try simp only [List.set]))
  | with_reducible refine r_addI ?_ | with_reducible refine r_addS ?_ | with_reducible refine r_addT ?_ | with_reducible refine r_addL ?_ | with_reducible refine r_subI ?_ | with_reducible refine r_mulI ?_ | with_reducible refine r_fdiv ?_ | with_reducible refine r_mod ?_ | with_reducible refine r_pow ?_ | with_reducible refine r_shl ?_
  | with_reducible refine r_eqI ?_ | with_reducible refine r_eqS ?_ | with_reducible refine r_eqB ?_ | with_reducible refine r_neI ?_ | with_reducible refine r_neS ?_ | with_reducible refine r_neB ?_ | with_reducible refine r_ltI ?_ | with_reducible refine r_gtI ?_ | with_reducible refine r_leI ?_ | with_reducible refine r_geI ?_ | with_reducible refine r_isN ?_ | with_reducible refine r_notN ?_ | with_reducible refine r_inS ?_
  | with_reducible refine r_test ?_ | with_reducible refine r_kB ?_ | with_reducible refine r_tru ?_ | with_reducible refine r_kTb ?_ | with_reducible refine r_kTi ?_ | with_reducible refine r_kTn ?_ | with_reducible refine r_kTl ?_ | with_reducible refine r_kTt ?_ | with_reducible refine r_kTs ?_ | with_reducible refine r_not ?_ | with_reducible refine r_notV ?_ | with_reducible refine r_yes ?_
  | with_reducible refine r_nil ?_ | with_reducible refine r_cons ?_ | with_reducible refine r_tup ?_ | with_reducible refine r_lst ?_ | with_reducible refine r_newF ?_ | with_reducible refine r_cb ?_
  | with_reducible refine r_lenS ?_ | with_reducible refine r_lenL ?_ | with_reducible refine r_lenT ?_ | with_reducible refine r_lenSrc ?_ | with_reducible refine r_abs ?_ | with_reducible refine r_min2 ?_ | with_reducible refine r_max2 ?_ | with_reducible refine r_intI ?_ | with_reducible refine r_str ?_ | with_reducible refine r_tupT ?_ | with_reducible refine r_tupL ?_ | with_reducible refine r_divmod ?_
  | with_reducible refine r_sl ?_ | with_reducible refine r_noP ?_ | with_reducible refine r_part ?_ | with_reducible refine r_kP ?_ | with_reducible refine r_slS ?_ | with_reducible refine r_slT ?_ | with_reducible refine r_slL ?_ | with_reducible refine r_slSrc ?_
  | with_reducible refine r_bm ?_ | with_reducible refine r_tyS ?_ | with_reducible refine r_starts ?_ | with_reducible refine r_count ?_ | with_reducible refine r_call ?_ | with_reducible refine r_for ?_ | with_reducible refine r_seq ?_ | with_reducible refine r_kIt ?_ | with_reducible refine r_kIl ?_ | with_reducible refine r_kIs ?_ | with_reducible refine r_kIsrc ?_ | with_reducible refine r_r1 ?_ | with_reducible refine r_r2 ?_ | with_reducible refine r_lc ?_
  | with_reducible refine lit0 ?_ | with_reducible refine lit1 ?_ | with_reducible refine lit2 ?_ | with_reducible refine lit3 ?_ | with_reducible refine lit4 ?_ | with_reducible refine lit5 ?_ | with_reducible refine lit6 ?_ | with_reducible refine lit7 ?_
  | with_reducible refine r_callX ?_ | with_reducible refine r_callE ?_ | with_reducible refine r_try ?_ | with_reducible refine r_isE ?_ | with_reducible refine r_fld ?_ | with_reducible refine r_excK ?_ | with_reducible refine r_raise ?_
  | with_reducible refine r_subB ?_ | with_reducible refine r_r3 ?_ | with_reducible refine r_rev ?_ | with_reducible refine r_kRv ?_
  | fail)
local macro_rules | `(tactic| walk_at "st") => `(tactic| repeat (first | walk_at "st1" | dsimp only))
local macro_rules | `(tactic| walk_at "go") => `(tactic| (simp only [dstart, dEnd, List.map_cons, List.map_nil, List.length_cons, List.length_nil, Nat.reduceAdd, Nat.reduceSub, Nat.zero_add, List.replicate, List.cons_append, List.nil_append]; walk_at "st"))

local macro_rules | `(tactic| walk_at "bt") => `(tactic| first | with_reducible assumption | ((with_reducible apply bt_mul) <;> walk_at "bt") | ((with_reducible apply bt_sub) <;> walk_at "bt") | ((with_reducible apply bt_add) <;> walk_at "bt") | ((with_reducible apply bt_neg) <;> walk_at "bt") | ((with_reducible apply bt_abs) <;> walk_at "bt") | ((with_reducible apply bt_fdiv) <;> walk_at "bt") | exact bt_lit 64 (by decide +kernel))
local macro_rules | `(tactic| walk_at "cm") => `(tactic| ((with_reducible refine And.intro ?_ ?_); (focus ((with_reducible apply cm_ok) <;> first | decide | walk_at "bt"))))
local macro_rules | `(tactic| walk_at "sm") => `(tactic| repeat (first | walk_at "st1" | ((with_reducible apply r_idxT); exact rfl) | ((with_reducible apply r_idxL); exact rfl) | dsimp only | walk_at "cm"))

theorem trim_zero {ns : List Int} {k : Nat} (hk : ns.length = k + 1) (h : ns[k]? = some 0) : (trim ns).length < ns.length := by
  have e : cutN ns (k + 1) = cutN ns k := if_pos h
  unfold trim
  rw [List.length_take, hk, e]
  have := cutN_le ns k
  omega
theorem abs_of {h : Int} (h0 : 0 < h) : (h.natAbs : Int) = h := by omega
theorem step_one {ns : List Int} {h : Int} (hh : h ≠ 0) (hne : ns ≠ []) : (stepR ns [h]).length < ns.length := by
  obtain ⟨k, hk⟩ : ∃ k, ns.length = k + 1 := ⟨ns.length - 1, by have := List.length_pos_iff.mpr hne; omega⟩
  obtain ⟨l, hl⟩ : ∃ l, ns.getLast? = some l := by
    cases hz : ns with
    | nil => exact absurd hz hne
    | cons a b => exact ⟨_, List.getLast?_cons⟩
  have hlk : ns[k]? = some l := by
    rw [List.getLast?_eq_getElem?, hk] at hl
    exact hl
  have e : stepR ns [h] = trim ((ns.map (· * (h.natAbs : Int))).set k 0) := by
    unfold stepR
    show trim (subAt (topV ns h) (ns.map (· * (h.natAbs : Int))) (ns.length - 1) [h]) = _
    rw [hk]
    show trim ((ns.map (· * (h.natAbs : Int))).set k ((ns.map (· * (h.natAbs : Int))).getD k 0 - topV ns h * h)) = _
    congr 2
    rw [List.getD_eq_getElem?_getD, List.getElem?_map, hlk]
    show l * (h.natAbs : Int) - topV ns h * h = 0
    unfold topV
    rw [last_D hl]
    split
    · rw [abs_of (by assumption)]; omega
    · have : (h.natAbs : Int) = -h := by omega
      rw [this, Int.mul_neg, Int.neg_mul]; omega
  rw [e]
  have hlen : ((ns.map (· * (h.natAbs : Int))).set k 0).length = k + 1 := by rw [List.length_set, List.length_map, hk]
  have := trim_zero hlen (by rw [List.getElem?_set_self (by rw [List.length_map]; omega)])
  rw [hlen] at this
  omega
/-- the quadratic, once -/
theorem step_quad {c0 c1 c2 : Int} (h2 : 0 < c2) : stepR [c0, c1, c2] [c1, c2 * 2] = trim [c0 * (c2 * 2), c1 * (c2 * 2) - c2 * c1, 0] := by
  unfold stepR
  have e1 : ([c1, c2 * 2] : List Int).getLastD 0 = c2 * 2 := rfl
  have e2 : topV [c0, c1, c2] (c2 * 2) = c2 := if_pos (by omega)
  rw [e1, e2, abs_of (by omega)]
  show trim [c0 * (c2 * 2), c1 * (c2 * 2) - c2 * c1, c2 * (c2 * 2) - c2 * (c2 * 2)] = _
  rw [Int.sub_self]
theorem step_quad2 {x y c1 c2 : Int} (h2 : 0 < c2) : stepR [x, y] [c1, c2 * 2] = trim [x * (c2 * 2) - y * c1, 0] := by
  unfold stepR
  have e1 : ([c1, c2 * 2] : List Int).getLastD 0 = c2 * 2 := rfl
  have e2 : topV [x, y] (c2 * 2) = y := if_pos (by omega)
  rw [e1, e2, abs_of (by omega)]
  show trim [x * (c2 * 2) - y * c1, y * (c2 * 2) - y * (c2 * 2)] = _
  rw [Int.sub_self]
theorem step_r3 {S T : Int} (hT : 0 < T) : stepR [-S, 0, 0, T] [0, 0, T * 3] = trim [-S * (T * 3), 0, 0, 0] := by
  unfold stepR
  have e1 : ([0, 0, T * 3] : List Int).getLastD 0 = T * 3 := rfl
  have e2 : topV [-S, 0, 0, T] (T * 3) = T := if_pos (by omega)
  rw [e1, e2, abs_of (by omega)]
  simp [subAt]
theorem step_r5 {S T : Int} (hT : 0 < T) : stepR [-S, 0, 0, 0, 0, T] [0, 0, 0, 0, T * 5] = trim [-S * (T * 5), 0, 0, 0, 0, 0] := by
  unfold stepR
  have e1 : ([0, 0, 0, 0, T * 5] : List Int).getLastD 0 = T * 5 := rfl
  have e2 : topV [-S, 0, 0, 0, 0, T] (T * 5) = T := if_pos (by omega)
  rw [e1, e2, abs_of (by omega)]
  simp [subAt]
theorem step_r7 {S T : Int} (hT : 0 < T) : stepR [-S, 0, 0, 0, 0, 0, 0, T] [0, 0, 0, 0, 0, 0, T * 7] = trim [-S * (T * 7), 0, 0, 0, 0, 0, 0, 0] := by
  unfold stepR
  have e1 : ([0, 0, 0, 0, 0, 0, T * 7] : List Int).getLastD 0 = T * 7 := rfl
  have e2 : topV [-S, 0, 0, 0, 0, 0, 0, T] (T * 7) = T := if_pos (by omega)
  rw [e1, e2, abs_of (by omega)]
  simp [subAt]
theorem disc_id (c0 c1 c2 : Int) : c0 * (c2 * 2) * (c2 * 2) - (c1 * (c2 * 2) - c2 * c1) * c1 = -(c2 * (c1 * c1 - 4 * (c0 * c2))) := by
  grind
def Ends2 (ns es : List Int) : Prop := (∃ z, z ≠ 0 ∧ sg z = remS ns ∧ stepR ns es = [z]) ∨ (es.length ≤ (stepR ns es).length ∧ (stepR ns es).length ≤ 8 ∧ ∃ z, z ≠ 0 ∧ sg z = remS ns ∧ stepR (stepR ns es) es = [z])
theorem ends_sh {ns : List Int} (h : Sh ns) : Ends2 ns (derP ns) ∧ 2 ≤ (derP ns).length ∧ (derP ns).length ≤ ns.length ∧ ∃ e, (derP ns).getLast? = some e := by
  cases h with
  | quad h2 hd =>
    rename_i c0 c1 c2
    refine ⟨?_, by simp [derP], by simp [derP], ⟨c2 * 2, rfl⟩⟩
    unfold Ends2
    show (∃ z, z ≠ 0 ∧ sg z = -1 ∧ stepR [c0, c1, c2] [c1, c2 * 2] = [z]) ∨ _
    rw [show derP [c0, c1, c2] = [c1, c2 * 2] from rfl, step_quad h2]
    by_cases h1 : c1 = 0
    · left
      subst h1
      have hc : c0 * c2 < 0 := by omega
      have hx : c0 * (c2 * 2) ≠ 0 := by
        have : c0 * (c2 * 2) = 2 * (c0 * c2) := by grind
        omega
      refine ⟨c0 * (c2 * 2), hx, sg_neg ?_, ?_⟩
      · have : c0 * (c2 * 2) = 2 * (c0 * c2) := by grind
        omega
      · simp [trim, cutN, hx]
    · right
      have hy : c1 * (c2 * 2) - c2 * c1 ≠ 0 := by
        have : c1 * (c2 * 2) - c2 * c1 = c1 * c2 := by grind
        rw [this]
        exact Int.mul_ne_zero h1 (by omega)
      have e : trim [c0 * (c2 * 2), c1 * (c2 * 2) - c2 * c1, 0] = [c0 * (c2 * 2), c1 * (c2 * 2) - c2 * c1] := by
        simp [trim, cutN, hy]
      rw [e]
      refine ⟨by simp, by simp, c0 * (c2 * 2) * (c2 * 2) - (c1 * (c2 * 2) - c2 * c1) * c1, ?_, sg_neg ?_, ?_⟩
      · rw [disc_id]
        have := Int.mul_pos h2 hd
        omega
      · rw [disc_id]
        have := Int.mul_pos h2 hd
        omega
      · rw [step_quad2 h2]
        have hz : c0 * (c2 * 2) * (c2 * 2) - (c1 * (c2 * 2) - c2 * c1) * c1 ≠ 0 := by
          rw [disc_id]
          have := Int.mul_pos h2 hd
          omega
        generalize c0 * (c2 * 2) * (c2 * 2) - (c1 * (c2 * 2) - c2 * c1) * c1 = z at hz
        simp [trim, cutN, hz]
  | r3 hT hS =>
    rename_i S T
    have hz : -S * (T * 3) ≠ 0 := Int.mul_ne_zero (by omega) (by omega)
    refine ⟨.inl ⟨-S * (T * 3), hz, ?_, ?_⟩, by simp [derP], by simp [derP], ⟨T * 3, rfl⟩⟩
    · show sg (-S * (T * 3)) = sg (-S)
      rw [sg_mul, sg_pos (show 0 < T * 3 by omega), Int.mul_one]
    show stepR [-S, 0, 0, T] [0, 0, T * 3] = _
    rw [step_r3 hT]
    generalize -S * (T * 3) = z at hz
    simp [trim, cutN, hz]
  | r5 hT hS =>
    rename_i S T
    have hz : -S * (T * 5) ≠ 0 := Int.mul_ne_zero (by omega) (by omega)
    refine ⟨.inl ⟨-S * (T * 5), hz, ?_, ?_⟩, by simp [derP], by simp [derP], ⟨T * 5, rfl⟩⟩
    · show sg (-S * (T * 5)) = sg (-S)
      rw [sg_mul, sg_pos (show 0 < T * 5 by omega), Int.mul_one]
    show stepR [-S, 0, 0, 0, 0, T] [0, 0, 0, 0, T * 5] = _
    rw [step_r5 hT]
    generalize -S * (T * 5) = z at hz
    simp [trim, cutN, hz]
  | r7 hT hS =>
    rename_i S T
    have hz : -S * (T * 7) ≠ 0 := Int.mul_ne_zero (by omega) (by omega)
    refine ⟨.inl ⟨-S * (T * 7), hz, ?_, ?_⟩, by simp [derP], by simp [derP], ⟨T * 7, rfl⟩⟩
    · show sg (-S * (T * 7)) = sg (-S)
      rw [sg_mul, sg_pos (show 0 < T * 7 by omega), Int.mul_one]
    show stepR [-S, 0, 0, 0, 0, 0, 0, T] [0, 0, 0, 0, 0, 0, T * 7] = _
    rw [step_r7 hT]
    generalize -S * (T * 7) = z at hz
    simp [trim, cutN, hz]
def bnd (a : Nat) : Nat := 2 ^ (8 - a) * 800 - 3
theorem bnd_step {a b : Nat} (h : a < b) (hb : b ≤ 8) : 2 * (bnd b + 1) + 1 ≤ bnd a := by
  unfold bnd
  have h1 : 2 ^ (8 - a) = 2 ^ (8 - b) * 2 ^ (b - a) := by rw [← Nat.pow_add]; congr 1; omega
  have h2 : 2 ^ 1 ≤ 2 ^ (b - a) := Nat.pow_le_pow_right (by decide) (by omega)
  have h3 : 0 < 2 ^ (8 - b) := Nat.pow_pos (by decide)
  have h4 := Nat.mul_le_mul_left (2 ^ (8 - b)) h2
  omega
theorem bnd_le (a : Nat) : bnd a ≤ 1000000 := by
  unfold bnd
  have : 2 ^ (8 - a) ≤ 2 ^ 8 := Nat.pow_le_pow_right (by decide) (by omega)
  omega
theorem bnd4 {a : Nat} : 710 ≤ bnd a := by
  unfold bnd
  have : 0 < 2 ^ (8 - a) := Nat.pow_pos (by decide)
  omega
theorem fdiv_abs {z : Int} (hz : z ≠ 0) : z.fdiv (z.natAbs : Int) = sg z := by
  rcases Int.lt_or_gt_of_ne hz with h | h
  · have : (z.natAbs : Int) = -z := by omega
    rw [this, sg_neg h]
    have h2 : z = (-z) * (-1) := by omega
    rw [show z.fdiv (-z) = ((-z) * (-1)).fdiv (-z) by rw [← h2], Int.mul_fdiv_cancel_left _ (by omega)]
  · have : (z.natAbs : Int) = z := by omega
    rw [this, Int.fdiv_self hz, sg_pos h]
theorem sem_remainder (ds : List D) (M : Mu) (Q : DK) (E : DXK) (h : sp_remainder ds M Q E) : t_remainder (dEnd Q) (dstart 10 ds) M := by
  obtain ⟨ns, es, rfl, h4, hn, he, h⟩ := h
  unfold t_remainder
  walk_at "go"
  unfold dListOf
  walk_at "st"
  simp only [dits]
  refine r_newT fun r0 hr0 => ?_
  walk_at "st"
  have hend : ∀ (r : Addr) (M' : Mu) (ms : List Int) (s5 s6 s7 s8 s9 : Option D) (p dd : D) (hv bv : Int), M' r = some (.lst (iD ms)) → DL.Sub M M' → ms.length ≤ 8 → (ms = [] ∧ Q (.tup []) M ∨ ∃ z, z ≠ 0 ∧ Bt 8000 z ∧ ms = [z] ∧ Q (.tup [.int (sg z)]) M) →
      (dSq (dAs (dCall sp_content [] dX0 (dCons (dVar 2) dNil)) (dgN 8)) (dRt (dCB dTupOf (dCons (dLc false (diSeq (dVar 2)) (dgN 9) dYes (dOp dFdiv (dVar 9) (dVar 8)) [9]) dNil)))) { nx := fun x M => Wq Q D.non M, rt := Wq Q } [some p, some dd, some (.ref r), some (.int hv), some (.int bv), s5, s6, s7, s8, s9] M' := by
    intro r M' ms s5 s6 s7 s8 s9 p dd hv bv hr hs hl hq
    walk_at "st"
    refine ⟨_, ms, rfl, dits_ref hr, ?_⟩
    walk_at "st"
    refine r_kIr hr ?_
    rcases hq with ⟨rfl, hq⟩ | ⟨z, hz, hzb, rfl, hq⟩
    · refine lc_ints (fun c => c) [] hr (by simp) (fun c hc => by cases hc) ?_
      walk_at "st"
      exact Wq.drop hs hq
    · rw [gcdL_one]
      refine lc_ints (fun c => c.fdiv (z.natAbs : Int)) [z] hr (by simp) (fun c hc R hR => ?_) ?_
      · simp only [dwipe, List.set]
        walk_at "st"
        exact ⟨cd_ok (by omega) (bt_abs hzb) (by decide), hR⟩
      · walk_at "st"
        have e := fdiv_abs hz
        show Wq Q (.tup [.int (z.fdiv (z.natAbs : Int))]) M'
        rw [e]
        exact Wq.drop hs hq
  rcases h with ⟨h, rfl, hh, hh1, hq⟩ | ⟨hS, h3, rfl, hq⟩
  · -- by a number
    walk_at "st"
    refine r_idxT (iD_last (l := h) rfl) ?_
    walk_at "st"
    refine r_while (fun k δ M' => ∃ (r : Addr) (ms : List Int) (s5 s6 s7 s8 s9 : Option D), k = ms.length ∧ ms.length ≤ 8 ∧ (∀ c ∈ ms, Bt (bnd ms.length) c) ∧ M' r = some (.lst (iD ms)) ∧ DL.Sub M M' ∧ δ = [some (.tup (iD ns)), some (.tup (iD [h])), some (.ref r), some (.int h), some (.int (h.natAbs : Int)), s5, s6, s7, s8, s9]) _ ⟨r0, ns, none, none, none, none, none, rfl, h4, fun c hc => bt_up (hn c hc) bnd4, mset_same, sub_new hr0, rfl⟩ ?_
    rintro k δ M' ⟨r, ms, s5, s6, s7, s8, s9, rfl, hl, hb, hr, hs, rfl⟩
    walk_at "st"
    refine r_lenR hr ?_
    walk_at "st"
    rw [iD_len]
    refine ⟨fun z => ?_, fun z => ?_⟩
    · have z : 1 ≤ ms.length := by have := of_decide_eq_true z; simp [iD] at this; omega
      have hne : ms ≠ [] := fun hz => by rw [hz] at z; simp at z
      have hst := step_one hh hne
      refine rem_body (k := bnd ms.length) (kb := 1) (by decide) hr (h := h) rfl (by simpa using z) (by omega) (bnd_le _) hb (fun c hc => by rw [List.mem_singleton.mp hc]; exact hh1) ?_
      intro r' M2 s5 s6 s7 h1 h2 h3
      exact ⟨(stepR ms [h]).length, hst, r', stepR ms [h], _, _, _, _, _, rfl, by omega, fun c hc => bt_up (h2 c hc) (bnd_step hst hl), h1, DL.Sub.trans hs h3, rfl⟩
    · have z : ms = [] := by
        have := of_decide_eq_false z
        simp [iD] at this
        exact List.length_eq_zero_iff.mp (by omega)
      subst z
      exact hend r M' [] _ _ _ _ _ _ _ _ _ hr hs (by simp) (.inl ⟨rfl, hq⟩)
  · obtain ⟨hE, hd2, hdl, e, hel⟩ := ends_sh hS
    walk_at "st"
    refine r_idxT (iD_last hel) ?_
    walk_at "st"
    refine r_while (fun k δ M' => ∃ (r : Addr) (ms : List Int) (s5 s6 s7 s8 s9 : Option D), ((k = 2 ∧ ms = ns) ∨ (k = 1 ∧ ms = stepR ns (derP ns) ∧ (derP ns).length ≤ ms.length ∧ ms.length ≤ 8 ∧ (∀ c ∈ ms, Bt 2841 c) ∧ ∃ z, z ≠ 0 ∧ sg z = remS ns ∧ stepR ms (derP ns) = [z]) ∨ (k = 0 ∧ ∃ z, z ≠ 0 ∧ sg z = remS ns ∧ Bt 8000 z ∧ ms = [z])) ∧ M' r = some (.lst (iD ms)) ∧ DL.Sub M M' ∧ δ = [some (.tup (iD ns)), some (.tup (iD (derP ns))), some (.ref r), some (.int e), some (.int (e.natAbs : Int)), s5, s6, s7, s8, s9]) _ ⟨r0, ns, none, none, none, none, none, .inl ⟨rfl, rfl⟩, mset_same, sub_new hr0, rfl⟩ ?_
    rintro k δ M' ⟨r, ms, s5, s6, s7, s8, s9, hk, hr, hs, rfl⟩
    walk_at "st"
    refine r_lenR hr ?_
    walk_at "st"
    rw [iD_len, iD_len]
    rcases hk with ⟨rfl, rfl⟩ | ⟨rfl, rfl, hml, hm8, hmb, z, hz, hzs, ez⟩ | ⟨rfl, z, hz, hzs, hzb, rfl⟩
    · refine ⟨fun _ => ?_, fun z => absurd (of_decide_eq_false z) (by simp; omega)⟩
      refine rem_body (k := 710) (kb := 710) (by decide) hr hel hdl (by omega) (by decide) hn he ?_
      intro r' M2 s5 s6 s7 h1 h2 h3
      rcases hE with ⟨z, hz, hzs, ez⟩ | ⟨hl1, hl8, z, hz, hzs, ez⟩
      · exact ⟨0, by decide, r', _, _, _, _, _, _, .inr (.inr ⟨rfl, z, hz, hzs, bt_up (h2 z (by rw [ez]; simp)) (by decide), ez⟩), h1, DL.Sub.trans hs h3, rfl⟩
      · exact ⟨1, by decide, r', _, _, _, _, _, _, .inr (.inl ⟨rfl, rfl, hl1, hl8, h2, z, hz, hzs, ez⟩), h1, DL.Sub.trans hs h3, rfl⟩
    · refine ⟨fun _ => ?_, fun z => absurd (of_decide_eq_false z) (by simp; omega)⟩
      refine rem_body (k := 2841) (kb := 710) (by decide) hr hel hml hm8 (by decide) hmb he ?_
      intro r' M2 s5 s6 s7 h1 h2 h3
      exact ⟨0, by decide, r', _, _, _, _, _, _, .inr (.inr ⟨rfl, z, hz, hzs, bt_up (h2 z (by rw [ez]; simp)) (by decide), ez⟩), h1, DL.Sub.trans hs h3, rfl⟩
    · refine ⟨fun z => absurd (of_decide_eq_true z) (by simp; omega), fun _ => ?_⟩
      exact hend r M' [z] _ _ _ _ _ _ _ _ _ hr hs (by simp) (.inr ⟨z, hz, hzb, rfl, by rw [hzs]; exact hq⟩)
end SU

namespace SU
open PySem PySem.Spec PyProof.Rows L2 TL DL
local macro_rules | `(tactic| walk_at "st1") => `(tactic| first
  | with_reducible refine r_sq ?_ | with_reducible refine r_nx ?_ | with_reducible refine r_rt ?_ | with_reducible refine r_rtN ?_ | with_reducible refine r_ex ?_ | with_reducible refine r_as ?_ | with_reducible refine r_bk ?_ | with_reducible refine r_ct ?_
  | ((with_reducible apply r_var); exact rfl) | with_reducible refine r_c ?_ | with_reducible refine r_op ?_ | with_reducible refine r_un ?_ | with_reducible refine r_neg ?_
  | ((with_reducible refine r_dgN rfl ?_); (try simp only [List.set]))
  | with_reducible refine r_dgSub ?_ | with_reducible refine r_dgT rfl ?_ | with_reducible refine r_dga0 ?_ | with_reducible refine r_dga1 ?_ | with_reducible refine r_auS ?_ | ((with_reducible apply r_au); exact rfl)
  | with_reducible refine r_par ?_ | ((with_reducible refine r_kPar rfl ?_); (try simp only [List.set]))
  | with_reducible refine r_addI ?_ | with_reducible refine r_addS ?_ | with_reducible refine r_addT ?_ | with_reducible refine r_addL ?_ | with_reducible refine r_subI ?_ | with_reducible refine r_mulI ?_ | with_reducible refine r_fdiv ?_ | with_reducible refine r_mod ?_ | with_reducible refine r_pow ?_ | with_reducible refine r_shl ?_
  | with_reducible refine r_eqI ?_ | with_reducible refine r_eqS ?_ | with_reducible refine r_eqB ?_ | with_reducible refine r_neI ?_ | with_reducible refine r_neS ?_ | with_reducible refine r_neB ?_ | with_reducible refine r_ltI ?_ | with_reducible refine r_gtI ?_ | with_reducible refine r_leI ?_ | with_reducible refine r_geI ?_ | with_reducible refine r_isN ?_ | with_reducible refine r_notN ?_ | with_reducible refine r_inS ?_
  | with_reducible refine r_test ?_ | with_reducible refine r_kB ?_ | with_reducible refine r_tru ?_ | with_reducible refine r_kTb ?_ | with_reducible refine r_kTi ?_ | with_reducible refine r_kTn ?_ | with_reducible refine r_kTl ?_ | with_reducible refine r_kTt ?_ | with_reducible refine r_kTs ?_ | with_reducible refine r_not ?_ | with_reducible refine r_notV ?_ | with_reducible refine r_yes ?_
  | with_reducible refine r_nil ?_ | with_reducible refine r_cons ?_ | with_reducible refine r_tup ?_ | with_reducible refine r_lst ?_ | with_reducible refine r_newF ?_ | with_reducible refine r_cb ?_
  | with_reducible refine r_lenS ?_ | with_reducible refine r_lenL ?_ | with_reducible refine r_lenT ?_ | with_reducible refine r_lenSrc ?_ | with_reducible refine r_abs ?_ | with_reducible refine r_min2 ?_ | with_reducible refine r_max2 ?_ | with_reducible refine r_intI ?_ | with_reducible refine r_str ?_ | with_reducible refine r_tupT ?_ | with_reducible refine r_tupL ?_ | with_reducible refine r_divmod ?_
  | with_reducible refine r_sl ?_ | with_reducible refine r_noP ?_ | with_reducible refine r_part ?_ | with_reducible refine r_kP ?_ | with_reducible refine r_slS ?_ | with_reducible refine r_slT ?_ | with_reducible refine r_slL ?_ | with_reducible refine r_slSrc ?_
  | with_reducible refine r_bm ?_ | with_reducible refine r_tyS ?_ | with_reducible refine r_starts ?_ | with_reducible refine r_count ?_ | with_reducible refine r_call ?_ | with_reducible refine r_for ?_ | with_reducible refine r_seq ?_ | with_reducible refine r_kIt ?_ | with_reducible refine r_kIl ?_ | with_reducible refine r_kIs ?_ | with_reducible refine r_kIsrc ?_ | with_reducible refine r_r1 ?_ | with_reducible refine r_r2 ?_ | with_reducible refine r_lc ?_
  | with_reducible refine lit0 ?_ | with_reducible refine lit1 ?_ | with_reducible refine lit2 ?_ | with_reducible refine lit3 ?_ | with_reducible refine lit4 ?_ | with_reducible refine lit5 ?_ | with_reducible refine lit6 ?_ | with_reducible refine lit7 ?_
  | with_reducible refine r_callX ?_ | with_reducible refine r_callE ?_ | with_reducible refine r_try ?_ | with_reducible refine r_isE ?_ | with_reducible refine r_fld ?_ | with_reducible refine r_excK ?_ | with_reducible refine r_raise ?_
  | with_reducible refine r_subB ?_ | with_reducible refine r_r3 ?_ | with_reducible refine r_rev ?_ | with_reducible refine r_kRv ?_
  | fail)
local macro_rules | `(tactic| walk_at "st") => `(tactic| repeat (first | walk_at "st1" | dsimp only))
local macro_rules | `(tactic| walk_at "go") => `(tactic| (simp only [dstart, dEnd, List.map_cons, List.map_nil, List.length_cons, List.length_nil, Nat.reduceAdd, Nat.reduceSub, Nat.zero_add, List.replicate, List.cons_append, List.nil_append]; walk_at "st"))

local macro_rules | `(tactic| walk_at "bt") => `(tactic| first | with_reducible assumption | ((with_reducible apply bt_mul) <;> walk_at "bt") | ((with_reducible apply bt_sub) <;> walk_at "bt") | ((with_reducible apply bt_add) <;> walk_at "bt") | ((with_reducible apply bt_neg) <;> walk_at "bt") | ((with_reducible apply bt_abs) <;> walk_at "bt") | ((with_reducible apply bt_fdiv) <;> walk_at "bt") | exact bt_lit 64 (by decide +kernel))
local macro_rules | `(tactic| walk_at "cm") => `(tactic| ((with_reducible refine And.intro ?_ ?_); (focus ((with_reducible apply cm_ok) <;> first | decide | walk_at "bt"))))
local macro_rules | `(tactic| walk_at "sm") => `(tactic| repeat (first | walk_at "st1" | ((with_reducible apply r_idxT); exact rfl) | ((with_reducible apply r_idxL); exact rfl) | dsimp only | walk_at "cm"))

def zs (n : Nat) : List Int := List.replicate n 0
theorem sem_quotient (ds : List D) (M : Mu) (Q : DK) (E : DXK) (h : sp_quotient ds M Q E) : t_quotient (dEnd Q) (dstart 9 ds) M := by
  obtain ⟨ns, rfl, h1, hB, h⟩ := h
  have h8 := hB.1
  unfold t_quotient
  walk_at "go"
  refine r_if ?_
  walk_at "st"
  rw [iD_len]
  refine ⟨fun z => absurd (of_decide_eq_true z) (by simp; omega), fun _ => ?_⟩
  walk_at "st"
  unfold dListOf
  walk_at "st"
  simp only [dits]
  refine r_newT fun r hr => ?_
  walk_at "st"
  rw [iD_len]
  have hmul : ∀ (Q' : DK) (M' : Mu) (k : Int), k = ns.length → (∀ f, M' f = none → Q' (.ref f) (mset M' f (.lst (iD (zs ns.length))))) → dMul true (.lst [.int 0]) (.int k) M' Q' := by
    intro Q' M' k hk hq
    subst hk
    show -(2 ^ 63) ≤ (ns.length : Int) ∧ (ns.length : Int) < 2 ^ 63 ∧ ([D.int 0] : List D).length * ((ns.length : Int)).toNat ≤ sizeLine ∧ dNew true (List.replicate ((ns.length : Int)).toNat [D.int 0]).flatten M' Q'
    refine ⟨by omega, by omega, sz1000 (by simp; omega), ?_⟩
    rw [Int.toNat_natCast]
    have e : (List.replicate ns.length [D.int 0]).flatten = iD (zs ns.length) := by
      unfold iD zs
      rw [List.map_replicate]
      generalize ns.length = n
      induction n with
      | zero => rfl
      | succ n ih => rw [List.replicate_succ, List.flatten_cons, ih, List.replicate_succ]; rfl
    rw [e]
    exact r_newT hq
  refine hmul _ _ _ (by simp) fun f hf => ?_
  have hfr : f ≠ r := fun z => by rw [z, mset_same] at hf; cases hf
  walk_at "st"
  rw [iD_len]
  refine r_kR3 (by simp; omega) ?_
  have hn : ((ns.length : Int) - ((1 : Nat) : Int) - (-1)).toNat = ns.length := by omega
  refine for_inv (fun xs δ M' => ∃ (j : Nat) (s4 s5 s6 s7 : Option D), xs = (rngDn ((ns.length : Int) - 1) ns.length).drop (ns.length - j) ∧ j ≤ ns.length ∧ DL.Sub M M' ∧ M' r = some (.lst (iD (ns.take j ++ zs (ns.length - j)))) ∧ M' f = some (.lst (iD (zs j ++ ns.drop j))) ∧ δ = [some (.tup (iD ns)), some (.tup [.int 1]), some (.ref r), some (.ref f), s4, s5, s6, s7, none]) (fun _ _ _ _ => trivial) ?_ ?_ _ _ _
    ⟨ns.length, none, none, none, none, ?_, Nat.le_refl _, ?_, ?_, ?_, rfl⟩
  · rintro x xs δ M' N ⟨j, s4, s5, s6, s7, e1, hj, hs, hr', hf', rfl⟩ hN
    have hj0 : 0 < j := by
      rcases Nat.eq_zero_or_pos j with h0 | h0
      · subst h0
        rw [List.drop_of_length_le (by rw [rngDn_len]; omega)] at e1; cases e1
      · exact h0
    obtain ⟨i, rfl⟩ : ∃ i, j = i + 1 := ⟨j - 1, by omega⟩
    have hlt : ns.length - (i + 1) < ns.length := by omega
    rw [List.drop_eq_getElem_cons (by rw [rngDn_len]; exact hlt)] at e1
    obtain ⟨e3, e4⟩ := List.cons.inj e1
    have e3 : x = .int (i : Int) := by
      rw [e3]
      have := rngDn_at (lo := (ns.length : Int) - 1) hlt
      rw [List.getElem?_eq_getElem (by rw [rngDn_len]; exact hlt)] at this
      rw [Option.some.inj this]
      congr 1
      omega
    subst e3
    have hi : i < ns.length := by omega
    have hA : ns.take (i + 1) = ns.take i ++ [ns[i]] := by rw [List.take_append_getElem hi]
    have hrl : (ns.take (i + 1) ++ zs (ns.length - (i + 1))).length = ns.length := by
      rw [List.length_append, List.length_take]; unfold zs; rw [List.length_replicate]; omega
    have hfl : (zs (i + 1) ++ ns.drop (i + 1)).length = ns.length := by
      rw [List.length_append, List.length_drop]; unfold zs; rw [List.length_replicate]; omega
    have hri : (ns.take (i + 1) ++ zs (ns.length - (i + 1)))[i]? = some ns[i] := by
      rw [hA, List.append_assoc, List.getElem?_append_right (by rw [List.length_take]; omega)]
      have : i - (ns.take i).length = 0 := by rw [List.length_take]; omega
      rw [this]; rfl
    have hat : atI (iD (ns.take (i + 1) ++ zs (ns.length - (i + 1)))) (i : Int) = some (.int ns[i]) := atI_nat (by unfold iD; rw [List.getElem?_map, hri]; rfl)
    have hrset : (ns.take (i + 1) ++ zs (ns.length - (i + 1))).set i 0 = ns.take i ++ zs (ns.length - i) := by
      rw [hA, List.append_assoc, List.set_append_right _ _ (by rw [List.length_take]; omega)]
      have : i - (ns.take i).length = 0 := by rw [List.length_take]; omega
      rw [this]
      congr 1
      show 0 :: zs (ns.length - (i + 1)) = zs (ns.length - i)
      rw [show ns.length - i = (ns.length - (i + 1)) + 1 by omega]
      rfl
    have hfset : (zs (i + 1) ++ ns.drop (i + 1)).set i ns[i] = zs i ++ ns.drop i := by
      have : zs (i + 1) = zs i ++ [0] := by unfold zs; rw [List.replicate_succ']
      rw [this, List.append_assoc, List.set_append_right _ _ (by unfold zs; rw [List.length_replicate]; omega)]
      have : i - (zs i).length = 0 := by unfold zs; rw [List.length_replicate]; omega
      rw [this, List.drop_eq_getElem_cons hi]
      rfl
    walk_at "st"
    rw [show (i : Int) + (([D.int 1] : List D).length : Int) - 1 = (i : Int) by simp]
    refine r_idxR hr' hat ?_
    walk_at "st"
    refine r_idxT (iD_last (ns := [1]) (l := 1) rfl) ?_
    walk_at "st"
    refine ⟨⟨by decide, PyProof.noPylong_small (by decide)⟩, ?_⟩
    walk_at "st"
    rw [Int.ediv_one, Int.emod_one]
    refine r_if ?_
    walk_at "st"
    refine ⟨fun z => by simp at z, fun _ => ?_⟩
    walk_at "st"
    refine r_setV hf' (ixN_nat (by rw [iD_len, hfl]; exact hi)) ?_
    rw [show (iD (zs (i + 1) ++ ns.drop (i + 1))).set i (.int ns[i]) = iD ((zs (i + 1) ++ ns.drop (i + 1)).set i ns[i]) by unfold iD; rw [List.map_set], hfset]
    have hMr : M r = none := hr
    have hMf : M f = none := by rw [mset_ne hfr] at hf; exact hf
    walk_at "st"
    have hrr : ∀ o, mset M' f o r = some (.lst (iD (ns.take (i + 1) ++ zs (ns.length - (i + 1))))) := fun o => by rw [mset_ne (fun z => hfr z.symm)]; exact hr'
    refine r_if ?_
    walk_at "st"
    refine ⟨fun z => ?_, fun z => ?_⟩
    · walk_at "st"
      refine r_kR1 (by simp) (by simp) ?_
      show dForGo _ _ _ _ [.int ((0 : Int) + ((0 : Nat) : Int))] _ _
      refine ⟨trivial, ?_⟩
      walk_at "st"
      rw [show (i : Int) + ((0 : Int) + ((0 : Nat) : Int)) = (i : Int) by omega]
      refine r_idxR (hrr _) hat ?_
      walk_at "st"
      refine r_idxT (d := .int 1) (by rfl) ?_
      walk_at "st"
      refine ⟨cm_ok (hB.2 _ (List.getElem_mem hi)) (bt_lit 1 (by decide)) (by decide), ?_⟩
      walk_at "st"
      rw [show (i : Int) + ((0 : Int) + ((0 : Nat) : Int)) = (i : Int) by omega]
      refine r_setV (hrr _) (ixN_nat (by rw [iD_len, hrl]; exact hi)) ?_
      rw [Int.mul_one, Int.sub_self, show (iD (ns.take (i + 1) ++ zs (ns.length - (i + 1)))).set i (.int 0) = iD ((ns.take (i + 1) ++ zs (ns.length - (i + 1))).set i 0) by unfold iD; rw [List.map_set], hrset]
      refine ⟨trivial, ?_⟩
      refine hN _ _ ⟨i, _, _, _, _, ?_, by omega, sub_upd (sub_upd hs hMf) hMr, mset_same, ?_, rfl⟩
      · rw [e4]; congr 1; omega
      · rw [mset_ne hfr, mset_same]
    · have z : ns[i] = 0 := by simpa using z
      walk_at "st"
      refine hN _ _ ⟨i, _, _, _, _, ?_, by omega, sub_upd hs hMf, ?_, mset_same, rfl⟩
      · rw [e4]; congr 1; omega
      · rw [hrr, ← hrset]
        have hL : (ns.take (i + 1) ++ zs (ns.length - (i + 1))).set i 0 = ns.take (i + 1) ++ zs (ns.length - (i + 1)) := by
          refine List.ext_getElem? fun k => ?_
          by_cases hk : i = k
          · subst hk
            rw [List.getElem?_set_self (by rw [hrl]; exact hi), hri, z]
          · rw [List.getElem?_set_ne hk]
        rw [hL]
  · rintro δ M' ⟨j, s4, s5, s6, s7, e1, hj, hs, hr', hf', rfl⟩
    have hj0 : j = 0 := by
      rcases Nat.eq_zero_or_pos j with h0 | h0
      · exact h0
      · rw [List.drop_eq_getElem_cons (by rw [rngDn_len]; omega)] at e1; cases e1
    subst hj0
    have hf' : M' f = some (.lst (iD ns)) := hf'
    have hr' : M' r = some (.lst (iD (zs ns.length))) := hr'
    walk_at "st"
    refine r_dif ?_
    walk_at "st"
    refine r_kIr hr' ?_
    refine lc_map (fun _ => .bl false) hr' _ _ (by rw [iD_len]; unfold zs; rw [List.length_replicate, List.length_nil]; exact sz1000 (by omega)) (fun x hx R hR => ?_) ?_
    · obtain ⟨c, hc, rfl⟩ := List.mem_map.mp hx
      have : c = 0 := List.eq_of_mem_replicate hc
      subst this
      simp only [dwipe, List.set]
      walk_at "st"
      exact hR
    · walk_at "st"
      refine r_any (bs := List.replicate ns.length false) (es := List.replicate ns.length (.bl false)) ?_ ?_ ?_
      · rw [List.nil_append, List.map_const', iD_len]; unfold zs; rw [List.length_replicate]; rfl
      · rw [← List.map_replicate, blsOf_map]
      · walk_at "st"
        have : (List.replicate ns.length false).any id = false := by
          rw [List.any_eq_false]
          intro b hb
          rw [List.eq_of_mem_replicate hb]
          decide
        rw [this]
        refine ⟨fun _ => ?_, fun z => Bool.noConfusion z⟩
        walk_at "st"
        refine r_tupR hf' ?_
        exact Wq.drop hs h
  · rw [Nat.sub_self, List.drop_zero]
    show rngDn ((ns.length : Int) - ((1 : Nat) : Int)) ((ns.length : Int) - ((1 : Nat) : Int) - (-1)).toNat = _
    rw [hn]
    rfl
  · have hMf : M f = none := by rw [mset_ne hfr] at hf; exact hf
    exact sub_upd (sub_new hr) hMf
  · rw [mset_ne (fun z => hfr z.symm), mset_same, List.take_length, Nat.sub_self]
    unfold zs
    rw [List.replicate_zero, List.append_nil]
  · rw [mset_same, List.drop_length, List.append_nil]
end SU

namespace SU
open PySem PySem.Spec PyProof.Rows L2 TL DL
local macro_rules | `(tactic| walk_at "st1") => `(tactic| first
  | with_reducible refine r_sq ?_ | with_reducible refine r_nx ?_ | with_reducible refine r_rt ?_ | with_reducible refine r_rtN ?_ | with_reducible refine r_ex ?_ | with_reducible refine r_as ?_ | with_reducible refine r_bk ?_ | with_reducible refine r_ct ?_
  | ((with_reducible apply r_var); exact rfl) | with_reducible refine r_c ?_ | with_reducible refine r_op ?_ | with_reducible refine r_un ?_ | with_reducible refine r_neg ?_
  | ((with_reducible refine r_dgN rfl ?_); (try simp only [List.set]))
  | with_reducible refine r_dgSub ?_ | with_reducible refine r_dgT rfl ?_ | with_reducible refine r_dga0 ?_ | with_reducible refine r_dga1 ?_ | with_reducible refine r_auS ?_ | ((with_reducible apply r_au); exact rfl)
  | with_reducible refine r_par ?_ | ((with_reducible refine r_kPar rfl ?_); (try simp only [List.set]))
  | with_reducible refine r_addI ?_ | with_reducible refine r_addS ?_ | with_reducible refine r_addT ?_ | with_reducible refine r_addL ?_ | with_reducible refine r_subI ?_ | with_reducible refine r_mulI ?_ | with_reducible refine r_fdiv ?_ | with_reducible refine r_mod ?_ | with_reducible refine r_pow ?_ | with_reducible refine r_shl ?_
  | with_reducible refine r_eqI ?_ | with_reducible refine r_eqS ?_ | with_reducible refine r_eqB ?_ | with_reducible refine r_neI ?_ | with_reducible refine r_neS ?_ | with_reducible refine r_neB ?_ | with_reducible refine r_ltI ?_ | with_reducible refine r_gtI ?_ | with_reducible refine r_leI ?_ | with_reducible refine r_geI ?_ | with_reducible refine r_isN ?_ | with_reducible refine r_notN ?_ | with_reducible refine r_inS ?_
  | with_reducible refine r_test ?_ | with_reducible refine r_kB ?_ | with_reducible refine r_tru ?_ | with_reducible refine r_kTb ?_ | with_reducible refine r_kTi ?_ | with_reducible refine r_kTn ?_ | with_reducible refine r_kTl ?_ | with_reducible refine r_kTt ?_ | with_reducible refine r_kTs ?_ | with_reducible refine r_not ?_ | with_reducible refine r_notV ?_ | with_reducible refine r_yes ?_
  | with_reducible refine r_nil ?_ | with_reducible refine r_cons ?_ | with_reducible refine r_tup ?_ | with_reducible refine r_lst ?_ | with_reducible refine r_newF ?_ | with_reducible refine r_cb ?_
  | with_reducible refine r_lenS ?_ | with_reducible refine r_lenL ?_ | with_reducible refine r_lenT ?_ | with_reducible refine r_lenSrc ?_ | with_reducible refine r_abs ?_ | with_reducible refine r_min2 ?_ | with_reducible refine r_max2 ?_ | with_reducible refine r_intI ?_ | with_reducible refine r_str ?_ | with_reducible refine r_tupT ?_ | with_reducible refine r_tupL ?_ | with_reducible refine r_divmod ?_
  | with_reducible refine r_sl ?_ | with_reducible refine r_noP ?_ | with_reducible refine r_part ?_ | with_reducible refine r_kP ?_ | with_reducible refine r_slS ?_ | with_reducible refine r_slT ?_ | with_reducible refine r_slL ?_ | with_reducible refine r_slSrc ?_
  | with_reducible refine r_bm ?_ | with_reducible refine r_tyS ?_ | with_reducible refine r_starts ?_ | with_reducible refine r_count ?_ | with_reducible refine r_call ?_ | with_reducible refine r_for ?_ | with_reducible refine r_seq ?_ | with_reducible refine r_kIt ?_ | with_reducible refine r_kIl ?_ | with_reducible refine r_kIs ?_ | with_reducible refine r_kIsrc ?_ | with_reducible refine r_r1 ?_ | with_reducible refine r_r2 ?_ | with_reducible refine r_lc ?_
  | with_reducible refine lit0 ?_ | with_reducible refine lit1 ?_ | with_reducible refine lit2 ?_ | with_reducible refine lit3 ?_ | with_reducible refine lit4 ?_ | with_reducible refine lit5 ?_ | with_reducible refine lit6 ?_ | with_reducible refine lit7 ?_
  | with_reducible refine r_callX ?_ | with_reducible refine r_callE ?_ | with_reducible refine r_try ?_ | with_reducible refine r_isE ?_ | with_reducible refine r_fld ?_ | with_reducible refine r_excK ?_ | with_reducible refine r_raise ?_
  | with_reducible refine r_subB ?_ | with_reducible refine r_r3 ?_ | with_reducible refine r_rev ?_ | with_reducible refine r_kRv ?_
  | fail)
local macro_rules | `(tactic| walk_at "st") => `(tactic| repeat (first | walk_at "st1" | dsimp only))
local macro_rules | `(tactic| walk_at "go") => `(tactic| (simp only [dstart, dEnd, List.map_cons, List.map_nil, List.length_cons, List.length_nil, Nat.reduceAdd, Nat.reduceSub, Nat.zero_add, List.replicate, List.cons_append, List.nil_append]; walk_at "st"))

local macro_rules | `(tactic| walk_at "bt") => `(tactic| first | with_reducible assumption | ((with_reducible apply bt_mul) <;> walk_at "bt") | ((with_reducible apply bt_sub) <;> walk_at "bt") | ((with_reducible apply bt_add) <;> walk_at "bt") | ((with_reducible apply bt_neg) <;> walk_at "bt") | ((with_reducible apply bt_abs) <;> walk_at "bt") | ((with_reducible apply bt_fdiv) <;> walk_at "bt") | exact bt_lit 64 (by decide +kernel))
local macro_rules | `(tactic| walk_at "cm") => `(tactic| ((with_reducible refine And.intro ?_ ?_); (focus ((with_reducible apply cm_ok) <;> first | decide | walk_at "bt"))))
local macro_rules | `(tactic| walk_at "sm") => `(tactic| repeat (first | walk_at "st1" | ((with_reducible apply r_idxT); exact rfl) | ((with_reducible apply r_idxL); exact rfl) | dsimp only | walk_at "cm"))

theorem derP_bt {ns : List Int} (h : Sh ns) (hB : B4 ns) : (∀ c ∈ derP ns, Bt 710 c) ∧ (derP ns).length ≤ 8 ∧ derP ns ≠ [] := by
  cases h with
  | quad h2 hd =>
    rename_i c0 c1 c2
    refine ⟨fun c hc => ?_, by simp [derP], by simp [derP]⟩
    simp only [derP, List.mem_cons, List.not_mem_nil, or_false] at hc
    rcases hc with rfl | rfl
    · exact bt_up (hB.2 _ (by simp)) (by decide)
    · exact bt_up (bt_mul (hB.2 c2 (by simp)) (bt_lit 2 (by decide))) (by decide)
  | r3 hT hS =>
    rename_i S T
    refine ⟨fun c hc => ?_, by simp [derP], by simp [derP]⟩
    simp only [derP, List.mem_cons, List.not_mem_nil, or_false] at hc
    have hz : Bt 710 (0 : Int) := bt_up (bt_lit 0 (by decide)) (by decide)
    have ht : Bt 710 (T * 3) := bt_up (bt_mul (hB.2 T (by simp)) (bt_lit 3 (by decide))) (by decide)
    rcases hc with rfl | rfl | rfl <;> assumption
  | r5 hT hS =>
    rename_i S T
    refine ⟨fun c hc => ?_, by simp [derP], by simp [derP]⟩
    simp only [derP, List.mem_cons, List.not_mem_nil, or_false] at hc
    have hz : Bt 710 (0 : Int) := bt_up (bt_lit 0 (by decide)) (by decide)
    have ht : Bt 710 (T * 5) := bt_up (bt_mul (hB.2 T (by simp)) (bt_lit 3 (by decide))) (by decide)
    rcases hc with rfl | rfl | rfl | rfl | rfl <;> assumption
  | r7 hT hS =>
    rename_i S T
    refine ⟨fun c hc => ?_, by simp [derP], by simp [derP]⟩
    simp only [derP, List.mem_cons, List.not_mem_nil, or_false] at hc
    have hz : Bt 710 (0 : Int) := bt_up (bt_lit 0 (by decide)) (by decide)
    have ht : Bt 710 (T * 7) := bt_up (bt_mul (hB.2 T (by simp)) (bt_lit 3 (by decide))) (by decide)
    rcases hc with rfl | rfl | rfl | rfl | rfl | rfl | rfl <;> assumption
theorem Sh.len {ns : List Int} (h : Sh ns) : 3 ≤ ns.length ∧ ns.length ≤ 8 := by
  cases h <;> simp
theorem Sh.last {ns : List Int} (h : Sh ns) : ∃ l, ns.getLast? = some l ∧ 0 < l := by
  cases h with
  | quad h _ => exact ⟨_, rfl, h⟩
  | r3 h _ => exact ⟨_, rfl, h⟩
  | r5 h _ => exact ⟨_, rfl, h⟩
  | r7 h _ => exact ⟨_, rfl, h⟩
theorem sg_one {z : Int} (h : z ≠ 0) : Bt 1 (sg z) ∧ sg z ≠ 0 := by
  rcases Int.lt_or_gt_of_ne h with h | h
  · rw [sg_neg h]; exact ⟨bt_lit 1 (by decide), by decide⟩
  · rw [sg_pos h]; exact ⟨bt_lit 1 (by decide), by decide⟩
theorem Sh.rem {ns : List Int} (h : Sh ns) : Bt 1 (remS ns) ∧ remS ns ≠ 0 := by
  cases h with
  | quad h _ => exact ⟨show Bt 1 (-1) from bt_lit 1 (by decide), by simp [remS]⟩
  | r3 h hS =>
    rename_i S T
    exact sg_one (z := -S) (by omega)
  | r5 h hS =>
    rename_i S T
    exact sg_one (z := -S) (by omega)
  | r7 h hS =>
    rename_i S T
    exact sg_one (z := -S) (by omega)
theorem B4.up {ns : List Int} (h : B4 ns) : ∀ c ∈ ns, Bt 710 c := fun c hc => bt_up (h.2 c hc) (by decide)
theorem sem_common (ds : List D) (M : Mu) (Q : DK) (E : DXK) (h : sp_common ds M Q E) : t_common (dEnd Q) (dstart 2 ds) M := by
  obtain ⟨ns, rfl, hS, hB, h⟩ := h
  obtain ⟨hl2, hl4⟩ := hS.len
  obtain ⟨hd1, hd2, hd3⟩ := derP_bt hS hB
  obtain ⟨hr1, hr2⟩ := hS.rem
  unfold t_common
  walk_at "go"
  refine r_if (r_and ?_)
  walk_at "st"
  rw [iD_len]
  refine ⟨fun z => absurd (of_decide_eq_true z) (by omega), fun _ => ⟨fun z => Bool.noConfusion z, fun _ => ?_⟩⟩
  walk_at "st"
  refine r_while (fun k δ M' => ∃ (ps es : List Int), ((k = 2 ∧ ps = ns ∧ es = derP ns) ∨ (k = 1 ∧ ps = derP ns ∧ es = [remS ns]) ∨ (k = 0 ∧ es = [] ∧ ps = [remS ns])) ∧ M' = M ∧ δ = [some (.tup (iD ps)), some (.tup (iD es))]) 2 ⟨ns, derP ns, .inl ⟨rfl, rfl, rfl⟩, rfl, rfl⟩ ?_
  rintro k δ M' ⟨ps, es, hk, rfl, rfl⟩
  walk_at "st"
  rw [iD_len]
  rcases hk with ⟨rfl, rfl, rfl⟩ | ⟨rfl, rfl, rfl⟩ | ⟨rfl, rfl, rfl⟩
  · have hpos := List.length_pos_iff.mpr hd3
    refine ⟨fun _ => ?_, fun z => absurd (of_decide_eq_false z) (by omega)⟩
    walk_at "st"
    refine ⟨ps, derP ps, rfl, hl4, hB.up, hd1, .inr ⟨hS, by omega, rfl, ?_⟩⟩
    walk_at "st"
    exact ⟨1, by decide, derP ps, [remS ps], .inr (.inl ⟨rfl, rfl, rfl⟩), by simp [iD]⟩
  · refine ⟨fun _ => ?_, fun z => absurd (of_decide_eq_false z) (by simp)⟩
    walk_at "st"
    refine ⟨derP ns, [remS ns], rfl, hd2, hd1, fun z hz => by rw [List.mem_singleton.mp hz]; exact bt_up hr1 (by decide), .inl ⟨remS ns, rfl, hr2, hr1, ?_⟩⟩
    walk_at "st"
    exact ⟨0, by decide, [remS ns], [], .inr (.inr ⟨rfl, rfl, rfl⟩), by simp [iD]⟩
  · refine ⟨fun z => absurd (of_decide_eq_true z) (by simp), fun _ => ?_⟩
    walk_at "st"
    refine ⟨[remS ns], remS ns, rfl, ⟨by simp, fun z hz => by rw [List.mem_singleton.mp hz]; exact bt_up hr1 (by decide)⟩, rfl, hr2, fun g ms e hg hm h1 => ?_⟩
    rw [h1 _ rfl]
    exact Wq.now h
theorem map_one (g : Int) (ms ns : List Int) (h : g = 1) (e : ns = ms.map (g * ·)) : ms = ns := by
  subst h
  rw [e]
  have : (fun x : Int => 1 * x) = id := funext fun x => Int.one_mul x
  rw [this, List.map_id]
theorem sem_free (ds : List D) (M : Mu) (Q : DK) (E : DXK) (h : sp_free ds M Q E) : t_free (dEnd Q) (dstart 3 ds) M := by
  obtain ⟨ns, rfl, hS, hB, hP, h⟩ := h
  obtain ⟨l, hl, hl0⟩ := hS.last
  unfold t_free
  walk_at "go"
  refine ⟨ns, l, rfl, hB, hl, by omega, fun g ms e hgl hBm _ => ?_⟩
  have hg : 0 < g := by
    rcases Int.lt_trichotomy g 0 with hg | hg | hg
    · have := Int.mul_neg_of_neg_of_pos hg hl0
      omega
    · subst hg; simp at hgl
    · exact hg
  have e1 := map_one g ms ns (hP g ms hg e) e
  subst e1
  walk_at "st"
  refine ⟨ms, rfl, hS, hB, ?_⟩
  walk_at "st"
  refine ⟨ms, rfl, hS, hB, ?_⟩
  walk_at "st"
  refine ⟨ms, rfl, by have := hS.len; omega, hB, ?_⟩
  exact Wq.now h
theorem sem_chain_of (ds : List D) (M : Mu) (Q : DK) (E : DXK) (h : sp_chain_of ds M Q E) : t_chain_of (dEnd Q) (dstart 3 ds) M := by
  obtain ⟨ns, rfl, hS, hB, h⟩ := h
  obtain ⟨hl2, hl4⟩ := hS.len
  obtain ⟨hd1, hd2, hd3⟩ := derP_bt hS hB
  obtain ⟨hr1, hr2⟩ := hS.rem
  unfold t_chain_of
  walk_at "go"
  refine ⟨ns, rfl, hS, hB, ?_⟩
  walk_at "st"
  refine r_newT fun p hp => ?_
  walk_at "st"
  refine r_while (fun k δ M' => ∃ (L : List (List Int)) (s2 : Option D), ((k = 2 ∧ L = [ns, derP ns]) ∨ (k = 1 ∧ L = chainP ns) ∨ (k = 0 ∧ L = chainP ns ++ [[]])) ∧ M' = mset M p (.lst (polys L)) ∧ δ = [some (.tup (iD ns)), some (.ref p), s2]) 2 ⟨[ns, derP ns], none, .inl ⟨rfl, rfl⟩, rfl, rfl⟩ ?_
  rintro k δ M' ⟨L, s2, hk, rfl, rfl⟩
  -- one more member
  have more : ∀ (L : List (List Int)) (x y : List Int) (v : List Int) (pre' : List (List Int)), L = pre' ++ [x, y] → pre'.length ≤ 10 → y ≠ [] →
      (∀ Q' : DK, Q' (.tup (iD v)) (mset M p (.lst (polys L))) → sp_remainder [.tup (iD x), .tup (iD y)] (mset M p (.lst (polys L))) Q' dX0) → v.length ≤ 4 →
      ∀ D0 : DEnds, D0.nx [some (.tup (iD ns)), some (.ref p), s2] (mset M p (.lst (polys (L ++ [v.map (fun z => -z)])))) →
        (dEx (dBM "list" dAppend (dVar 1) (dCons (dCB dTupOf (dCons (dLc false (diSeq (dCall sp_remainder [] dX0 (dCons (dOp dIdx (dVar 1) (dUn dNeg (dC (.int 2)))) (dCons (dOp dIdx (dVar 1) (dUn dNeg (dC (.int 1)))) dNil)))) (dgN 2) dYes (dUn dNeg (dVar 2)) [2]) dNil)) dNil))) D0 [some (.tup (iD ns)), some (.ref p), s2] (mset M p (.lst (polys L))) := by
    intro L x y v pre' hL hp10 hy hr hv D0 hN
    have hLl : L.length = pre'.length + 2 := by rw [hL]; simp
    have i1 : atI (polys L) (-1) = some (.tup (iD y)) := atI_last (by rw [hL]; unfold polys; simp)
    have i2 : atI (polys L) (-2) = some (.tup (iD x)) := by
      have e : ixN (polys L).length (-2) = some pre'.length := by
        unfold ixN polys
        rw [List.length_map, hLl, if_neg (by decide), if_pos (by omega)]
        congr 1
        omega
      unfold atI
      rw [e, Option.bind_some, hL]
      unfold polys
      rw [List.getElem?_map, List.getElem?_append_right (by omega), Nat.sub_self]
      rfl
    walk_at "st"
    refine r_tyR mset_same ?_
    walk_at "st"
    refine r_idxR mset_same i2 ?_
    walk_at "st"
    refine r_idxR mset_same i1 ?_
    walk_at "st"
    refine hr _ ?_
    refine r_kIt ?_
    refine lc_ints (fun z => -z) v trivial (by omega) (fun z hz R hR => ?_) ?_
    · simp only [dwipe, List.set]
      walk_at "st"
      exact hR
    · walk_at "st"
      refine r_append mset_same (szlt (by unfold polys; rw [List.length_map]; omega)) ?_
      rw [mset_mset]
      have e : polys L ++ [D.tup (iD (v.map fun z => -z))] = polys (L ++ [v.map fun z => -z]) := by unfold polys; rw [List.map_append]; rfl
      rw [e]
      exact hN
  walk_at "st"
  rcases hk with ⟨rfl, rfl⟩ | ⟨rfl, rfl⟩ | ⟨rfl, rfl⟩
  · refine r_idxR mset_same (d := .tup (iD (derP ns))) (atI_last rfl) ?_
    walk_at "st"
    rw [iD_len]
    have hpos := List.length_pos_iff.mpr hd3
    refine ⟨fun _ => ?_, fun z => absurd (of_decide_eq_false z) (by omega)⟩
    refine more [ns, derP ns] ns (derP ns) [remS ns] [] rfl (by simp) hd3 (fun Q' hq => ⟨ns, derP ns, rfl, hl4, hB.up, hd1, .inr ⟨hS, by omega, rfl, hq⟩⟩) (by simp) _ ?_
    exact ⟨1, by decide, _, _, .inr (.inl ⟨rfl, rfl⟩), rfl, rfl⟩
  · have i1 : atI (polys (chainP ns)) (-1) = some (.tup (iD [-(remS ns)])) := atI_last rfl
    refine r_idxR mset_same i1 ?_
    walk_at "st"
    rw [iD_len]
    refine ⟨fun _ => ?_, fun z => absurd (of_decide_eq_false z) (by simp)⟩
    refine more (chainP ns) (derP ns) [-(remS ns)] [] [ns] rfl (by simp) (by simp) (fun Q' hq => ⟨derP ns, [-(remS ns)], rfl, hd2, hd1, fun z hz => by rw [List.mem_singleton.mp hz]; exact bt_up (bt_neg hr1) (by decide), .inl ⟨-(remS ns), rfl, by omega, bt_neg hr1, hq⟩⟩) (by simp) _ ?_
    exact ⟨0, by decide, _, _, .inr (.inr ⟨rfl, rfl⟩), rfl, rfl⟩
  · have i1 : atI (polys (chainP ns ++ [[]])) (-1) = some (.tup (iD [])) := atI_last (by unfold polys; simp)
    refine r_idxR mset_same i1 ?_
    walk_at "st"
    refine ⟨fun z => absurd (of_decide_eq_true z) (by simp [iD]), fun _ => ?_⟩
    walk_at "st"
    refine r_slR mset_same ?_
    rw [cutL_none_neg1]
    have e : (polys (chainP ns ++ [[]])).dropLast = polys (chainP ns) := by unfold polys; rw [List.map_append]; exact List.dropLast_concat
    rw [e]
    walk_at "st"
    exact Wq.drop (sub_new hp) h
theorem sem_changes (ds : List D) (M : Mu) (Q : DK) (E : DXK) (h : sp_changes ds M Q E) : t_changes (dEnd Q) (dstart 4 ds) M := by
  obtain ⟨x, ss, rfl, hx, h⟩ := h
  unfold t_changes
  walk_at "go"
  refine r_kIQ hx fun g hg => ?_
  refine for_inv (fun xs δ M' => ∃ (f l : Int) (s3 : Option D) (r : List Int), xs = iD r ∧ r.foldl chgS (f, l) = ss.foldl chgS (0, 0) ∧ M' = M ∧ δ = [some x, some (.int f), some (.int l), s3]) (fun xs δ M' hh => by obtain ⟨_, _, _, _, _, _, rfl, _⟩ := hh; exact hg) ?_ ?_ _ _ _ ⟨0, 0, none, ss, rfl, rfl, rfl, rfl⟩
  · rintro y ys δ M' N ⟨f, l, s3, r, e1, e2, rfl, rfl⟩ hN
    cases r with
    | nil => cases e1
    | cons c r =>
      have e1 : y :: ys = .int c :: iD r := e1
      obtain ⟨rfl, rfl⟩ := List.cons.inj e1
      rw [List.foldl_cons] at e2
      walk_at "st"
      refine r_if ?_
      walk_at "st"
      refine ⟨fun z => ?_, fun z => ?_⟩
      · have z : c ≠ 0 := by simpa using z
        walk_at "st"
        refine r_if ?_
        walk_at "st"
        refine ⟨fun z2 => ?_, fun z2 => ?_⟩
        · have z2 := of_decide_eq_true z2
          have es : chgS (f, l) c = (f + 1, c) := by unfold chgS; rw [if_neg z, if_pos z2]
          rw [es] at e2
          walk_at "st"
          exact hN _ _ ⟨f + 1, c, _, r, rfl, e2, rfl, rfl⟩
        · have z2 := of_decide_eq_false z2
          have es : chgS (f, l) c = (f, c) := by unfold chgS; rw [if_neg z, if_neg z2]
          rw [es] at e2
          walk_at "st"
          exact hN _ _ ⟨f, c, _, r, rfl, e2, rfl, rfl⟩
      · have z : c = 0 := by simpa using z
        have es : chgS (f, l) c = (f, l) := by unfold chgS; rw [if_pos z]
        rw [es] at e2
        walk_at "st"
        exact hN _ _ ⟨f, l, _, r, rfl, e2, rfl, rfl⟩
  · rintro δ M' ⟨f, l, s3, r, e1, e2, rfl, rfl⟩
    cases r with
    | cons c r => cases e1
    | nil =>
      walk_at "st"
      have : chg ss = f := by unfold chg; rw [← e2]; rfl
      rw [this] at h
      exact Wq.now h
theorem sem_changes_at (ds : List D) (M : Mu) (Q : DK) (E : DXK) (h : sp_changes_at ds M Q E) : t_changes_at (dEnd Q) (dstart 3 ds) M := by
  obtain ⟨ps, n, m, rfl, h8, hB, hn, hm, h⟩ := h
  unfold t_changes_at
  walk_at "go"
  refine lc_inv (fun xs acc M' => ∃ (r l : List (List Int)), ps = l ++ r ∧ xs = polys r ∧ acc = iD (l.map fun p => sg (hom p n m)) ∧ M' = M) (fun _ _ _ _ => trivial) ?_ ?_ _ _ _ ⟨ps, [], rfl, rfl, rfl, rfl⟩
  · rintro x xs acc M' N ⟨r, l, e1, e2, rfl, rfl⟩ hN
    cases r with
    | nil => cases e2
    | cons p r =>
      have e2 : x :: xs = .tup (iD p) :: polys r := e2
      obtain ⟨rfl, rfl⟩ := List.cons.inj e2
      have hp := hB p (by rw [e1]; simp)
      simp only [dwipe, List.set]
      walk_at "st"
      refine ⟨p, n, m, rfl, hp, hn, hm, ?_⟩
      refine ⟨szlt ?_, hN _ _ ⟨r, l ++ [p], by rw [e1]; simp, rfl, ?_, rfl⟩⟩
      · rw [iD_len, List.length_map]
        have := congrArg List.length e1
        rw [List.length_append] at this
        omega
      · unfold iD; rw [List.map_append, List.map_append]; rfl
  · rintro acc M' ⟨r, l, e1, e2, rfl, rfl⟩
    cases r with
    | cons p r => cases e2
    | nil =>
      rw [List.append_nil] at e1
      subst e1
      walk_at "st"
      exact ⟨_, _, rfl, rfl, Wq.now h⟩
end SU

namespace SU
open PySem PySem.Spec PyProof.Rows L2 TL DL
local macro_rules | `(tactic| walk_at "st1") => `(tactic| first
  | with_reducible refine r_sq ?_ | with_reducible refine r_nx ?_ | with_reducible refine r_rt ?_ | with_reducible refine r_rtN ?_ | with_reducible refine r_ex ?_ | with_reducible refine r_as ?_ | with_reducible refine r_bk ?_ | with_reducible refine r_ct ?_
  | ((with_reducible apply r_var); exact rfl) | with_reducible refine r_c ?_ | with_reducible refine r_op ?_ | with_reducible refine r_un ?_ | with_reducible refine r_neg ?_
  | ((with_reducible refine r_dgN rfl ?_); (try simp only [List.set]))
  | with_reducible refine r_dgSub ?_ | with_reducible refine r_dgT rfl ?_ | with_reducible refine r_dga0 ?_ | with_reducible refine r_dga1 ?_ | with_reducible refine r_auS ?_ | ((with_reducible apply r_au); exact rfl)
  | with_reducible refine r_par ?_ | ((with_reducible refine r_kPar rfl ?_); (try simp only [List.set]))
  | with_reducible refine r_addI ?_ | with_reducible refine r_addS ?_ | with_reducible refine r_addT ?_ | with_reducible refine r_addL ?_ | with_reducible refine r_subI ?_ | with_reducible refine r_mulI ?_ | with_reducible refine r_fdiv ?_ | with_reducible refine r_mod ?_ | with_reducible refine r_pow ?_ | with_reducible refine r_shl ?_
  | with_reducible refine r_eqI ?_ | with_reducible refine r_eqS ?_ | with_reducible refine r_eqB ?_ | with_reducible refine r_neI ?_ | with_reducible refine r_neS ?_ | with_reducible refine r_neB ?_ | with_reducible refine r_ltI ?_ | with_reducible refine r_gtI ?_ | with_reducible refine r_leI ?_ | with_reducible refine r_geI ?_ | with_reducible refine r_isN ?_ | with_reducible refine r_notN ?_ | with_reducible refine r_inS ?_
  | with_reducible refine r_test ?_ | with_reducible refine r_kB ?_ | with_reducible refine r_tru ?_ | with_reducible refine r_kTb ?_ | with_reducible refine r_kTi ?_ | with_reducible refine r_kTn ?_ | with_reducible refine r_kTl ?_ | with_reducible refine r_kTt ?_ | with_reducible refine r_kTs ?_ | with_reducible refine r_not ?_ | with_reducible refine r_notV ?_ | with_reducible refine r_yes ?_
  | with_reducible refine r_nil ?_ | with_reducible refine r_cons ?_ | with_reducible refine r_tup ?_ | with_reducible refine r_lst ?_ | with_reducible refine r_newF ?_ | with_reducible refine r_cb ?_
  | with_reducible refine r_lenS ?_ | with_reducible refine r_lenL ?_ | with_reducible refine r_lenT ?_ | with_reducible refine r_lenSrc ?_ | with_reducible refine r_abs ?_ | with_reducible refine r_min2 ?_ | with_reducible refine r_max2 ?_ | with_reducible refine r_intI ?_ | with_reducible refine r_str ?_ | with_reducible refine r_tupT ?_ | with_reducible refine r_tupL ?_ | with_reducible refine r_divmod ?_
  | with_reducible refine r_sl ?_ | with_reducible refine r_noP ?_ | with_reducible refine r_part ?_ | with_reducible refine r_kP ?_ | with_reducible refine r_slS ?_ | with_reducible refine r_slT ?_ | with_reducible refine r_slL ?_ | with_reducible refine r_slSrc ?_
  | with_reducible refine r_bm ?_ | with_reducible refine r_tyS ?_ | with_reducible refine r_starts ?_ | with_reducible refine r_count ?_ | with_reducible refine r_call ?_ | with_reducible refine r_for ?_ | with_reducible refine r_seq ?_ | with_reducible refine r_kIt ?_ | with_reducible refine r_kIl ?_ | with_reducible refine r_kIs ?_ | with_reducible refine r_kIsrc ?_ | with_reducible refine r_r1 ?_ | with_reducible refine r_r2 ?_ | with_reducible refine r_lc ?_
  | with_reducible refine lit0 ?_ | with_reducible refine lit1 ?_ | with_reducible refine lit2 ?_ | with_reducible refine lit3 ?_ | with_reducible refine lit4 ?_ | with_reducible refine lit5 ?_ | with_reducible refine lit6 ?_ | with_reducible refine lit7 ?_
  | with_reducible refine r_callX ?_ | with_reducible refine r_callE ?_ | with_reducible refine r_try ?_ | with_reducible refine r_isE ?_ | with_reducible refine r_fld ?_ | with_reducible refine r_excK ?_ | with_reducible refine r_raise ?_
  | with_reducible refine r_subB ?_ | with_reducible refine r_r3 ?_ | with_reducible refine r_rev ?_ | with_reducible refine r_kRv ?_
  | fail)
local macro_rules | `(tactic| walk_at "st") => `(tactic| repeat (first | walk_at "st1" | dsimp only))
local macro_rules | `(tactic| walk_at "go") => `(tactic| (simp only [dstart, dEnd, List.map_cons, List.map_nil, List.length_cons, List.length_nil, Nat.reduceAdd, Nat.reduceSub, Nat.zero_add, List.replicate, List.cons_append, List.nil_append]; walk_at "st"))

local macro_rules | `(tactic| walk_at "bt") => `(tactic| first | with_reducible assumption | ((with_reducible apply bt_mul) <;> walk_at "bt") | ((with_reducible apply bt_sub) <;> walk_at "bt") | ((with_reducible apply bt_add) <;> walk_at "bt") | ((with_reducible apply bt_neg) <;> walk_at "bt") | ((with_reducible apply bt_abs) <;> walk_at "bt") | ((with_reducible apply bt_fdiv) <;> walk_at "bt") | exact bt_lit 64 (by decide +kernel))
local macro_rules | `(tactic| walk_at "cm") => `(tactic| ((with_reducible refine And.intro ?_ ?_); (focus ((with_reducible apply cm_ok) <;> first | decide | walk_at "bt"))))
local macro_rules | `(tactic| walk_at "sm") => `(tactic| repeat (first | walk_at "st1" | ((with_reducible apply r_idxT); exact rfl) | ((with_reducible apply r_idxL); exact rfl) | dsimp only | walk_at "cm"))

/-! ### polynomials modulo a prime, in plain Lean -/
def redM (ns : List Int) (p : Int) : List Int := trim (ns.map (· % p))
def invM (a p : Int) : Int := (a % p) ^ (p - 2).toNat % p
def subM (part p : Int) : List Int → Nat → List Int → List Int
  | rest, _, [] => rest
  | rest, s, x :: xs => subM part p (rest.set s ((rest.getD s 0 - part * x) % p)) (s + 1) xs
def stepM (y p : Int) (b rest : List Int) (shift : Nat) : List Int :=
  if rest.getD (shift + b.length - 1) 0 * y % p = 0 then rest else subM (rest.getD (shift + b.length - 1) 0 * y % p) p rest shift b
def loopM (y p : Int) (b : List Int) : Nat → List Int → List Int
  | 0, rest => rest
  | k + 1, rest => loopM y p b k (stepM y p b rest k)
def byM (b : List Int) (p : Int) : Int := if b.getLastD 0 = 1 then 1 else invM (b.getLastD 0) p
def restM (a b : List Int) (p : Int) : List Int := redM (loopM (byM b p) p b (a.length - b.length + 1) a) p
def derM (a : List Int) (p : Int) : List Int := redM ((List.range (a.length - 1)).map fun k => a.getD (k + 1) 0 * ((k : Int) + 1)) p
def commonM (p : Int) : Nat → List Int → List Int → Option (List Int)
  | 0, _, _ => none
  | f + 1, a, b => if b = [] then some a else if (restM a b p).length < b.length then commonM p f b (restM a b p) else none
def isP (n : Int) : Nat → Int → Bool
  | 0, _ => true
  | f + 1, at' => if at' * at' ≤ n then (if n % at' = 0 then false else isP n f (at' + 2)) else true
def usableM (ns : List Int) (p : Int) : Option Bool := if ns.getLastD 0 % p = 0 then some false else match commonM p 20 (redM ns p) (derM (redM ns p) p) with
  | some g => some (decide (g.length = 1))
  | none => none
def upM (ns : List Int) : Nat → Int → Option Int
  | 0, _ => none
  | f + 1, x => if isP x 600 3 = true then (match usableM ns x with
    | some true => some x
    | some false => upM ns f (x + 2)
    | none => none) else upM ns f (x + 2)
structure Rg (p : Int) (ns : List Int) : Prop where
  len : ns.length ≤ 8
  rg : ∀ c ∈ ns, 0 ≤ c ∧ c < p
def sp_reduced : DSp := fun ds M Q _ => ∃ (x : D) (ns : List Int) (p : Int), ds = [x, .int p] ∧ dits M x = some (iD ns) ∧ ns.length ≤ 100 ∧ 0 < p ∧ Q (.lst (iD (redM ns p))) M
def sp_inverse : DSp := fun ds M Q _ => ∃ (a p : Int), ds = [.int a, .int p] ∧ 3 ≤ p ∧ p < 1000 ∧ Q (.int (invM a p)) M
def sp_monic_m : DSp := fun ds M Q _ => ∃ (ns : List Int) (p : Int), ds = [.lst (iD ns), .int p] ∧ Rg p ns ∧ 3 ≤ p ∧ p < 1000 ∧ ∀ ms : List Int, ms.length = ns.length → Q (.lst (iD ms)) M
def sp_divided_m : DSp := fun ds M Q _ => ∃ (as bs : List Int) (p : Int), ds = [.lst (iD as), .lst (iD bs), .int p] ∧ Rg p as ∧ Rg p bs ∧ bs ≠ [] ∧ bs.length ≤ as.length ∧ 3 ≤ p ∧ p < 1000 ∧ ∀ q : D, Q (.tup [q, .lst (iD (restM as bs p))]) M
def sp_rest_m : DSp := fun ds M Q _ => ∃ (as bs : List Int) (p : Int), ds = [.lst (iD as), .lst (iD bs), .int p] ∧ Rg p as ∧ Rg p bs ∧ bs ≠ [] ∧ bs.length ≤ as.length ∧ 3 ≤ p ∧ p < 1000 ∧ Q (.lst (iD (restM as bs p))) M
def sp_common_m : DSp := fun ds M Q _ => ∃ (as bs : List Int) (p : Int) (f : Nat) (g : List Int), ds = [.lst (iD as), .lst (iD bs), .int p] ∧ Rg p as ∧ Rg p bs ∧ bs.length ≤ as.length ∧ 3 ≤ p ∧ p < 1000 ∧ commonM p f as bs = some g ∧ ∀ ms : List Int, ms.length = g.length → Q (.lst (iD ms)) M
def sp_derived_m : DSp := fun ds M Q _ => ∃ (ns : List Int) (p : Int), ds = [.lst (iD ns), .int p] ∧ Rg p ns ∧ 3 ≤ p ∧ p < 1000 ∧ Q (.lst (iD (derM ns p))) M
def sp_is_prime : DSp := fun ds M Q _ => ∃ (n : Int), ds = [.int n] ∧ 3 < n ∧ n < 1000 ∧ Q (.bl (isP n 600 3)) M
def sp_usable : DSp := fun ds M Q _ => ∃ (ns : List Int) (p : Int) (b : Bool), ds = [.tup (iD ns), .int p] ∧ ns ≠ [] ∧ ns.length ≤ 8 ∧ 3 ≤ p ∧ p < 1000 ∧ usableM ns p = some b ∧ Q (.bl b) M
def sp_usable_prime : DSp := fun ds M Q _ => ∃ (ns : List Int) (P : Int), ds = [.tup (iD ns), .int 3] ∧ ns ≠ [] ∧ ns.length ≤ 8 ∧ upM ns 200 5 = some P ∧ (5 ≤ P → P < 1000 → Q (.int P) M)
def t_reduced : DTS := (dSq (dAs (dLc true (diSeq (dVar 0)) (dgN 3) dYes (dOp dMod (dCB dInt (dCons (dVar 3) dNil)) (dVar 1)) [3]) (dgN 2)) (dSq (dWhile (dAnd (dTest (dOp dGt (dCB dLen (dCons (dVar 2) dNil)) (dC (.int 0)))) (dTest (dOp dEq (dOp dIdx (dVar 2) (dUn dNeg (dC (.int 1)))) (dC (.int 0))))) (dEx (dBM "list" dPop (dVar 2) dNil))) (dRt (dVar 2))))
def t_inverse : DTS := (dSq (dAs (dC (.int 1)) (dgN 2)) (dSq (dAs (dOp dMod (dCB dInt (dCons (dVar 0) dNil)) (dVar 1)) (dgN 3)) (dSq (dAs (dOp dSub (dVar 1) (dC (.int 2))) (dgN 4)) (dSq (dWhile (dTest (dOp dGt (dVar 4) (dC (.int 0)))) (dSq (dAs (dCB dDivmod (dCons (dVar 4) (dCons (dC (.int 2)) dNil))) (dgT [(dgN 4), (dgN 5)])) (dSq (dIfS (dTest (dOp dEq (dVar 5) (dC (.int 1)))) (dAs (dOp dMod (dOp (dMul false) (dVar 2) (dVar 3)) (dVar 1)) (dgN 2)) dNx) (dAs (dOp dMod (dOp (dMul false) (dVar 3) (dVar 3)) (dVar 1)) (dgN 3))))) (dRt (dVar 2))))))
def t_monic_m : DTS := (dSq (dIfS (dTest (dOp dEq (dCB dLen (dCons (dVar 0) dNil)) (dC (.int 0)))) (dRt (dLst false dNil)) dNx) (dSq (dAs (dCall sp_inverse [] dX0 (dCons (dOp dIdx (dVar 0) (dUn dNeg (dC (.int 1)))) (dCons (dVar 1) dNil))) (dgN 2)) (dRt (dLc false (diSeq (dVar 0)) (dgN 3) dYes (dOp dMod (dOp (dMul false) (dVar 3) (dVar 2)) (dVar 1)) [3]))))
def t_divided_m : DTS := (dSq (dAs (dCB (dListOf true) (dCons (dVar 0) dNil)) (dgN 3)) (dSq (dAs (dIf (dTest (dOp dEq (dOp dIdx (dVar 1) (dUn dNeg (dC (.int 1)))) (dC (.int 1)))) (dC (.int 1)) (dCall sp_inverse [] dX0 (dCons (dOp dIdx (dVar 1) (dUn dNeg (dC (.int 1)))) (dCons (dVar 2) dNil)))) (dgN 4)) (dSq (dAs (dOp (dAdd false) (dOp dSub (dCB dLen (dCons (dVar 0) dNil)) (dCB dLen (dCons (dVar 1) dNil))) (dC (.int 1))) (dgN 5)) (dSq (dAs (dOp (dMul true) (dLst false (dCons (dC (.int 0)) dNil)) (dCB dMax2 (dCons (dC (.int 0)) (dCons (dVar 5) dNil)))) (dgN 6)) (dSq (dFor (diR3 (dCons (dOp dSub (dVar 5) (dC (.int 1))) (dCons (dUn dNeg (dC (.int 1))) (dCons (dUn dNeg (dC (.int 1))) dNil)))) (dgN 7) (dSq (dAs (dOp dMod (dOp (dMul false) (dOp dIdx (dVar 3) (dOp dSub (dOp (dAdd false) (dVar 7) (dCB dLen (dCons (dVar 1) dNil))) (dC (.int 1)))) (dVar 4)) (dVar 2)) (dgN 8)) (dSq (dAs (dVar 8) (dgSub (dVar 6) (dVar 7))) (dIfS (dTest (dOp dNe (dVar 8) (dC (.int 0)))) (dFor (diR1 (dCons (dCB dLen (dCons (dVar 1) dNil)) dNil)) (dgN 9) (dAs (dOp dMod (dOp dSub (dOp dIdx (dVar 3) (dOp (dAdd false) (dVar 7) (dVar 9))) (dOp (dMul false) (dVar 8) (dOp dIdx (dVar 1) (dVar 9)))) (dVar 2)) (dgSub (dVar 3) (dOp (dAdd false) (dVar 7) (dVar 9))))) dNx)))) (dRt (dTup (dCons (dCall sp_reduced [] dX0 (dCons (dVar 6) (dCons (dVar 2) dNil))) (dCons (dCall sp_reduced [] dX0 (dCons (dVar 3) (dCons (dVar 2) dNil))) dNil)))))))))
def t_rest_m : DTS := (dRt (dOp dIdx (dCall sp_divided_m [] dX0 (dCons (dVar 0) (dCons (dVar 1) (dCons (dVar 2) dNil)))) (dC (.int 1))))
def t_common_m : DTS := (dSq (dWhile (dTest (dOp dGt (dCB dLen (dCons (dVar 1) dNil)) (dC (.int 0)))) (dPar 0 1 (dCons (dVar 1) (dCons (dCall sp_rest_m [] dX0 (dCons (dVar 0) (dCons (dVar 1) (dCons (dVar 2) dNil)))) dNil)))) (dRt (dCall sp_monic_m [] dX0 (dCons (dVar 0) (dCons (dVar 2) dNil)))))
def t_derived_m : DTS := (dRt (dCall sp_reduced [] dX0 (dCons (dLc false (diR2 (dCons (dC (.int 1)) (dCons (dCB dLen (dCons (dVar 0) dNil)) dNil))) (dgN 2) dYes (dOp (dMul false) (dOp dIdx (dVar 0) (dVar 2)) (dVar 2)) [2]) (dCons (dVar 1) dNil))))
def t_is_prime : DTS := (dSq (dAs (dC (.int 3)) (dgN 1)) (dSq (dWhile (dTest (dOp dLe (dOp (dMul false) (dVar 1) (dVar 1)) (dVar 0))) (dSq (dIfS (dTest (dOp dEq (dOp dMod (dVar 0) (dVar 1)) (dC (.int 0)))) (dRt (dC (.bl false))) dNx) (dAu 1 dIAdd (dC (.int 2))))) (dRt (dC (.bl true)))))
def t_usable : DTS := (dSq (dIfS (dTest (dOp dEq (dOp dMod (dOp dIdx (dVar 0) (dUn dNeg (dC (.int 1)))) (dVar 1)) (dC (.int 0)))) (dRt (dC (.bl false))) dNx) (dSq (dAs (dCall sp_reduced [] dX0 (dCons (dVar 0) (dCons (dVar 1) dNil))) (dgN 2)) (dRt (dOp dEq (dCB dLen (dCons (dCall sp_common_m [] dX0 (dCons (dVar 2) (dCons (dCall sp_derived_m [] dX0 (dCons (dVar 2) (dCons (dVar 1) dNil))) (dCons (dVar 1) dNil)))) dNil)) (dC (.int 1))))))
def t_usable_prime : DTS := (dSq (dAs (dOp (dAdd false) (dVar 1) (dC (.int 2))) (dgN 2)) (dSq (dWhile (dNot (dAnd (dTru (dCall sp_is_prime [] dX0 (dCons (dVar 2) dNil))) (dTru (dCall sp_usable [] dX0 (dCons (dVar 0) (dCons (dVar 2) dNil)))))) (dAu 2 dIAdd (dC (.int 2)))) (dRt (dVar 2))))
theorem r_popS {M : Mu} {a : Addr} {es : List D} {d : D} {Q : DK} (e : M a = some (.lst (es ++ [d]))) (q : Q d (mset M a (.lst es))) : dPop (.ref a) [] M Q := by
  unfold dPop
  simp only [e]
  have h1 : (es ++ [d])[(es ++ [d]).length - 1]? = some d := by simp
  rw [h1]
  have h2 : (es ++ [d]).dropLast = es := List.dropLast_concat
  rw [h2]
  exact q
theorem redM_rg {ns : List Int} {p : Int} (hp : 0 < p) (hl : ns.length ≤ 8) : Rg p (redM ns p) := by
  unfold redM
  refine ⟨Nat.le_trans (trim_len _) (by rw [List.length_map]; exact hl), fun c hc => ?_⟩
  obtain ⟨x, _, rfl⟩ := List.mem_map.mp (trim_mem hc)
  exact ⟨Int.emod_nonneg _ (by omega), Int.emod_lt_of_pos _ hp⟩
theorem Rg.bt {p : Int} {ns : List Int} (h : Rg p ns) (hp : p < 1000) {c : Int} (hc : c ∈ ns) : Bt 10 c := by
  have := h.rg c hc
  unfold Bt
  omega
theorem sem_reduced (ds : List D) (M : Mu) (Q : DK) (E : DXK) (h : sp_reduced ds M Q E) : t_reduced (dEnd Q) (dstart 4 ds) M := by
  obtain ⟨x, ns, p, rfl, hx, hl, hp, h⟩ := h
  unfold t_reduced
  walk_at "go"
  refine r_kIits hx fun g hg => ?_
  refine lc_ints (fun c => c.fmod p) ns hg (by omega) (fun c hc R hR => ?_) ?_
  · simp only [dwipe, List.set]
    walk_at "st"
    exact ⟨by omega, hR⟩
  have e : ns.map (fun c => c.fmod p) = ns.map (· % p) := List.map_congr_left fun c _ => fmod_pos hp
  rw [e]
  obtain ⟨ms, hms⟩ : ∃ ms, ms = ns.map (· % p) := ⟨_, rfl⟩
  have htr : redM ns p = ms.take (cutN ms ms.length) := by unfold redM; rw [← hms]; rfl
  have hml : ms.length ≤ 100 := by rw [hms, List.length_map]; exact hl
  rw [← hms]
  clear hms e
  refine r_newT fun r hr => ?_
  walk_at "st"
  refine r_while (fun k δ M' => ∃ (j : Nat), k = j ∧ j ≤ ms.length ∧ cutN ms j = cutN ms ms.length ∧ M' = mset M r (.lst (iD (ms.take j))) ∧ δ = [some x, some (.int p), some (.ref r), none]) _ ⟨ms.length, rfl, Nat.le_refl _, rfl, by rw [List.take_length], rfl⟩ ?_
  rintro k δ M' ⟨j, rfl, hj, e, rfl, rfl⟩
  have stop : k = cutN ms ms.length → dRt (dVar 2) { nx := fun x M => Wq Q D.non M, rt := Wq Q } [some x, some (.int p), some (.ref r), none] (mset M r (.lst (iD (ms.take k)))) := fun e => by
    walk_at "st"
    rw [e, ← htr]
    exact Wq.frz mset_same (sub_new hr) hr h
  have hlen : (iD (ms.take k)).length = k := by rw [iD_len, List.length_take]; omega
  refine r_and ?_
  walk_at "st"
  refine r_lenR mset_same ?_
  walk_at "st"
  rw [hlen]
  refine ⟨fun z => ?_, fun z => ⟨fun z => Bool.noConfusion z, fun _ => ?_⟩⟩
  · obtain ⟨i, rfl⟩ : ∃ i, k = i + 1 := ⟨k - 1, by have := of_decide_eq_true z; omega⟩
    have hi : i < ms.length := by omega
    have hix : iD (ms.take (i + 1)) = iD (ms.take i) ++ [D.int ms[i]] := by rw [← List.take_append_getElem hi]; unfold iD; rw [List.map_append]; rfl
    walk_at "st"
    refine r_idxR mset_same (d := .int ms[i]) (atI_last (by rw [hix, List.getLast?_concat])) ?_
    walk_at "st"
    have hc : cutN ms (i + 1) = if ms[i]? = some 0 then cutN ms i else i + 1 := rfl
    rw [List.getElem?_eq_getElem hi] at hc
    refine ⟨fun z => ?_, fun z => ?_⟩
    · have z := of_decide_eq_true z
      rw [z, if_pos rfl] at hc
      walk_at "st"
      refine r_tyR mset_same ?_
      walk_at "st"
      rw [hix]
      refine r_popS mset_same ?_
      rw [mset_mset]
      walk_at "st"
      exact ⟨i, by omega, i, rfl, by omega, by rw [← hc]; exact e, rfl, rfl⟩
    · have z := of_decide_eq_false z
      rw [if_neg (fun hh => z (Option.some.inj hh))] at hc
      exact stop (by rw [← e, hc])
  · have : k = 0 := by have := of_decide_eq_false z; omega
    subst this
    exact stop (by rw [← e]; rfl)
end SU

namespace SU
open PySem PySem.Spec PyProof.Rows L2 TL DL
local macro_rules | `(tactic| walk_at "st1") => `(tactic| first
  | with_reducible refine r_sq ?_ | with_reducible refine r_nx ?_ | with_reducible refine r_rt ?_ | with_reducible refine r_rtN ?_ | with_reducible refine r_ex ?_ | with_reducible refine r_as ?_ | with_reducible refine r_bk ?_ | with_reducible refine r_ct ?_
  | ((with_reducible apply r_var); exact rfl) | with_reducible refine r_c ?_ | with_reducible refine r_op ?_ | with_reducible refine r_un ?_ | with_reducible refine r_neg ?_
  | ((with_reducible refine r_dgN rfl ?_); (try simp only [List.set]))
  | with_reducible refine r_dgSub ?_ | with_reducible refine r_dgT rfl ?_ | with_reducible refine r_dga0 ?_ | with_reducible refine r_dga1 ?_ | with_reducible refine r_auS ?_ | ((with_reducible apply r_au); exact rfl)
  | with_reducible refine r_par ?_ | ((with_reducible refine r_kPar rfl ?_); (try simp only [List.set]))
  | with_reducible refine r_addI ?_ | with_reducible refine r_addS ?_ | with_reducible refine r_addT ?_ | with_reducible refine r_addL ?_ | with_reducible refine r_subI ?_ | with_reducible refine r_mulI ?_ | with_reducible refine r_fdiv ?_ | with_reducible refine r_mod ?_ | with_reducible refine r_pow ?_ | with_reducible refine r_shl ?_
  | with_reducible refine r_eqI ?_ | with_reducible refine r_eqS ?_ | with_reducible refine r_eqB ?_ | with_reducible refine r_neI ?_ | with_reducible refine r_neS ?_ | with_reducible refine r_neB ?_ | with_reducible refine r_ltI ?_ | with_reducible refine r_gtI ?_ | with_reducible refine r_leI ?_ | with_reducible refine r_geI ?_ | with_reducible refine r_isN ?_ | with_reducible refine r_notN ?_ | with_reducible refine r_inS ?_
  | with_reducible refine r_test ?_ | with_reducible refine r_kB ?_ | with_reducible refine r_tru ?_ | with_reducible refine r_kTb ?_ | with_reducible refine r_kTi ?_ | with_reducible refine r_kTn ?_ | with_reducible refine r_kTl ?_ | with_reducible refine r_kTt ?_ | with_reducible refine r_kTs ?_ | with_reducible refine r_not ?_ | with_reducible refine r_notV ?_ | with_reducible refine r_yes ?_
  | with_reducible refine r_nil ?_ | with_reducible refine r_cons ?_ | with_reducible refine r_tup ?_ | with_reducible refine r_lst ?_ | with_reducible refine r_newF ?_ | with_reducible refine r_cb ?_
  | with_reducible refine r_lenS ?_ | with_reducible refine r_lenL ?_ | with_reducible refine r_lenT ?_ | with_reducible refine r_lenSrc ?_ | with_reducible refine r_abs ?_ | with_reducible refine r_min2 ?_ | with_reducible refine r_max2 ?_ | with_reducible refine r_intI ?_ | with_reducible refine r_str ?_ | with_reducible refine r_tupT ?_ | with_reducible refine r_tupL ?_ | with_reducible refine r_divmod ?_
  | with_reducible refine r_sl ?_ | with_reducible refine r_noP ?_ | with_reducible refine r_part ?_ | with_reducible refine r_kP ?_ | with_reducible refine r_slS ?_ | with_reducible refine r_slT ?_ | with_reducible refine r_slL ?_ | with_reducible refine r_slSrc ?_
  | with_reducible refine r_bm ?_ | with_reducible refine r_tyS ?_ | with_reducible refine r_starts ?_ | with_reducible refine r_count ?_ | with_reducible refine r_call ?_ | with_reducible refine r_for ?_ | with_reducible refine r_seq ?_ | with_reducible refine r_kIt ?_ | with_reducible refine r_kIl ?_ | with_reducible refine r_kIs ?_ | with_reducible refine r_kIsrc ?_ | with_reducible refine r_r1 ?_ | with_reducible refine r_r2 ?_ | with_reducible refine r_lc ?_
  | with_reducible refine lit0 ?_ | with_reducible refine lit1 ?_ | with_reducible refine lit2 ?_ | with_reducible refine lit3 ?_ | with_reducible refine lit4 ?_ | with_reducible refine lit5 ?_ | with_reducible refine lit6 ?_ | with_reducible refine lit7 ?_
  | with_reducible refine r_callX ?_ | with_reducible refine r_callE ?_ | with_reducible refine r_try ?_ | with_reducible refine r_isE ?_ | with_reducible refine r_fld ?_ | with_reducible refine r_excK ?_ | with_reducible refine r_raise ?_
  | with_reducible refine r_subB ?_ | with_reducible refine r_r3 ?_ | with_reducible refine r_rev ?_ | with_reducible refine r_kRv ?_
  | fail)
local macro_rules | `(tactic| walk_at "st") => `(tactic| repeat (first | walk_at "st1" | dsimp only))
local macro_rules | `(tactic| walk_at "go") => `(tactic| (simp only [dstart, dEnd, List.map_cons, List.map_nil, List.length_cons, List.length_nil, Nat.reduceAdd, Nat.reduceSub, Nat.zero_add, List.replicate, List.cons_append, List.nil_append]; walk_at "st"))

local macro_rules | `(tactic| walk_at "bt") => `(tactic| first | with_reducible assumption | ((with_reducible apply bt_mul) <;> walk_at "bt") | ((with_reducible apply bt_sub) <;> walk_at "bt") | ((with_reducible apply bt_add) <;> walk_at "bt") | ((with_reducible apply bt_neg) <;> walk_at "bt") | ((with_reducible apply bt_abs) <;> walk_at "bt") | ((with_reducible apply bt_fdiv) <;> walk_at "bt") | exact bt_lit 64 (by decide +kernel))
local macro_rules | `(tactic| walk_at "cm") => `(tactic| ((with_reducible refine And.intro ?_ ?_); (focus ((with_reducible apply cm_ok) <;> first | decide | walk_at "bt"))))
local macro_rules | `(tactic| walk_at "sm") => `(tactic| repeat (first | walk_at "st1" | ((with_reducible apply r_idxT); exact rfl) | ((with_reducible apply r_idxL); exact rfl) | dsimp only | walk_at "cm"))

theorem pow_emod (x p : Int) : ∀ n : Nat, (x % p) ^ n % p = x ^ n % p
  | 0 => by rw [Int.pow_zero, Int.pow_zero]
  | n + 1 => by
    rw [Int.pow_succ, Int.pow_succ, Int.mul_emod, pow_emod x p n, Int.emod_emod, ← Int.mul_emod]
theorem inv_even (f b p : Int) (q : Nat) : f * (b * b % p) ^ q % p = f * b ^ (2 * q) % p := by
  rw [Int.mul_emod, pow_emod, ← Int.mul_emod, Nat.mul_comm, Nat.pow_mul_comm_aux]
where
  Nat.pow_mul_comm_aux : f * (b * b) ^ q % p = f * b ^ (q * 2) % p := by
    rw [Int.mul_pow, ← Int.pow_add]
    congr 3
    omega
theorem inv_odd (f b p : Int) (q : Nat) : f * b % p * (b * b % p) ^ q % p = f * b ^ (2 * q + 1) % p := by
  rw [inv_even, Int.mul_emod, Int.emod_emod, ← Int.mul_emod, Int.pow_succ]
  congr 1
  grind
theorem sem_inverse (ds : List D) (M : Mu) (Q : DK) (E : DXK) (h : sp_inverse ds M Q E) : t_inverse (dEnd Q) (dstart 6 ds) M := by
  obtain ⟨a, p, rfl, hp3, hp, h⟩ := h
  unfold t_inverse
  walk_at "go"
  refine ⟨by omega, ?_⟩
  walk_at "st"
  rw [fmod_pos (by omega)]
  refine r_while (fun k δ M' => ∃ (f b : Int) (s5 : Option D), 0 ≤ f ∧ f < p ∧ 0 ≤ b ∧ b < p ∧ f * b ^ k % p = (a % p) ^ (p - 2).toNat % p ∧ M' = M ∧ δ = [some (.int a), some (.int p), some (.int f), some (.int b), some (.int (k : Int)), s5]) (p - 2).toNat
    ⟨1, a % p, none, by decide, by omega, Int.emod_nonneg _ (by omega), Int.emod_lt_of_pos _ (by omega), by rw [Int.one_mul], rfl, by rw [show (((p - 2).toNat : Nat) : Int) = p - 2 by omega]⟩ ?_
  rintro k δ M' ⟨f, b, s5, f0, f1, b0, b1, e, rfl, rfl⟩
  have bf : Bt 10 f := by unfold Bt; omega
  have bb : Bt 10 b := by unfold Bt; omega
  walk_at "st"
  refine ⟨fun z => ?_, fun z => ?_⟩
  · have z : 0 < k := by have := of_decide_eq_true z; omega
    walk_at "st"
    refine ⟨⟨by decide, PyProof.noPylong_small (by decide)⟩, ?_⟩
    walk_at "st"
    obtain ⟨q, o, hk, ho⟩ : ∃ q o : Nat, k = 2 * q + o ∧ o < 2 := ⟨k / 2, k % 2, by omega, by omega⟩
    have e1 : (k : Int) / 2 = (q : Int) := by omega
    have e2 : (k : Int) % 2 = (o : Int) := by omega
    rw [e1, e2]
    refine r_if ?_
    walk_at "st"
    refine ⟨fun y => ?_, fun y => ?_⟩
    · have : o = 1 := by have := of_decide_eq_true y; omega
      subst this
      walk_at "st"
      refine ⟨cm_ok bf bb (by decide), ?_⟩
      walk_at "st"
      refine ⟨by omega, ?_⟩
      walk_at "st"
      refine ⟨cm_ok bb bb (by decide), ?_⟩
      walk_at "st"
      refine ⟨by omega, ?_⟩
      walk_at "st"
      rw [fmod_pos (show 0 < p by omega), fmod_pos (show 0 < p by omega)]
      refine ⟨q, by omega, f * b % p, b * b % p, _, Int.emod_nonneg _ (by omega), Int.emod_lt_of_pos _ (by omega), Int.emod_nonneg _ (by omega), Int.emod_lt_of_pos _ (by omega), ?_, by trivial, by trivial⟩
      rw [inv_odd, ← hk]; exact e
    · have : o = 0 := by have := of_decide_eq_false y; omega
      subst this
      walk_at "st"
      refine ⟨cm_ok bb bb (by decide), ?_⟩
      walk_at "st"
      refine ⟨by omega, ?_⟩
      walk_at "st"
      rw [fmod_pos (show 0 < p by omega)]
      refine ⟨q, by omega, f, b * b % p, _, f0, f1, Int.emod_nonneg _ (by omega), Int.emod_lt_of_pos _ (by omega), ?_, by trivial, by trivial⟩
      rw [inv_even, show 2 * q = k by omega]; exact e
  · have z : k = 0 := by have := of_decide_eq_false z; omega
    subst z
    walk_at "st"
    rw [Int.pow_zero, Int.mul_one, Int.emod_eq_of_lt f0 f1] at e
    rw [e]
    exact Wq.now h
theorem invM_rg {a p : Int} (hp : 0 < p) : 0 ≤ invM a p ∧ invM a p < p := ⟨Int.emod_nonneg _ (by omega), Int.emod_lt_of_pos _ hp⟩
theorem Rg.lastD {p : Int} {ns : List Int} (h : Rg p ns) (hp : 0 < p) : 0 ≤ ns.getLastD 0 ∧ ns.getLastD 0 < p := by
  cases hl : ns.getLast? with
  | none => rw [List.getLastD_eq_getLast?, hl]; exact ⟨by decide, hp⟩
  | some l => rw [last_D hl]; exact h.rg l (List.mem_of_getLast? hl)
theorem sem_monic_m (ds : List D) (M : Mu) (Q : DK) (E : DXK) (h : sp_monic_m ds M Q E) : t_monic_m (dEnd Q) (dstart 4 ds) M := by
  obtain ⟨ns, p, rfl, hR, hp3, hp, h⟩ := h
  unfold t_monic_m
  walk_at "go"
  refine r_if ?_
  walk_at "st"
  rw [iD_len]
  refine ⟨fun z => ?_, fun z => ?_⟩
  · have z : ns = [] := List.length_eq_zero_iff.mp (by have := of_decide_eq_true z; omega)
    subst z
    walk_at "st"
    exact Wq.now (h [] rfl)
  · have z : ns ≠ [] := fun y => by subst y; simp at z
    obtain ⟨l, hl⟩ : ∃ l, ns.getLast? = some l := ⟨_, List.getLast?_eq_some_getLast z⟩
    walk_at "st"
    refine r_idxL (iD_last hl) ?_
    walk_at "st"
    refine ⟨l, p, rfl, hp3, hp, ?_⟩
    walk_at "st"
    have hi := invM_rg (a := l) (p := p) (by omega)
    refine lc_ints (fun c => (c * invM l p).fmod p) ns trivial (by have := hR.len; omega) (fun c hc R hRR => ?_) ?_
    · simp only [dwipe, List.set]
      walk_at "st"
      refine ⟨cm_ok (hR.bt hp hc) (show Bt 10 (invM l p) by unfold Bt; omega) (by decide), ?_⟩
      walk_at "st"
      exact ⟨by omega, hRR⟩
    · walk_at "st"
      exact Wq.now (h _ (List.length_map ..))
theorem subM_len (part p : Int) : ∀ (es rest : List Int) (s : Nat), (subM part p rest s es).length = rest.length
  | [], _, _ => rfl
  | x :: xs, rest, s => by
    unfold subM
    rw [subM_len part p xs, List.length_set]
theorem stepM_len (y p : Int) (b rest : List Int) (s : Nat) : (stepM y p b rest s).length = rest.length := by
  unfold stepM
  split
  · rfl
  · rw [subM_len]
theorem sem_divided_m (ds : List D) (M : Mu) (Q : DK) (E : DXK) (h : sp_divided_m ds M Q E) : t_divided_m (dEnd Q) (dstart 10 ds) M := by
  obtain ⟨as, bs, p, rfl, hA, hB, hb0, hl, hp3, hp, h⟩ := h
  have hA8 := hA.len
  obtain ⟨l, hbl⟩ : ∃ l, bs.getLast? = some l := ⟨_, List.getLast?_eq_some_getLast hb0⟩
  have hby : byM bs p = if l = 1 then 1 else invM l p := by unfold byM; rw [last_D hbl]
  unfold t_divided_m
  walk_at "go"
  unfold dListOf
  walk_at "st"
  simp only [dits]
  refine r_newT fun r hr => ?_
  walk_at "st"
  refine via (P := fun d M' => d = .int (byM bs p) ∧ mset M r (.lst (iD as)) = M') (fun Q' hQ' => ?_) ?_
  · rw [hby] at hQ'
    refine r_dif ?_
    walk_at "st"
    refine r_idxL (iD_last hbl) ?_
    walk_at "st"
    refine ⟨fun z => ?_, fun z => ?_⟩
    · rw [if_pos (of_decide_eq_true z)] at hQ'
      walk_at "st"
      exact hQ' _ _ ⟨rfl, rfl⟩
    · rw [if_neg (of_decide_eq_false z)] at hQ'
      walk_at "st"
      refine r_idxL (iD_last hbl) ?_
      walk_at "st"
      exact ⟨l, p, rfl, hp3, hp, hQ' _ _ ⟨rfl, rfl⟩⟩
  rintro _ _ ⟨rfl, rfl⟩
  have hY : Bt 10 (byM bs p) := by
    have := invM_rg (a := bs.getLastD 0) (p := p) (by omega)
    unfold byM
    split
    · exact bt_lit 10 (by decide)
    · unfold Bt; omega
  have hrest : restM as bs p = redM (loopM (byM bs p) p bs (as.length - bs.length + 1) as) p := rfl
  rw [hrest] at h
  generalize byM bs p = Y at hY h ⊢
  walk_at "st"
  rw [iD_len, iD_len]
  obtain ⟨n, hn⟩ : ∃ n, n = as.length - bs.length + 1 := ⟨_, rfl⟩
  have hn0 : (as.length : Int) - (bs.length : Int) + 1 = (n : Int) := by omega
  have hn8 : n ≤ 9 := by omega
  rw [hn0]
  rw [← hn] at h
  have hmul : ∀ (Q' : DK) (M' : Mu) (k : Int), k = n → (∀ f, M' f = none → Q' (.ref f) (mset M' f (.lst (iD (zs n))))) → dMul true (.lst [.int 0]) (.int k) M' Q' := by
    intro Q' M' k hk hq
    subst hk
    show -(2 ^ 63) ≤ (n : Int) ∧ (n : Int) < 2 ^ 63 ∧ ([D.int 0] : List D).length * ((n : Int)).toNat ≤ sizeLine ∧ dNew true (List.replicate ((n : Int)).toNat [D.int 0]).flatten M' Q'
    refine ⟨by omega, by omega, sz1000 (by simp; omega), ?_⟩
    rw [Int.toNat_natCast]
    have e : (List.replicate n [D.int 0]).flatten = iD (zs n) := by
      unfold iD zs
      rw [List.map_replicate]
      clear hn hn0 h hq hn8
      induction n with
      | zero => rfl
      | succ n ih => rw [List.replicate_succ, List.flatten_cons, ih, List.replicate_succ]; rfl
    rw [e]
    exact r_newT hq
  refine hmul _ _ _ (by omega) fun f hf => ?_
  have hfr : f ≠ r := fun z => by rw [z, mset_same] at hf; cases hf
  have hrf : r ≠ f := fun z => hfr z.symm
  have hMf : M f = none := by rw [mset_ne hfr] at hf; exact hf
  walk_at "st"
  refine r_kR3 (by omega) ?_
  have e3 : ((n : Int) - 1 - (-1)).toNat = n := by omega
  show dForGo _ _ _ _ (rngDn ((n : Int) - 1) ((n : Int) - 1 - (-1)).toNat) _ _
  rw [e3]
  refine for_ix _ (fun j δ M' => ∃ (cur : List Int) (fl : List Int) (s7 s8 s9 : Option D), loopM Y p bs (n - j) cur = loopM Y p bs n as ∧ Rg p cur ∧ cur.length = as.length ∧ fl.length = n ∧ DL.Sub M M' ∧ M' r = some (.lst (iD cur)) ∧ M' f = some (.lst (iD fl)) ∧ δ = [some (.lst (iD as)), some (.lst (iD bs)), some (.int p), some (.ref r), some (.int Y), some (.int (n : Int)), some (.ref f), s7, s8, s9]) (fun _ _ _ _ => trivial) ?_ ?_ _ _
    ⟨as, zs n, none, none, none, rfl, hA, rfl, by unfold zs; rw [List.length_replicate], sub_upd (sub_new hr) hMf, by rw [mset_ne hrf, mset_same], mset_same, rfl⟩
  · rintro j x δ M' N hx ⟨cur, fl, s7, s8, s9, e4, hC, hcl, hfl, hs, hr', hf', rfl⟩ hN
    have hj : j < n := by
      have := (List.getElem?_eq_some_iff.mp hx).1
      rw [rngDn_len] at this
      exact this
    rw [rngDn_at hj] at hx
    obtain ⟨s, hs1⟩ : ∃ s, n - j = s + 1 := ⟨n - j - 1, by omega⟩
    have hxs : (n : Int) - 1 + (j : Int) * (-1) = (s : Int) := by omega
    rw [hxs] at hx
    cases hx
    rw [hs1] at e4
    have e4 : loopM Y p bs s (stepM Y p bs cur s) = loopM Y p bs n as := e4
    have hbl0 : 0 < bs.length := List.length_pos_iff.mpr hb0
    have hsi : s + bs.length - 1 < cur.length := by rw [hcl]; omega
    have hgd : cur.getD (s + bs.length - 1) 0 = cur[s + bs.length - 1] := by rw [List.getD_eq_getElem?_getD, List.getElem?_eq_getElem hsi]; rfl
    have hcb := hC.bt hp (List.getElem_mem hsi)
    walk_at "st"
    rw [iD_len, show (s : Int) + (bs.length : Int) - 1 = ((s + bs.length - 1 : Nat) : Int) by omega]
    refine r_idxR hr' (iD_at hsi) ?_
    walk_at "st"
    refine ⟨cm_ok hcb hY (by decide), ?_⟩
    walk_at "st"
    refine ⟨by omega, ?_⟩
    rw [fmod_pos (show 0 < p by omega)]
    have hstep : stepM Y p bs cur s = if cur[s + bs.length - 1] * Y % p = 0 then cur else subM (cur[s + bs.length - 1] * Y % p) p cur s bs := by unfold stepM; rw [hgd]
    rw [hstep] at e4
    have hpr : 0 ≤ cur[s + bs.length - 1] * Y % p ∧ cur[s + bs.length - 1] * Y % p < p := ⟨Int.emod_nonneg _ (by omega), Int.emod_lt_of_pos _ (by omega)⟩
    generalize cur[s + bs.length - 1] * Y % p = part at e4 hpr ⊢
    have hpb : Bt 10 part := by unfold Bt; omega
    walk_at "st"
    refine r_setV hf' (ixN_nat (by rw [iD_len]; omega)) ?_
    rw [show (iD fl).set s (.int part) = iD (fl.set s part) by unfold iD; rw [List.map_set]]
    have hMrn : ∀ o, mset M' f o r = some (.lst (iD cur)) := fun o => by rw [mset_ne hrf]; exact hr'
    walk_at "st"
    refine r_if ?_
    walk_at "st"
    refine ⟨fun z => ?_, fun z => ?_⟩
    · have z : part ≠ 0 := by simpa using z
      rw [if_neg z] at e4
      walk_at "st"
      rw [iD_len]
      refine r_kR1 (by omega) (by have := hB.len; omega) ?_
      rw [Int.toNat_natCast]
      refine for_rng0 bs.length (fun i δ M'' => ∃ (cu : List Int) (s9 : Option D), subM part p cu (s + i) (bs.drop i) = subM part p cur s bs ∧ Rg p cu ∧ cu.length = as.length ∧ M'' = mset (mset M' f (.lst (iD (fl.set s part)))) r (.lst (iD cu)) ∧ δ = [some (.lst (iD as)), some (.lst (iD bs)), some (.int p), some (.ref r), some (.int Y), some (.int (n : Int)), some (.ref f), some (.int (s : Int)), some (.int part), s9]) ?_ ?_ _ _
        ⟨cur, s9, rfl, hC, hcl, ?_, rfl⟩
      · rintro i δ M'' N' hi ⟨cu, s9, e5, hCu, hcul, rfl, rfl⟩ hN'
        have hii : s + i < cu.length := by omega
        have hgd2 : cu.getD (s + i) 0 = cu[s + i] := by rw [List.getD_eq_getElem?_getD, List.getElem?_eq_getElem hii]; rfl
        rw [List.drop_eq_getElem_cons hi] at e5
        have e5 : subM part p (cu.set (s + i) ((cu.getD (s + i) 0 - part * bs[i]) % p)) (s + i + 1) (bs.drop (i + 1)) = subM part p cur s bs := e5
        rw [hgd2] at e5
        walk_at "st"
        rw [show (s : Int) + (i : Int) = ((s + i : Nat) : Int) by omega]
        refine r_idxR mset_same (iD_at hii) ?_
        walk_at "st"
        refine r_idxL (iD_at hi) ?_
        walk_at "st"
        refine ⟨cm_ok hpb (hB.bt hp (List.getElem_mem hi)) (by decide), ?_⟩
        walk_at "st"
        refine ⟨by omega, ?_⟩
        rw [fmod_pos (show 0 < p by omega)]
        walk_at "st"
        rw [show (s : Int) + (i : Int) = ((s + i : Nat) : Int) by omega]
        refine r_setV mset_same (ixN_nat (by rw [iD_len]; exact hii)) ?_
        rw [mset_mset, show (iD cu).set (s + i) (.int ((cu[s + i] - part * bs[i]) % p)) = iD (cu.set (s + i) ((cu[s + i] - part * bs[i]) % p)) by unfold iD; rw [List.map_set]]
        refine hN' _ _ ⟨_, _, e5, ⟨by rw [List.length_set]; exact hCu.len, fun c hc => ?_⟩, by rw [List.length_set]; exact hcul, rfl, rfl⟩
        rcases List.mem_or_eq_of_mem_set hc with hc | hc
        · exact hCu.rg c hc
        · rw [hc]; exact ⟨Int.emod_nonneg _ (by omega), Int.emod_lt_of_pos _ (by omega)⟩
      · rintro δ M'' ⟨cu, s9, e5, hCu, hcul, rfl, rfl⟩
        rw [List.drop_length] at e5
        have e5 : cu = subM part p cur s bs := e5
        refine hN _ _ ⟨cu, fl.set s part, _, _, _, ?_, hCu, hcul, by rw [List.length_set]; exact hfl, ?_, mset_same, ?_, rfl⟩
        · rw [show n - (j + 1) = s by omega, e5]; exact e4
        · exact sub_upd (sub_upd hs hMf) hr
        · rw [mset_ne hfr, mset_same]
      · funext z
        by_cases hz : z = r
        · subst hz; rw [mset_same, hMrn]
        · rw [mset_ne hz]
    · have z : part = 0 := by simpa using z
      rw [if_pos z] at e4
      walk_at "st"
      refine hN _ _ ⟨cur, fl.set s part, _, _, _, ?_, hC, hcl, by rw [List.length_set]; exact hfl, sub_upd hs hMf, hMrn _, mset_same, rfl⟩
      rw [show n - (j + 1) = s by omega]; exact e4
  · rintro δ M' ⟨cur, fl, s7, s8, s9, e4, hC, hcl, hfl, hs, hr', hf', rfl⟩
    rw [rngDn_len, Nat.sub_self] at e4
    have e4 : cur = loopM Y p bs n as := e4
    rw [← e4] at h
    walk_at "st"
    refine ⟨_, fl, p, rfl, dits_ref hf', by omega, by omega, ?_⟩
    walk_at "st"
    refine ⟨_, cur, p, rfl, dits_ref hr', by omega, by omega, ?_⟩
    walk_at "st"
    exact Wq.drop hs (h _)
end SU

namespace SU
open PySem PySem.Spec PyProof.Rows L2 TL DL
local macro_rules | `(tactic| walk_at "st1") => `(tactic| first
  | with_reducible refine r_sq ?_ | with_reducible refine r_nx ?_ | with_reducible refine r_rt ?_ | with_reducible refine r_rtN ?_ | with_reducible refine r_ex ?_ | with_reducible refine r_as ?_ | with_reducible refine r_bk ?_ | with_reducible refine r_ct ?_
  | ((with_reducible apply r_var); exact rfl) | with_reducible refine r_c ?_ | with_reducible refine r_op ?_ | with_reducible refine r_un ?_ | with_reducible refine r_neg ?_
  | ((with_reducible refine r_dgN rfl ?_); (try simp only [List.set]))
  | with_reducible refine r_dgSub ?_ | with_reducible refine r_dgT rfl ?_ | with_reducible refine r_dga0 ?_ | with_reducible refine r_dga1 ?_ | with_reducible refine r_auS ?_ | ((with_reducible apply r_au); exact rfl)
  | with_reducible refine r_par ?_ | ((with_reducible refine r_kPar rfl ?_); (try simp only [List.set]))
  | with_reducible refine r_addI ?_ | with_reducible refine r_addS ?_ | with_reducible refine r_addT ?_ | with_reducible refine r_addL ?_ | with_reducible refine r_subI ?_ | with_reducible refine r_mulI ?_ | with_reducible refine r_fdiv ?_ | with_reducible refine r_mod ?_ | with_reducible refine r_pow ?_ | with_reducible refine r_shl ?_
  | with_reducible refine r_eqI ?_ | with_reducible refine r_eqS ?_ | with_reducible refine r_eqB ?_ | with_reducible refine r_neI ?_ | with_reducible refine r_neS ?_ | with_reducible refine r_neB ?_ | with_reducible refine r_ltI ?_ | with_reducible refine r_gtI ?_ | with_reducible refine r_leI ?_ | with_reducible refine r_geI ?_ | with_reducible refine r_isN ?_ | with_reducible refine r_notN ?_ | with_reducible refine r_inS ?_
  | with_reducible refine r_test ?_ | with_reducible refine r_kB ?_ | with_reducible refine r_tru ?_ | with_reducible refine r_kTb ?_ | with_reducible refine r_kTi ?_ | with_reducible refine r_kTn ?_ | with_reducible refine r_kTl ?_ | with_reducible refine r_kTt ?_ | with_reducible refine r_kTs ?_ | with_reducible refine r_not ?_ | with_reducible refine r_notV ?_ | with_reducible refine r_yes ?_
  | with_reducible refine r_nil ?_ | with_reducible refine r_cons ?_ | with_reducible refine r_tup ?_ | with_reducible refine r_lst ?_ | with_reducible refine r_newF ?_ | with_reducible refine r_cb ?_
  | with_reducible refine r_lenS ?_ | with_reducible refine r_lenL ?_ | with_reducible refine r_lenT ?_ | with_reducible refine r_lenSrc ?_ | with_reducible refine r_abs ?_ | with_reducible refine r_min2 ?_ | with_reducible refine r_max2 ?_ | with_reducible refine r_intI ?_ | with_reducible refine r_str ?_ | with_reducible refine r_tupT ?_ | with_reducible refine r_tupL ?_ | with_reducible refine r_divmod ?_
  | with_reducible refine r_sl ?_ | with_reducible refine r_noP ?_ | with_reducible refine r_part ?_ | with_reducible refine r_kP ?_ | with_reducible refine r_slS ?_ | with_reducible refine r_slT ?_ | with_reducible refine r_slL ?_ | with_reducible refine r_slSrc ?_
  | with_reducible refine r_bm ?_ | with_reducible refine r_tyS ?_ | with_reducible refine r_starts ?_ | with_reducible refine r_count ?_ | with_reducible refine r_call ?_ | with_reducible refine r_for ?_ | with_reducible refine r_seq ?_ | with_reducible refine r_kIt ?_ | with_reducible refine r_kIl ?_ | with_reducible refine r_kIs ?_ | with_reducible refine r_kIsrc ?_ | with_reducible refine r_r1 ?_ | with_reducible refine r_r2 ?_ | with_reducible refine r_lc ?_
  | with_reducible refine lit0 ?_ | with_reducible refine lit1 ?_ | with_reducible refine lit2 ?_ | with_reducible refine lit3 ?_ | with_reducible refine lit4 ?_ | with_reducible refine lit5 ?_ | with_reducible refine lit6 ?_ | with_reducible refine lit7 ?_
  | with_reducible refine r_callX ?_ | with_reducible refine r_callE ?_ | with_reducible refine r_try ?_ | with_reducible refine r_isE ?_ | with_reducible refine r_fld ?_ | with_reducible refine r_excK ?_ | with_reducible refine r_raise ?_
  | with_reducible refine r_subB ?_ | with_reducible refine r_r3 ?_ | with_reducible refine r_rev ?_ | with_reducible refine r_kRv ?_
  | fail)
local macro_rules | `(tactic| walk_at "st") => `(tactic| repeat (first | walk_at "st1" | dsimp only))
local macro_rules | `(tactic| walk_at "go") => `(tactic| (simp only [dstart, dEnd, List.map_cons, List.map_nil, List.length_cons, List.length_nil, Nat.reduceAdd, Nat.reduceSub, Nat.zero_add, List.replicate, List.cons_append, List.nil_append]; walk_at "st"))

local macro_rules | `(tactic| walk_at "bt") => `(tactic| first | with_reducible assumption | ((with_reducible apply bt_mul) <;> walk_at "bt") | ((with_reducible apply bt_sub) <;> walk_at "bt") | ((with_reducible apply bt_add) <;> walk_at "bt") | ((with_reducible apply bt_neg) <;> walk_at "bt") | ((with_reducible apply bt_abs) <;> walk_at "bt") | ((with_reducible apply bt_fdiv) <;> walk_at "bt") | exact bt_lit 64 (by decide +kernel))
local macro_rules | `(tactic| walk_at "cm") => `(tactic| ((with_reducible refine And.intro ?_ ?_); (focus ((with_reducible apply cm_ok) <;> first | decide | walk_at "bt"))))
local macro_rules | `(tactic| walk_at "sm") => `(tactic| repeat (first | walk_at "st1" | ((with_reducible apply r_idxT); exact rfl) | ((with_reducible apply r_idxL); exact rfl) | dsimp only | walk_at "cm"))

theorem sem_rest_m (ds : List D) (M : Mu) (Q : DK) (E : DXK) (h : sp_rest_m ds M Q E) : t_rest_m (dEnd Q) (dstart 3 ds) M := by
  obtain ⟨as, bs, p, rfl, hA, hB, hb, hl, hp3, hp, h⟩ := h
  unfold t_rest_m
  walk_at "go"
  refine ⟨as, bs, p, rfl, hA, hB, hb, hl, hp3, hp, fun q => ?_⟩
  walk_at "st"
  refine r_idxT atI_one ?_
  exact Wq.now h
theorem loopM_len (y p : Int) (b : List Int) : ∀ (k : Nat) (rest : List Int), (loopM y p b k rest).length = rest.length
  | 0, _ => rfl
  | k + 1, rest => by
    unfold loopM
    rw [loopM_len y p b k, stepM_len]
theorem restM_rg {as bs : List Int} {p : Int} (hp : 0 < p) (h8 : as.length ≤ 8) : Rg p (restM as bs p) := redM_rg hp (by rw [loopM_len]; exact h8)
theorem sem_common_m (ds : List D) (M : Mu) (Q : DK) (E : DXK) (h : sp_common_m ds M Q E) : t_common_m (dEnd Q) (dstart 3 ds) M := by
  obtain ⟨as, bs, p, f, g, rfl, hA, hB, hl, hp3, hp, hc, h⟩ := h
  unfold t_common_m
  walk_at "go"
  refine r_while (fun k δ M' => ∃ (a b : List Int), Rg p a ∧ Rg p b ∧ b.length ≤ a.length ∧ commonM p k a b = some g ∧ M' = M ∧ δ = [some (.lst (iD a)), some (.lst (iD b)), some (.int p)]) f ⟨as, bs, hA, hB, hl, hc, rfl, rfl⟩ ?_
  rintro k δ M' ⟨a, b, hA, hB, hl, hc, rfl, rfl⟩
  cases k with
  | zero => cases hc
  | succ k =>
    unfold commonM at hc
    walk_at "st"
    rw [iD_len]
    refine ⟨fun z => ?_, fun z => ?_⟩
    · have hb : b ≠ [] := fun y => by subst y; simp at z
      rw [if_neg hb] at hc
      split at hc
      · next hlt =>
        walk_at "st"
        refine ⟨a, b, p, rfl, hA, hB, hb, hl, hp3, hp, ?_⟩
        walk_at "st"
        exact ⟨k, Nat.lt_succ_self k, b, _, hB, restM_rg (by omega) hA.len, by omega, hc, by trivial, by trivial⟩
      · cases hc
    · have hb : b = [] := List.length_eq_zero_iff.mp (by have := of_decide_eq_false z; omega)
      rw [if_pos hb] at hc
      cases hc
      walk_at "st"
      exact ⟨_, p, rfl, hA, hp3, hp, fun ms hms => Wq.now (h ms hms)⟩
theorem sem_derived_m (ds : List D) (M : Mu) (Q : DK) (E : DXK) (h : sp_derived_m ds M Q E) : t_derived_m (dEnd Q) (dstart 3 ds) M := by
  obtain ⟨ns, p, rfl, hR, hp3, hp, h⟩ := h
  have h8 := hR.len
  unfold t_derived_m
  walk_at "go"
  rw [iD_len]
  refine r_kR2 (by omega) ?_
  rw [show ((ns.length : Int) - 1).toNat = ns.length - 1 by omega]
  refine lc_map (fun d => match d with
    | .int c => .int (ns.getD c.toNat 0 * c)
    | d => d) trivial _ _ (by rw [rngD_len, List.length_nil, Nat.zero_add]; exact sz1000 (by omega)) (fun x hx R hRR => ?_) ?_
  · obtain ⟨j, hj, rfl⟩ := List.mem_map.mp hx
    rw [List.mem_range] at hj
    have hj1 : j + 1 < ns.length := by omega
    simp only [dwipe, List.set]
    walk_at "st"
    rw [show (1 : Int) + (j : Int) = ((j + 1 : Nat) : Int) by omega] at hRR ⊢
    refine r_idxL (iD_at hj1) ?_
    walk_at "st"
    refine ⟨cm_ok (hR.bt hp (List.getElem_mem hj1)) (show Bt 10 ((j + 1 : Nat) : Int) by unfold Bt; omega) (by decide), ?_⟩
    simp only [Int.toNat_natCast, List.getD_eq_getElem?_getD, List.getElem?_eq_getElem hj1, Option.getD_some] at hRR
    exact hRR
  · rw [List.nil_append]
    walk_at "st"
    refine ⟨_, (List.range (ns.length - 1)).map fun k => ns.getD (k + 1) 0 * ((k : Int) + 1), p, rfl, ?_, ?_, by omega, ?_⟩
    · show some _ = some _
      congr 1
      unfold rngD iD
      rw [List.map_map, List.map_map]
      refine List.map_congr_left fun k _ => ?_
      show D.int (ns.getD ((1 : Int) + (k : Int)).toNat 0 * ((1 : Int) + (k : Int))) = D.int (ns.getD (k + 1) 0 * ((k : Int) + 1))
      rw [show ((1 : Int) + (k : Int)).toNat = k + 1 by omega, Int.add_comm 1 (k : Int)]
    · rw [List.length_map, List.length_range]; omega
    · exact Wq.now h
theorem sem_is_prime (ds : List D) (M : Mu) (Q : DK) (E : DXK) (h : sp_is_prime ds M Q E) : t_is_prime (dEnd Q) (dstart 2 ds) M := by
  obtain ⟨n, rfl, h3, hn, h⟩ := h
  unfold t_is_prime
  walk_at "go"
  refine r_while (fun k δ M' => ∃ (x : Int), 3 ≤ x ∧ x + 2 * (k : Int) = 1203 ∧ isP n k x = isP n 600 3 ∧ M' = M ∧ δ = [some (.int n), some (.int x)]) 600 ⟨3, by decide, by decide, rfl, rfl, rfl⟩ ?_
  rintro k δ M' ⟨x, hx3, hxk, e, rfl, rfl⟩
  walk_at "st"
  refine ⟨cm_ok (show Bt 64 x by unfold Bt; omega) (show Bt 64 x by unfold Bt; omega) (by decide), ?_⟩
  walk_at "st"
  refine ⟨fun z => ?_, fun z => ?_⟩
  · have z := of_decide_eq_true z
    have hx : x < 32 := sq_lt (by decide) (by omega)
    obtain ⟨j, rfl⟩ : ∃ j, k = j + 1 := ⟨k - 1, by omega⟩
    have e1 : isP n (j + 1) x = if x * x ≤ n then (if n % x = 0 then false else isP n j (x + 2)) else true := rfl
    rw [if_pos z] at e1
    walk_at "st"
    refine r_if ?_
    walk_at "st"
    refine ⟨by omega, ?_⟩
    rw [fmod_pos (show 0 < x by omega)]
    walk_at "st"
    refine ⟨fun y => ?_, fun y => ?_⟩
    · rw [if_pos (of_decide_eq_true y)] at e1
      walk_at "st"
      rw [← e, e1] at h
      exact Wq.now h
    · rw [if_neg (of_decide_eq_false y)] at e1
      walk_at "st"
      walk_at "st"
      exact ⟨j, Nat.lt_succ_self j, x + 2, by omega, by omega, by rw [← e, e1], by trivial, by trivial⟩
  · have z := of_decide_eq_false z
    walk_at "st"
    have e1 : isP n k x = true := by
      cases k with
      | zero => rfl
      | succ k =>
        unfold isP
        rw [if_neg z]
    rw [← e, e1] at h
    exact Wq.now h
theorem der_len (ns : List Int) (p : Int) : (derM ns p).length ≤ ns.length := by
  unfold derM redM
  refine Nat.le_trans (trim_len _) ?_
  rw [List.length_map, List.length_map, List.length_range]
  omega
theorem sem_usable (ds : List D) (M : Mu) (Q : DK) (E : DXK) (h : sp_usable ds M Q E) : t_usable (dEnd Q) (dstart 3 ds) M := by
  obtain ⟨ns, p, b, rfl, hne, h8, hp3, hp, hu, h⟩ := h
  obtain ⟨l, hl⟩ : ∃ l, ns.getLast? = some l := ⟨_, List.getLast?_eq_some_getLast hne⟩
  unfold usableM at hu
  rw [last_D hl] at hu
  unfold t_usable
  walk_at "go"
  refine r_if ?_
  walk_at "st"
  refine r_idxT (iD_last hl) ?_
  walk_at "st"
  refine ⟨by omega, ?_⟩
  rw [fmod_pos (show 0 < p by omega)]
  walk_at "st"
  refine ⟨fun z => ?_, fun z => ?_⟩
  · rw [if_pos (of_decide_eq_true z)] at hu
    cases hu
    walk_at "st"
    exact Wq.now h
  · rw [if_neg (of_decide_eq_false z)] at hu
    have hR := redM_rg (p := p) (by omega) h8
    have hD : Rg p (derM (redM ns p) p) := by
      unfold derM
      refine redM_rg (by omega) ?_
      rw [List.length_map, List.length_range]
      have := hR.len
      omega
    walk_at "st"
    refine ⟨_, ns, p, rfl, rfl, by omega, by omega, ?_⟩
    walk_at "st"
    refine ⟨redM ns p, p, rfl, hR, hp3, hp, ?_⟩
    walk_at "st"
    cases hg : commonM p 20 (redM ns p) (derM (redM ns p) p) with
    | none => rw [hg] at hu; cases hu
    | some g =>
      rw [hg] at hu
      cases hu
      refine ⟨redM ns p, _, p, 20, g, rfl, hR, hD, der_len _ _, hp3, hp, hg, fun ms hms => ?_⟩
      walk_at "st"
      rw [iD_len, hms]
      have e : decide ((g.length : Int) = 1) = decide (g.length = 1) := by rw [decide_eq_decide]; omega
      rw [e]
      exact Wq.now h
theorem sem_usable_prime (ds : List D) (M : Mu) (Q : DK) (E : DXK) (h : sp_usable_prime ds M Q E) : t_usable_prime (dEnd Q) (dstart 3 ds) M := by
  obtain ⟨ns, P, rfl, hne, h8, hu, h⟩ := h
  unfold t_usable_prime
  walk_at "go"
  refine r_while (fun k δ M' => ∃ (x : Int), 5 ≤ x ∧ x + 2 * (k : Int) = 405 ∧ upM ns k x = some P ∧ M' = M ∧ δ = [some (.tup (iD ns)), some (.int 3), some (.int x)]) 200 ⟨5, by decide, by decide, hu, rfl, rfl⟩ ?_
  rintro k δ M' ⟨x, hx5, hxk, e, rfl, rfl⟩
  cases k with
  | zero => cases e
  | succ k =>
    unfold upM at e
    have next : upM ns k (x + 2) = some P → dAu 2 dIAdd (dC (.int 2)) { nx := fun δ' M'_1 => ∃ m', m' < k + 1 ∧ ∃ x, 5 ≤ x ∧ x + 2 * (m' : Int) = 405 ∧ upM ns m' x = some P ∧ M'_1 = M' ∧ δ' = [some (.tup (iD ns)), some (.int 3), some (.int x)], rt := Wq Q, ct := fun δ' M'_1 => ∃ m', m' < k + 1 ∧ ∃ x, 5 ≤ x ∧ x + 2 * (m' : Int) = 405 ∧ upM ns m' x = some P ∧ M'_1 = M' ∧ δ' = [some (.tup (iD ns)), some (.int 3), some (.int x)], bk := dRt (dVar 2) { nx := fun x M => Wq Q D.non M, rt := Wq Q } } [some (.tup (iD ns)), some (.int 3), some (.int x)] M' := by
      intro hn
      walk_at "st"
      exact ⟨k, Nat.lt_succ_self k, x + 2, by omega, by omega, hn, rfl, rfl⟩
    refine r_not ?_
    refine r_and ?_
    walk_at "st"
    refine ⟨x, rfl, by omega, by omega, ?_⟩
    walk_at "st"
    refine ⟨fun z => ?_, fun z => ?_⟩
    · rw [if_pos z] at e
      cases hb : usableM ns x with
      | none => rw [hb] at e; cases e
      | some b =>
        rw [hb] at e
        walk_at "st"
        refine ⟨ns, x, b, rfl, hne, h8, by omega, by omega, hb, ?_⟩
        walk_at "st"
        cases b with
        | true =>
          cases e
          refine ⟨fun z => Bool.noConfusion z, fun _ => ?_⟩
          walk_at "st"
          exact Wq.now (h (by omega) (by omega))
        | false => exact ⟨fun _ => next e, fun z => Bool.noConfusion z⟩
    · have z : isP x 600 3 = false := z
      rw [z, if_neg (by decide)] at e
      walk_at "st"
      exact ⟨fun _ => next e, fun z => Bool.noConfusion z⟩
end SU

namespace SU
open PySem PySem.Spec PyProof.Rows L2 TL DL
local macro_rules | `(tactic| walk_at "st1") => `(tactic| first
  | with_reducible refine r_sq ?_ | with_reducible refine r_nx ?_ | with_reducible refine r_rt ?_ | with_reducible refine r_rtN ?_ | with_reducible refine r_ex ?_ | with_reducible refine r_as ?_ | with_reducible refine r_bk ?_ | with_reducible refine r_ct ?_
  | ((with_reducible apply r_var); exact rfl) | with_reducible refine r_c ?_ | with_reducible refine r_op ?_ | with_reducible refine r_un ?_ | with_reducible refine r_neg ?_
  | ((with_reducible refine r_dgN rfl ?_); (try simp only [List.set]))
  | with_reducible refine r_dgSub ?_ | with_reducible refine r_dgT rfl ?_ | with_reducible refine r_dga0 ?_ | with_reducible refine r_dga1 ?_ | with_reducible refine r_auS ?_ | ((with_reducible apply r_au); exact rfl)
  | with_reducible refine r_par ?_ | ((with_reducible refine r_kPar rfl ?_); (try simp only [List.set]))
  | with_reducible refine r_addI ?_ | with_reducible refine r_addS ?_ | with_reducible refine r_addT ?_ | with_reducible refine r_addL ?_ | with_reducible refine r_subI ?_ | with_reducible refine r_mulI ?_ | with_reducible refine r_fdiv ?_ | with_reducible refine r_mod ?_ | with_reducible refine r_pow ?_ | with_reducible refine r_shl ?_
  | with_reducible refine r_eqI ?_ | with_reducible refine r_eqS ?_ | with_reducible refine r_eqB ?_ | with_reducible refine r_neI ?_ | with_reducible refine r_neS ?_ | with_reducible refine r_neB ?_ | with_reducible refine r_ltI ?_ | with_reducible refine r_gtI ?_ | with_reducible refine r_leI ?_ | with_reducible refine r_geI ?_ | with_reducible refine r_isN ?_ | with_reducible refine r_notN ?_ | with_reducible refine r_inS ?_
  | with_reducible refine r_test ?_ | with_reducible refine r_kB ?_ | with_reducible refine r_tru ?_ | with_reducible refine r_kTb ?_ | with_reducible refine r_kTi ?_ | with_reducible refine r_kTn ?_ | with_reducible refine r_kTl ?_ | with_reducible refine r_kTt ?_ | with_reducible refine r_kTs ?_ | with_reducible refine r_not ?_ | with_reducible refine r_notV ?_ | with_reducible refine r_yes ?_
  | with_reducible refine r_nil ?_ | with_reducible refine r_cons ?_ | with_reducible refine r_tup ?_ | with_reducible refine r_lst ?_ | with_reducible refine r_newF ?_ | with_reducible refine r_cb ?_
  | with_reducible refine r_lenS ?_ | with_reducible refine r_lenL ?_ | with_reducible refine r_lenT ?_ | with_reducible refine r_lenSrc ?_ | with_reducible refine r_abs ?_ | with_reducible refine r_min2 ?_ | with_reducible refine r_max2 ?_ | with_reducible refine r_intI ?_ | with_reducible refine r_str ?_ | with_reducible refine r_tupT ?_ | with_reducible refine r_tupL ?_ | with_reducible refine r_divmod ?_
  | with_reducible refine r_sl ?_ | with_reducible refine r_noP ?_ | with_reducible refine r_part ?_ | with_reducible refine r_kP ?_ | with_reducible refine r_slS ?_ | with_reducible refine r_slT ?_ | with_reducible refine r_slL ?_ | with_reducible refine r_slSrc ?_
  | with_reducible refine r_bm ?_ | with_reducible refine r_tyS ?_ | with_reducible refine r_starts ?_ | with_reducible refine r_count ?_ | with_reducible refine r_call ?_ | with_reducible refine r_for ?_ | with_reducible refine r_seq ?_ | with_reducible refine r_kIt ?_ | with_reducible refine r_kIl ?_ | with_reducible refine r_kIs ?_ | with_reducible refine r_kIsrc ?_ | with_reducible refine r_r1 ?_ | with_reducible refine r_r2 ?_ | with_reducible refine r_lc ?_
  | with_reducible refine lit0 ?_ | with_reducible refine lit1 ?_ | with_reducible refine lit2 ?_ | with_reducible refine lit3 ?_ | with_reducible refine lit4 ?_ | with_reducible refine lit5 ?_ | with_reducible refine lit6 ?_ | with_reducible refine lit7 ?_
  | with_reducible refine r_callX ?_ | with_reducible refine r_callE ?_ | with_reducible refine r_try ?_ | with_reducible refine r_isE ?_ | with_reducible refine r_fld ?_ | with_reducible refine r_excK ?_ | with_reducible refine r_raise ?_
  | with_reducible refine r_subB ?_ | with_reducible refine r_r3 ?_ | with_reducible refine r_rev ?_ | with_reducible refine r_kRv ?_
  | fail)
local macro_rules | `(tactic| walk_at "st") => `(tactic| repeat (first | walk_at "st1" | dsimp only))
local macro_rules | `(tactic| walk_at "go") => `(tactic| (simp only [dstart, dEnd, List.map_cons, List.map_nil, List.length_cons, List.length_nil, Nat.reduceAdd, Nat.reduceSub, Nat.zero_add, List.replicate, List.cons_append, List.nil_append]; walk_at "st"))

local macro_rules | `(tactic| walk_at "bt") => `(tactic| first | with_reducible assumption | ((with_reducible apply bt_mul) <;> walk_at "bt") | ((with_reducible apply bt_sub) <;> walk_at "bt") | ((with_reducible apply bt_add) <;> walk_at "bt") | ((with_reducible apply bt_neg) <;> walk_at "bt") | ((with_reducible apply bt_abs) <;> walk_at "bt") | ((with_reducible apply bt_fdiv) <;> walk_at "bt") | exact bt_lit 64 (by decide +kernel))
local macro_rules | `(tactic| walk_at "cm") => `(tactic| ((with_reducible refine And.intro ?_ ?_); (focus ((with_reducible apply cm_ok) <;> first | decide | walk_at "bt"))))
local macro_rules | `(tactic| walk_at "sm") => `(tactic| repeat (first | walk_at "st1" | ((with_reducible apply r_idxT); exact rfl) | ((with_reducible apply r_idxL); exact rfl) | dsimp only | walk_at "cm"))

def frD (n m : Int) : D := .tup [.int n, .int m]
/-- no fraction is a root -/
def NoQ (ns : List Int) : Prop := ∀ n m : Int, 0 < m → hom ns n m ≠ 0
def sp_ratio : DSp := fun ds M Q _ => ∃ (p q : Int), ds = [.int p, .int q] ∧ 0 < q ∧ Bt 5000 p ∧ Bt 3000 q ∧ ∀ g n m, 0 < g → p = g * n → q = g * m → Int.gcd n m = 1 → Q (frD n m) M
def sp_less_q : DSp := fun ds M Q _ => ∃ (a b c d : Int), ds = [frD a b, frD c d] ∧ Bt 3000 a ∧ Bt 3000 b ∧ Bt 3000 c ∧ Bt 3000 d ∧ Q (.bl (decide (a * d < c * b))) M
def sp_value_m : DSp := fun ds M Q _ => ∃ (ns : List Int) (x n : Int), ds = [.tup (iD ns), .int x, .int n] ∧ B5 ns ∧ Bt 2000 x ∧ Bt 2000 n ∧ 0 < n ∧ ∀ v, 0 ≤ v → v < n → Q (.int v) M
def sp_lifted_root : DSp := fun ds M Q _ => ∃ (ns : List Int) (r p l : Int), ds = [.tup (iD ns), .int r, .int p, .int l] ∧ Sh ns ∧ B4 ns ∧ 0 ≤ r ∧ r < p ∧ 3 ≤ p ∧ p < 1000 ∧ 0 ≤ l ∧ Bt 720 l ∧ ∀ r' P, 0 ≤ r' → r' < P → Bt 1500 P → Q (.tup [.int r', .int P]) M
def sp_fraction_roots : DSp := fun ds M Q _ => ∃ (ns : List Int) (P : Int), ds = [.tup (iD ns)] ∧ Sh ns ∧ B4 ns ∧ NoQ ns ∧ upM ns 200 5 = some P ∧ Q (.lst []) M
def t_ratio : DTS := (dSq (dAs (dCall sp_gcd_of [] dX0 (dCons (dVar 0) (dCons (dVar 1) dNil))) (dgN 2)) (dSq (dIfS (dTest (dOp dLt (dVar 1) (dC (.int 0)))) (dAs (dUn dNeg (dVar 2)) (dgN 2)) dNx) (dRt (dTup (dCons (dOp dFdiv (dVar 0) (dVar 2)) (dCons (dOp dFdiv (dVar 1) (dVar 2)) dNil))))))
def t_less_q : DTS := (dRt (dOp dLt (dOp (dMul false) (dOp dIdx (dVar 0) (dC (.int 0))) (dOp dIdx (dVar 1) (dC (.int 1)))) (dOp (dMul false) (dOp dIdx (dVar 1) (dC (.int 0))) (dOp dIdx (dVar 0) (dC (.int 1))))))
def t_value_m : DTS := (dSq (dAs (dC (.int 0)) (dgN 3)) (dSq (dFor (diRev (dVar 0)) (dgN 4) (dAs (dOp dMod (dOp (dAdd false) (dOp (dMul false) (dVar 3) (dVar 1)) (dVar 4)) (dVar 2)) (dgN 3))) (dRt (dVar 3))))
def t_lifted_root : DTS := (dSq (dAs (dCall sp_derived [] dX0 (dCons (dVar 0) dNil)) (dgN 4)) (dSq (dAs (dCall sp_inverse [] dX0 (dCons (dCall sp_value_m [] dX0 (dCons (dVar 4) (dCons (dVar 1) (dCons (dVar 2) dNil)))) (dCons (dVar 2) dNil))) (dgN 5)) (dSq (dAs (dVar 2) (dgN 6)) (dSq (dWhile (dTest (dOp dLe (dVar 6) (dVar 3))) (dSq (dAs (dOp (dMul false) (dVar 6) (dVar 6)) (dgN 6)) (dSq (dAs (dOp dMod (dOp dSub (dVar 1) (dOp (dMul false) (dCall sp_value_m [] dX0 (dCons (dVar 0) (dCons (dVar 1) (dCons (dVar 6) dNil)))) (dVar 5))) (dVar 6)) (dgN 1)) (dAs (dOp dMod (dOp (dMul false) (dVar 5) (dOp dSub (dC (.int 2)) (dOp (dMul false) (dCall sp_value_m [] dX0 (dCons (dVar 4) (dCons (dVar 1) (dCons (dVar 6) dNil)))) (dVar 5)))) (dVar 6)) (dgN 5))))) (dRt (dTup (dCons (dVar 1) (dCons (dVar 6) dNil))))))))
def t_fraction_roots : DTS := (dSq (dAs (dOp dIdx (dVar 0) (dUn dNeg (dC (.int 1)))) (dgN 1)) (dSq (dIfS (dTest (dOp dEq (dCB dLen (dCons (dVar 0) dNil)) (dC (.int 2)))) (dRt (dLst false (dCons (dCall sp_ratio [] dX0 (dCons (dUn dNeg (dOp dIdx (dVar 0) (dC (.int 0)))) (dCons (dVar 1) dNil))) dNil))) dNx) (dSq (dAs (dCall sp_usable_prime [] dX0 (dCons (dVar 0) (dCons (dC (.int 3)) dNil))) (dgN 2)) (dSq (dAs (dOp (dMul false) (dC (.int 2)) (dOp (dAdd false) (dVar 1) (dCB dMaxL (dCons (dLc false (diSeq (dVar 0)) (dgN 10) dYes (dCB dAbs (dCons (dVar 10) dNil)) [10]) dNil)))) (dgN 3)) (dSq (dAs (dLst true dNil) (dgN 4)) (dSq (dFor (diR1 (dCons (dVar 2) dNil)) (dgN 5) (dIfS (dTest (dOp dEq (dCall sp_value_m [] dX0 (dCons (dVar 0) (dCons (dVar 5) (dCons (dVar 2) dNil)))) (dC (.int 0)))) (dSq (dAs (dCall sp_lifted_root [] dX0 (dCons (dVar 0) (dCons (dVar 5) (dCons (dVar 2) (dCons (dVar 3) dNil))))) (dgT [(dgN 6), (dgN 7)])) (dSq (dAs (dOp dMod (dOp (dMul false) (dVar 1) (dVar 6)) (dVar 7)) (dgN 8)) (dSq (dAs (dCall sp_ratio [] dX0 (dCons (dIf (dTest (dOp dGt (dOp (dMul false) (dC (.int 2)) (dVar 8)) (dVar 7))) (dOp dSub (dVar 8) (dVar 7)) (dVar 8)) (dCons (dVar 1) dNil))) (dgN 9)) (dIfS (dTest (dOp dEq (dCall sp_sign [] dX0 (dCons (dVar 0) (dCons (dVar 9) dNil))) (dC (.int 0)))) (dEx (dBM "list" dAppend (dVar 4) (dCons (dVar 9) dNil))) dNx)))) dNx)) (dRt (dVar 4))))))))
theorem gcd_bt {a b : Int} {k : Nat} (h : Bt k b) (hb : b ≠ 0) : Bt k (Int.gcd a b : Int) := by
  have h1 : (Int.gcd a b : Int).natAbs ∣ b.natAbs := Int.natAbs_dvd_natAbs.mpr (Int.gcd_dvd_right ..)
  exact Nat.lt_of_le_of_lt (Nat.le_of_dvd (by omega) h1) h
theorem gcd_pos {a b : Int} (hb : b ≠ 0) : 0 < (Int.gcd a b : Int) := by
  have : 0 < Int.gcd a b := Int.gcd_pos_iff.mpr (.inr hb)
  omega
theorem gcd_cut {G u v : Int} (hG : 0 < G) (h : (Int.gcd (G * u) (G * v) : Int) = G) : Int.gcd u v = 1 := by
  rw [Int.gcd_mul_left] at h
  have h2 : G.natAbs * Int.gcd u v = G.natAbs * 1 := by omega
  exact Nat.eq_of_mul_eq_mul_left (by omega) h2
theorem sem_ratio (ds : List D) (M : Mu) (Q : DK) (E : DXK) (h : sp_ratio ds M Q E) : t_ratio (dEnd Q) (dstart 3 ds) M := by
  obtain ⟨p, q, rfl, hq, hpb, hqb, h⟩ := h
  have hg := gcd_pos (a := p) (b := q) (by omega)
  have hgb := gcd_bt (a := p) hqb (by omega)
  unfold t_ratio
  walk_at "go"
  refine ⟨p, q, rfl, ?_⟩
  walk_at "st"
  refine r_if ?_
  walk_at "st"
  refine ⟨fun z => absurd (of_decide_eq_true z) (by omega), fun _ => ?_⟩
  walk_at "st"
  refine ⟨cd_ok (by omega) hgb (by decide), ?_⟩
  walk_at "st"
  refine ⟨cd_ok (by omega) hgb (by decide), ?_⟩
  walk_at "st"
  obtain ⟨u, hu⟩ : (Int.gcd p q : Int) ∣ p := Int.gcd_dvd_left ..
  obtain ⟨v, hv⟩ : (Int.gcd p q : Int) ∣ q := Int.gcd_dvd_right ..
  obtain ⟨G, hG⟩ : ∃ G, G = (Int.gcd p q : Int) := ⟨_, rfl⟩
  rw [← hG] at hu hv hg hgb ⊢
  subst hu hv
  rw [Int.mul_fdiv_cancel_left _ (by omega), Int.mul_fdiv_cancel_left _ (by omega)]
  exact Wq.now (h G u v hg rfl rfl (gcd_cut hg hG.symm))
theorem sem_less_q (ds : List D) (M : Mu) (Q : DK) (E : DXK) (h : sp_less_q ds M Q E) : t_less_q (dEnd Q) (dstart 2 ds) M := by
  obtain ⟨a, b, c, d, rfl, ha, hb, hc, hd, h⟩ := h
  unfold t_less_q frD
  walk_at "go"
  walk_at "sm"
  exact Wq.now h
theorem sem_value_m (ds : List D) (M : Mu) (Q : DK) (E : DXK) (h : sp_value_m ds M Q E) : t_value_m (dEnd Q) (dstart 5 ds) M := by
  obtain ⟨ns, x, n, rfl, hB, hx, hn, hn0, h⟩ := h
  unfold t_value_m
  walk_at "go"
  refine for_ix _ (fun j δ M' => ∃ (v : Int) (s4 : Option D), 0 ≤ v ∧ v < n ∧ M' = M ∧ δ = [some (.tup (iD ns)), some (.int x), some (.int n), some (.int v), s4]) (fun _ _ _ _ => trivial) ?_ ?_ _ _ ⟨0, none, by decide, hn0, rfl, rfl⟩
  · rintro j y δ M' N hy ⟨v, s4, v0, v1, rfl, rfl⟩ hN
    obtain ⟨c, hc, rfl⟩ : ∃ c ∈ ns, y = .int c := by
      have := List.mem_of_getElem? hy
      rw [List.mem_reverse] at this
      obtain ⟨c, hc, e⟩ := List.mem_map.mp this
      exact ⟨c, hc, e.symm⟩
    walk_at "st"
    refine ⟨cm_ok (bt_le hn v0 (by omega)) hx (by decide), ?_⟩
    walk_at "st"
    refine ⟨by omega, ?_⟩
    rw [fmod_pos hn0]
    walk_at "st"
    exact hN _ _ ⟨_, _, Int.emod_nonneg _ (by omega), Int.emod_lt_of_pos _ hn0, rfl, rfl⟩
  · rintro δ M' ⟨v, s4, v0, v1, rfl, rfl⟩
    walk_at "st"
    exact Wq.now (h v v0 v1)
theorem B4.b5 {ns : List Int} (h : B4 ns) : B5 ns := ⟨h.1, fun c hc => bt_up (h.2 c hc) (by decide)⟩
theorem derP_b5 {ns : List Int} (h : Sh ns) (hB : B4 ns) : B5 (derP ns) := by
  obtain ⟨h1, h2, _⟩ := derP_bt h hB
  exact ⟨h2, fun c hc => bt_up (h1 c hc) (by decide)⟩
theorem sem_lifted_root (ds : List D) (M : Mu) (Q : DK) (E : DXK) (h : sp_lifted_root ds M Q E) : t_lifted_root (dEnd Q) (dstart 7 ds) M := by
  obtain ⟨ns, r, p, l, rfl, hS, hB, r0, r1, hp3, hp, hl0, hlb, h⟩ := h
  have hpb : Bt 10 p := by unfold Bt; omega
  unfold t_lifted_root
  walk_at "go"
  refine ⟨ns, rfl, hS, hB, ?_⟩
  walk_at "st"
  refine ⟨derP ns, r, p, rfl, derP_b5 hS hB, bt_up (bt_le hpb r0 (by omega)) (by decide), bt_up hpb (by decide), by omega, fun v v0 v1 => ?_⟩
  walk_at "st"
  refine ⟨v, p, rfl, hp3, hp, ?_⟩
  have hi := invM_rg (a := v) (p := p) (by omega)
  generalize invM v p = w at hi ⊢
  walk_at "st"
  refine r_while (fun k δ M' => ∃ (r w P : Int), 0 ≤ r ∧ r < P ∧ 0 ≤ w ∧ w < P ∧ 3 ≤ P ∧ Bt 1500 P ∧ k = (l + 1 - P).toNat ∧ M' = M ∧ δ = [some (.tup (iD ns)), some (.int r), some (.int p), some (.int l), some (.tup (iD (derP ns))), some (.int w), some (.int P)]) _ ⟨r, w, p, r0, r1, hi.1, hi.2, hp3, bt_up hpb (by decide), rfl, rfl, rfl⟩ ?_
  rintro k δ M' ⟨r, w, P, r0, r1, w0, w1, hP3, hPb, rfl, rfl, rfl⟩
  walk_at "st"
  refine ⟨fun z => ?_, fun z => ?_⟩
  · have z := of_decide_eq_true z
    have hPl : Bt 720 P := bt_le hlb (by omega) z
    walk_at "st"
    refine ⟨cm_ok hPl hPl (by decide), ?_⟩
    have hPP : Bt 1440 (P * P) := bt_mul hPl hPl
    have hPP0 : P + P ≤ P * P := by
      have := Int.mul_le_mul_of_nonneg_right (show 2 ≤ P by omega) (show 0 ≤ P by omega)
      omega
    generalize P * P = P2 at hPP hPP0 ⊢
    walk_at "st"
    refine ⟨ns, r, P2, rfl, hB.b5, bt_up (bt_le hPl r0 (by omega)) (by decide), bt_up hPP (by decide), by omega, fun v v0 v1 => ?_⟩
    have hw : Bt 720 w := bt_le hPl w0 (by omega)
    walk_at "st"
    refine ⟨cm_ok (bt_le hPP v0 (by omega)) hw (by decide), ?_⟩
    walk_at "st"
    refine ⟨by omega, ?_⟩
    rw [fmod_pos (show 0 < P2 by omega)]
    have e0 : 0 ≤ (r - v * w) % P2 := Int.emod_nonneg _ (by omega)
    have e1 : (r - v * w) % P2 < P2 := Int.emod_lt_of_pos _ (by omega)
    generalize (r - v * w) % P2 = r2 at e0 e1 ⊢
    walk_at "st"
    refine ⟨derP ns, r2, P2, rfl, derP_b5 hS hB, bt_up (bt_le hPP e0 (by omega)) (by decide), bt_up hPP (by decide), by omega, fun u u0 u1 => ?_⟩
    have hu : Bt 1440 u := bt_le hPP u0 (by omega)
    walk_at "st"
    refine ⟨cm_ok hu hw (by decide), ?_⟩
    walk_at "st"
    refine ⟨cm_ok hw (bt_sub (bt_lit 2 (by decide)) (bt_mul hu hw)) (by decide), ?_⟩
    walk_at "st"
    refine ⟨by omega, ?_⟩
    rw [fmod_pos (show 0 < P2 by omega)]
    walk_at "st"
    exact ⟨_, by omega, r2, _, P2, e0, e1, Int.emod_nonneg _ (by omega), Int.emod_lt_of_pos _ (by omega), by omega, bt_up hPP (by decide), rfl, by trivial, by trivial⟩
  · walk_at "st"
    exact Wq.now (h r P r0 r1 hPb)
theorem r_maxAbs {M : Mu} {Q : DK} {x : D} {ns : List Int} (e : dseq M x = some (iD (ns.map fun c => (c.natAbs : Int)))) (hne : ns ≠ []) (q : ∀ m : Int, 0 ≤ m → (∃ c ∈ ns, m = (c.natAbs : Int)) → (∀ c ∈ ns, (c.natAbs : Int) ≤ m) → Q (.int m) M) : dMaxL [x] M Q := by
  refine r_maxL e (intsOf_map _) (by rw [List.length_map]; exact List.length_pos_iff.mpr hne) fun m hm hy => ?_
  obtain ⟨c, hc, rfl⟩ := List.mem_map.mp hm
  exact q _ (by omega) ⟨c, hc, rfl⟩ fun d hd => hy _ (List.mem_map.mpr ⟨d, hd, rfl⟩)
theorem sem_fraction_roots (ds : List D) (M : Mu) (Q : DK) (E : DXK) (h : sp_fraction_roots ds M Q E) : t_fraction_roots (dEnd Q) (dstart 11 ds) M := by
  obtain ⟨ns, P, rfl, hS, hB, hN, hu, h⟩ := h
  obtain ⟨hl3, hl8⟩ := hS.len
  obtain ⟨l, hl, hl0⟩ := hS.last
  have hne : ns ≠ [] := fun z => by rw [z] at hl; cases hl
  have hlb := hB.2 l (List.mem_of_getLast? hl)
  unfold t_fraction_roots
  walk_at "go"
  refine r_idxT (iD_last hl) ?_
  walk_at "st"
  refine r_if ?_
  walk_at "st"
  rw [iD_len]
  refine ⟨fun z => absurd (of_decide_eq_true z) (by omega), fun _ => ?_⟩
  walk_at "st"
  refine ⟨ns, P, rfl, hne, hl8, hu, fun hP5 hP => ?_⟩
  walk_at "st"
  refine lc_ints (fun c => (c.natAbs : Int)) ns trivial (by omega) (fun c hc R hR => ?_) ?_
  · simp only [dwipe, List.set]
    walk_at "st"
    exact hR
  walk_at "st"
  refine r_maxAbs rfl hne fun m m0 hm _ => ?_
  have hmb : Bt 700 m := by
    obtain ⟨c, hc, rfl⟩ := hm
    exact bt_abs (hB.2 c hc)
  walk_at "st"
  refine ⟨cm_ok (bt_lit 2 (by decide)) (bt_add hlb hmb) (by decide), ?_⟩
  have hLb : Bt 720 (2 * (l + m)) := by unfold Bt at *; omega
  have hL0 : 0 ≤ 2 * (l + m) := by omega
  generalize 2 * (l + m) = L at hLb hL0 ⊢
  walk_at "st"
  refine r_newT fun f hf => ?_
  walk_at "st"
  refine r_kR1 (by omega) (by omega) ?_
  refine for_rng0 P.toNat (fun j δ M' => ∃ (s5 s6 s7 s8 s9 : Option D), M' = mset M f (.lst []) ∧ δ = [some (.tup (iD ns)), some (.int l), some (.int P), some (.int L), some (.ref f), s5, s6, s7, s8, s9, none]) ?_ ?_ _ _ ⟨none, none, none, none, none, rfl, rfl⟩
  · rintro j δ M' N hj ⟨s5, s6, s7, s8, s9, rfl, rfl⟩ hN'
    have hPb : Bt 10 P := by unfold Bt; omega
    refine r_if ?_
    walk_at "st"
    refine ⟨ns, (j : Int), P, rfl, hB.b5, bt_up (bt_le hPb (by omega) (by omega)) (by decide), bt_up hPb (by decide), by omega, fun v v0 v1 => ?_⟩
    walk_at "st"
    refine ⟨fun _ => ?_, fun _ => ?_⟩
    · walk_at "st"
      refine ⟨ns, (j : Int), P, L, rfl, hS, hB, by omega, by omega, by omega, hP, hL0, hLb, fun r' P' r0 r1 hP' => ?_⟩
      walk_at "st"
      refine ⟨cm_ok hlb (bt_le hP' r0 (by omega)) (by decide), ?_⟩
      walk_at "st"
      refine ⟨by omega, ?_⟩
      rw [fmod_pos (show 0 < P' by omega)]
      have t0 : 0 ≤ l * r' % P' := Int.emod_nonneg _ (by omega)
      have t1 : l * r' % P' < P' := Int.emod_lt_of_pos _ (by omega)
      generalize l * r' % P' = t at t0 t1 ⊢
      have htb := bt_le hP' t0 (by omega)
      walk_at "st"
      refine via (P := fun d M'' => ∃ z : Int, d = .int z ∧ Bt 1502 z ∧ mset M f (.lst []) = M'') (fun Q' hQ' => ?_) ?_
      · refine r_dif ?_
        walk_at "st"
        refine ⟨cm_ok (bt_lit 2 (by decide)) htb (by decide), ?_⟩
        walk_at "st"
        refine ⟨fun _ => ?_, fun _ => ?_⟩
        · walk_at "st"
          exact hQ' _ _ ⟨_, rfl, by unfold Bt at *; omega, rfl⟩
        · walk_at "st"
          exact hQ' _ _ ⟨_, rfl, bt_up htb (by decide), rfl⟩
      rintro _ _ ⟨z, rfl, hzb, rfl⟩
      walk_at "st"
      refine ⟨z, l, rfl, hl0, bt_up hzb (by decide), bt_up hlb (by decide), fun g n' m' hg e1 e2 _ => ?_⟩
      unfold frD
      walk_at "st"
      have m0' : 0 < m' := mul_pos_cancel hg (by omega)
      have hmb' : Bt 700 m' := bt_le hlb (by omega) (by rw [e2]; exact le_mul_self hg (by omega))
      have hnb' : Bt 1502 n' := by
        have : n'.natAbs ≤ z.natAbs := by
          rw [e1, Int.natAbs_mul]
          exact Nat.le_mul_of_pos_left _ (by omega)
        exact Nat.lt_of_le_of_lt this hzb
      refine r_if ?_
      walk_at "st"
      refine ⟨ns, n', m', rfl, hB.b5, bt_up hnb' (by decide), bt_up hmb' (by decide), ?_⟩
      walk_at "st"
      have hno := hN n' m' m0'
      have hsg : sg (hom ns n' m') ≠ 0 := by
        rcases tri (hom ns n' m') with ⟨_, e⟩ | ⟨h0, e⟩ | ⟨_, e⟩
        · rw [e]; decide
        · exact absurd h0 hno
        · rw [e]; decide
      refine ⟨fun z => absurd (of_decide_eq_true z) hsg, fun _ => ?_⟩
      walk_at "st"
      exact hN' _ _ ⟨_, _, _, _, _, rfl, rfl⟩
    · walk_at "st"
      exact hN' _ _ ⟨_, _, _, _, _, rfl, rfl⟩
  · rintro δ M' ⟨s5, s6, s7, s8, s9, rfl, rfl⟩
    walk_at "st"
    exact Wq.frz mset_same (sub_new hf) hf h
end SU

namespace SU
open PySem PySem.Spec PyProof.Rows L2 TL DL
local macro_rules | `(tactic| walk_at "st1") => `(tactic| first
  | with_reducible refine r_sq ?_ | with_reducible refine r_nx ?_ | with_reducible refine r_rt ?_ | with_reducible refine r_rtN ?_ | with_reducible refine r_ex ?_ | with_reducible refine r_as ?_ | with_reducible refine r_bk ?_ | with_reducible refine r_ct ?_
  | ((with_reducible apply r_var); exact rfl) | with_reducible refine r_c ?_ | with_reducible refine r_op ?_ | with_reducible refine r_un ?_ | with_reducible refine r_neg ?_
  | ((with_reducible refine r_dgN rfl ?_); (try simp only [List.set]))
  | with_reducible refine r_dgSub ?_ | with_reducible refine r_dgT rfl ?_ | with_reducible refine r_dga0 ?_ | with_reducible refine r_dga1 ?_ | with_reducible refine r_auS ?_ | ((with_reducible apply r_au); exact rfl)
  | with_reducible refine r_par ?_ | ((with_reducible refine r_kPar rfl ?_); (try simp only [List.set]))
  | with_reducible refine r_addI ?_ | with_reducible refine r_addS ?_ | with_reducible refine r_addT ?_ | with_reducible refine r_addL ?_ | with_reducible refine r_subI ?_ | with_reducible refine r_mulI ?_ | with_reducible refine r_fdiv ?_ | with_reducible refine r_mod ?_ | with_reducible refine r_pow ?_ | with_reducible refine r_shl ?_
  | with_reducible refine r_eqI ?_ | with_reducible refine r_eqS ?_ | with_reducible refine r_eqB ?_ | with_reducible refine r_neI ?_ | with_reducible refine r_neS ?_ | with_reducible refine r_neB ?_ | with_reducible refine r_ltI ?_ | with_reducible refine r_gtI ?_ | with_reducible refine r_leI ?_ | with_reducible refine r_geI ?_ | with_reducible refine r_isN ?_ | with_reducible refine r_notN ?_ | with_reducible refine r_inS ?_
  | with_reducible refine r_test ?_ | with_reducible refine r_kB ?_ | with_reducible refine r_tru ?_ | with_reducible refine r_kTb ?_ | with_reducible refine r_kTi ?_ | with_reducible refine r_kTn ?_ | with_reducible refine r_kTl ?_ | with_reducible refine r_kTt ?_ | with_reducible refine r_kTs ?_ | with_reducible refine r_not ?_ | with_reducible refine r_notV ?_ | with_reducible refine r_yes ?_
  | with_reducible refine r_nil ?_ | with_reducible refine r_cons ?_ | with_reducible refine r_tup ?_ | with_reducible refine r_lst ?_ | with_reducible refine r_newF ?_ | with_reducible refine r_cb ?_
  | with_reducible refine r_lenS ?_ | with_reducible refine r_lenL ?_ | with_reducible refine r_lenT ?_ | with_reducible refine r_lenSrc ?_ | with_reducible refine r_abs ?_ | with_reducible refine r_min2 ?_ | with_reducible refine r_max2 ?_ | with_reducible refine r_intI ?_ | with_reducible refine r_str ?_ | with_reducible refine r_tupT ?_ | with_reducible refine r_tupL ?_ | with_reducible refine r_divmod ?_
  | with_reducible refine r_sl ?_ | with_reducible refine r_noP ?_ | with_reducible refine r_part ?_ | with_reducible refine r_kP ?_ | with_reducible refine r_slS ?_ | with_reducible refine r_slT ?_ | with_reducible refine r_slL ?_ | with_reducible refine r_slSrc ?_
  | with_reducible refine r_bm ?_ | with_reducible refine r_tyS ?_ | with_reducible refine r_starts ?_ | with_reducible refine r_count ?_ | with_reducible refine r_call ?_ | with_reducible refine r_for ?_ | with_reducible refine r_seq ?_ | with_reducible refine r_kIt ?_ | with_reducible refine r_kIl ?_ | with_reducible refine r_kIs ?_ | with_reducible refine r_kIsrc ?_ | with_reducible refine r_r1 ?_ | with_reducible refine r_r2 ?_ | with_reducible refine r_lc ?_
  | with_reducible refine lit0 ?_ | with_reducible refine lit1 ?_ | with_reducible refine lit2 ?_ | with_reducible refine lit3 ?_ | with_reducible refine lit4 ?_ | with_reducible refine lit5 ?_ | with_reducible refine lit6 ?_ | with_reducible refine lit7 ?_
  | with_reducible refine r_callX ?_ | with_reducible refine r_callE ?_ | with_reducible refine r_try ?_ | with_reducible refine r_isE ?_ | with_reducible refine r_fld ?_ | with_reducible refine r_excK ?_ | with_reducible refine r_raise ?_
  | with_reducible refine r_subB ?_ | with_reducible refine r_r3 ?_ | with_reducible refine r_rev ?_ | with_reducible refine r_kRv ?_
  | fail)
local macro_rules | `(tactic| walk_at "st") => `(tactic| repeat (first | walk_at "st1" | dsimp only))
local macro_rules | `(tactic| walk_at "go") => `(tactic| (simp only [dstart, dEnd, List.map_cons, List.map_nil, List.length_cons, List.length_nil, Nat.reduceAdd, Nat.reduceSub, Nat.zero_add, List.replicate, List.cons_append, List.nil_append]; walk_at "st"))

local macro_rules | `(tactic| walk_at "bt") => `(tactic| first | with_reducible assumption | ((with_reducible apply bt_mul) <;> walk_at "bt") | ((with_reducible apply bt_sub) <;> walk_at "bt") | ((with_reducible apply bt_add) <;> walk_at "bt") | ((with_reducible apply bt_neg) <;> walk_at "bt") | ((with_reducible apply bt_abs) <;> walk_at "bt") | ((with_reducible apply bt_fdiv) <;> walk_at "bt") | exact bt_lit 64 (by decide +kernel))
local macro_rules | `(tactic| walk_at "cm") => `(tactic| ((with_reducible refine And.intro ?_ ?_); (focus ((with_reducible apply cm_ok) <;> first | decide | walk_at "bt"))))
local macro_rules | `(tactic| walk_at "sm") => `(tactic| repeat (first | walk_at "st1" | ((with_reducible apply r_idxT); exact rfl) | ((with_reducible apply r_idxL); exact rfl) | dsimp only | walk_at "cm"))

def radL (S T : Int) : Nat → List Int
  | 3 => [-S, 0, 0, T]
  | 5 => [-S, 0, 0, 0, 0, T]
  | 7 => [-S, 0, 0, 0, 0, 0, 0, T]
  | _ => []
structure RdOk (S T : Int) (k : Nat) : Prop where
  hT : 0 < T
  hS : S ≠ 0
  hk : k = 3 ∨ k = 5 ∨ k = 7
theorem RdOk.sh {S T : Int} {k : Nat} (h : RdOk S T k) : Sh (radL S T k) := by
  rcases h.hk with rfl | rfl | rfl
  · exact .r3 h.hT h.hS
  · exact .r5 h.hT h.hS
  · exact .r7 h.hT h.hS
theorem hom_rad {S T : Int} {k : Nat} (h : RdOk S T k) (n m : Int) : hom (radL S T k) n m = T * n ^ k - S * m ^ k := by
  rcases h.hk with rfl | rfl | rfl
  · simp only [radL, hom, List.reverse_cons, List.reverse_nil, List.nil_append, List.cons_append, List.foldl_cons, List.foldl_nil, homS]
    grind
  · simp only [radL, hom, List.reverse_cons, List.reverse_nil, List.nil_append, List.cons_append, List.foldl_cons, List.foldl_nil, homS]
    grind
  · simp only [radL, hom, List.reverse_cons, List.reverse_nil, List.nil_append, List.cons_append, List.foldl_cons, List.foldl_nil, homS]
    grind
theorem hom_der {S T : Int} {k : Nat} (h : RdOk S T k) (n m : Int) : hom (derP (radL S T k)) n m = T * k * n ^ (k - 1) := by
  rcases h.hk with rfl | rfl | rfl
  · simp only [radL, derP, hom, List.reverse_cons, List.reverse_nil, List.nil_append, List.cons_append, List.foldl_cons, List.foldl_nil, homS]
    grind
  · simp only [radL, derP, hom, List.reverse_cons, List.reverse_nil, List.nil_append, List.cons_append, List.foldl_cons, List.foldl_nil, homS]
    grind
  · simp only [radL, derP, hom, List.reverse_cons, List.reverse_nil, List.nil_append, List.cons_append, List.foldl_cons, List.foldl_nil, homS]
    grind
theorem hom1 (c n m : Int) : hom [c] n m = c := by
  simp [hom, homS]
theorem rem_rad {S T : Int} {k : Nat} (h : RdOk S T k) : remS (radL S T k) = -(sg S) := by
  rcases h.hk with rfl | rfl | rfl <;> exact sg_op S
theorem mem_rad {S T : Int} {k : Nat} (h : RdOk S T k) : -S ∈ radL S T k ∧ (radL S T k).getLast? = some T ∧ radL S T k ≠ [] := by
  rcases h.hk with rfl | rfl | rfl <;> simp [radL]
def sp_bound_of : DSp := fun ds M Q _ => ∃ (ns : List Int) (l : Int), ds = [.tup (iD ns)] ∧ B4 ns ∧ ns.getLast? = some l ∧ 0 < l ∧ ∀ b, 0 < b → (∀ c ∈ ns, (c.natAbs : Int) + l ≤ b * l) → Bt 720 b → Q (.int b) M
def spanD (b : Int) : D := .tup [frD (-b) 1, frD b 1]
def sp_parted : DSp := fun ds M Q _ => ∃ (S T : Int) (k : Nat), ds = [.tup (iD (radL S T k))] ∧ RdOk S T k ∧ B4 (radL S T k) ∧ ∀ b, 0 < b → (S.natAbs : Int) < T * b → Bt 720 b → Q (.lst [spanD b]) M
def sp_span_round : DSp := fun ds M Q _ => ∃ (x y : D), ds = [x, y, .lst []] ∧ Q (.tup [x, y]) M
def sp_spans : DSp := fun ds M Q _ => ∃ (S T : Int) (k : Nat) (P : Int), ds = [.tup (iD (radL S T k))] ∧ RdOk S T k ∧ B4 (radL S T k) ∧ Prim (radL S T k) ∧ NoQ (radL S T k) ∧ upM (radL S T k) 200 5 = some P ∧ ∀ b, 0 < b → (S.natAbs : Int) < T * b → Bt 720 b → Q (.lst [spanD b]) M
def sp_between : DSp := fun _ _ _ _ => False
def sp_middle_q : DSp := fun _ _ _ _ => False
def t_bound_of : DTS := (dSq (dAs (dCB dAbs (dCons (dOp dIdx (dVar 0) (dUn dNeg (dC (.int 1)))) dNil)) (dgN 1)) (dSq (dAs (dCB dMaxL (dCons (dLc false (diSeq (dVar 0)) (dgN 4) dYes (dCB dAbs (dCons (dVar 4) dNil)) [4]) dNil)) (dgN 2)) (dSq (dAs (dC (.int 1)) (dgN 3)) (dSq (dWhile (dTest (dOp dLt (dOp (dMul false) (dVar 3) (dVar 1)) (dOp (dAdd false) (dVar 2) (dVar 1)))) (dAs (dOp (dMul false) (dVar 3) (dC (.int 2))) (dgN 3))) (dRt (dVar 3))))))
def t_parted : DTS := (dSq (dAs (dCall sp_chain_of [] dX0 (dCons (dVar 0) dNil)) (dgN 1)) (dSq (dAs (dCall sp_bound_of [] dX0 (dCons (dVar 0) dNil)) (dgN 2)) (dSq (dAs (dTup (dCons (dUn dNeg (dVar 2)) (dCons (dC (.int 1)) dNil))) (dgN 3)) (dSq (dAs (dTup (dCons (dVar 2) (dCons (dC (.int 1)) dNil))) (dgN 4)) (dSq (dAs (dLst true (dCons (dTup (dCons (dVar 3) (dCons (dCall sp_changes_at [] dX0 (dCons (dVar 1) (dCons (dVar 3) dNil))) (dCons (dVar 4) (dCons (dCall sp_changes_at [] dX0 (dCons (dVar 1) (dCons (dVar 4) dNil))) dNil))))) dNil)) (dgN 5)) (dSq (dAs (dLst true dNil) (dgN 6)) (dSq (dWhile (dTest (dOp dGt (dCB dLen (dCons (dVar 5) dNil)) (dC (.int 0)))) (dSq (dAs (dBM "list" dPop (dVar 5) dNil) (dgT [(dgN 3), (dgN 7), (dgN 4), (dgN 8)])) (dIfS (dTest (dOp dEq (dOp dSub (dVar 7) (dVar 8)) (dC (.int 1)))) (dEx (dBM "list" dAppend (dVar 6) (dCons (dTup (dCons (dVar 3) (dCons (dVar 4) dNil))) dNil))) (dIfS (dTest (dOp dGt (dOp dSub (dVar 7) (dVar 8)) (dC (.int 1)))) (dSq (dAs (dCall sp_between [] dX0 (dCons (dVar 0) (dCons (dVar 3) (dCons (dVar 4) dNil)))) (dgN 9)) (dSq (dAs (dCall sp_changes_at [] dX0 (dCons (dVar 1) (dCons (dVar 9) dNil))) (dgN 10)) (dSq (dEx (dBM "list" dAppend (dVar 5) (dCons (dTup (dCons (dVar 9) (dCons (dVar 10) (dCons (dVar 4) (dCons (dVar 8) dNil))))) dNil))) (dEx (dBM "list" dAppend (dVar 5) (dCons (dTup (dCons (dVar 3) (dCons (dVar 7) (dCons (dVar 9) (dCons (dVar 10) dNil))))) dNil)))))) dNx)))) (dRt (dVar 6)))))))))
def t_span_round : DTS := (dSq (dFor (diSeq (dVar 2)) (dgN 3) (dIfS (dAnd (dTru (dCall sp_less_q [] dX0 (dCons (dVar 0) (dCons (dVar 3) dNil)))) (dTru (dCall sp_less_q [] dX0 (dCons (dVar 3) (dCons (dVar 1) dNil))))) (dRt (dTup (dCons (dVar 3) (dCons (dVar 3) dNil)))) dNx)) (dRt (dTup (dCons (dVar 0) (dCons (dVar 1) dNil)))))
def t_spans : DTS := (dSq (dAs (dCall sp_free [] dX0 (dCons (dVar 0) dNil)) (dgN 1)) (dSq (dIfS (dTest (dOp dLt (dCB dLen (dCons (dVar 1) dNil)) (dC (.int 2)))) (dRt (dLst false dNil)) dNx) (dSq (dAs (dCall sp_fraction_roots [] dX0 (dCons (dVar 1) dNil)) (dgN 2)) (dSq (dIfS (dTest (dOp dEq (dCB dLen (dCons (dVar 1) dNil)) (dC (.int 2)))) (dRt (dLst false (dCons (dTup (dCons (dOp dIdx (dVar 2) (dC (.int 0))) (dCons (dOp dIdx (dVar 2) (dC (.int 0))) dNil))) dNil))) dNx) (dRt (dLc false (diSeq (dCall sp_parted [] dX0 (dCons (dVar 1) dNil))) (dgT [(dgN 3), (dgN 4)]) dYes (dCall sp_span_round [] dX0 (dCons (dVar 3) (dCons (dVar 4) (dCons (dVar 2) dNil)))) [3, 4]))))))
def t_between : DTS := (dSq (dAs (dCall sp_middle_q [] dX0 (dCons (dVar 1) (dCons (dVar 2) dNil))) (dgN 3)) (dSq (dWhile (dTest (dOp dEq (dCall sp_sign [] dX0 (dCons (dVar 0) (dCons (dVar 3) dNil))) (dC (.int 0)))) (dAs (dCall sp_middle_q [] dX0 (dCons (dVar 1) (dCons (dVar 3) dNil))) (dgN 3))) (dRt (dVar 3))))
def t_middle_q : DTS := (dRt (dCall sp_ratio [] dX0 (dCons (dOp (dAdd false) (dOp (dMul false) (dOp dIdx (dVar 0) (dC (.int 0))) (dOp dIdx (dVar 1) (dC (.int 1)))) (dOp (dMul false) (dOp dIdx (dVar 1) (dC (.int 0))) (dOp dIdx (dVar 0) (dC (.int 1))))) (dCons (dOp (dMul false) (dOp (dMul false) (dC (.int 2)) (dOp dIdx (dVar 0) (dC (.int 1)))) (dOp dIdx (dVar 1) (dC (.int 1)))) dNil))))
theorem sem_between (ds : List D) (M : Mu) (Q : DK) (E : DXK) (h : sp_between ds M Q E) : t_between (dEnd Q) (dstart 4 ds) M := h.elim
theorem sem_middle_q (ds : List D) (M : Mu) (Q : DK) (E : DXK) (h : sp_middle_q ds M Q E) : t_middle_q (dEnd Q) (dstart 2 ds) M := h.elim
theorem sem_bound_of (ds : List D) (M : Mu) (Q : DK) (E : DXK) (h : sp_bound_of ds M Q E) : t_bound_of (dEnd Q) (dstart 5 ds) M := by
  obtain ⟨ns, l, rfl, hB, hl, hl0, h⟩ := h
  have h8 := hB.1
  have hne : ns ≠ [] := fun z => by rw [z] at hl; cases hl
  have hlb := hB.2 l (List.mem_of_getLast? hl)
  unfold t_bound_of
  walk_at "go"
  refine r_idxT (iD_last hl) ?_
  walk_at "st"
  rw [show (l.natAbs : Int) = l by omega]
  refine lc_ints (fun c => (c.natAbs : Int)) ns trivial (by omega) (fun c hc R hR => ?_) ?_
  · simp only [dwipe, List.set]
    walk_at "st"
    exact hR
  walk_at "st"
  refine r_maxAbs rfl hne fun m m0 hm hall => ?_
  have hmb : Bt 700 m := by
    obtain ⟨c, hc, rfl⟩ := hm
    exact bt_abs (hB.2 c hc)
  walk_at "st"
  refine r_while (fun k δ M' => ∃ (b : Int), 0 < b ∧ b ≤ 2 * (m + l) ∧ k = (m + l - b).toNat ∧ M' = M ∧ δ = [some (.tup (iD ns)), some (.int l), some (.int m), some (.int b), none]) _ ⟨1, by decide, by omega, rfl, rfl, rfl⟩ ?_
  rintro k δ M' ⟨b, b0, b1, rfl, rfl, rfl⟩
  have hbb : Bt 720 b := by unfold Bt at *; omega
  walk_at "st"
  refine ⟨cm_ok hbb hlb (by decide), ?_⟩
  walk_at "st"
  refine ⟨fun z => ?_, fun z => ?_⟩
  · have z := of_decide_eq_true z
    have hlt : b < m + l := by
      have := Int.mul_le_mul_of_nonneg_left (show 1 ≤ l by omega) (Int.le_of_lt b0)
      omega
    walk_at "st"
    refine ⟨cm_ok hbb (bt_lit 2 (by decide)) (by decide), ?_⟩
    walk_at "st"
    exact ⟨_, by omega, b * 2, by omega, by omega, rfl, by trivial, by trivial⟩
  · have z := of_decide_eq_false z
    walk_at "st"
    exact Wq.now (h b b0 (fun c hc => by have := hall c hc; omega) hbb)
theorem chg3a (e : Int) (h : e = 1 ∨ e = -1) : chg [-1, 1, e] - chg [1, 1, e] = 1 := by
  rcases h with rfl | rfl <;> decide
theorem pow_ge {b : Int} (h : 0 < b) : ∀ k : Nat, 0 < k → b ≤ b ^ k
  | k + 1, _ => by
    rw [Int.pow_succ]
    have h1 : 0 < b ^ k := Int.pow_pos h
    have := Int.mul_le_mul_of_nonneg_right (show 1 ≤ b ^ k by omega) (Int.le_of_lt h)
    omega
theorem neg_pow_odd (b : Int) {k : Nat} (h : k = 3 ∨ k = 5 ∨ k = 7) : (-b) ^ k = -(b ^ k) := by
  rcases h with rfl | rfl | rfl <;> grind
theorem neg_pow_even (b : Int) {k : Nat} (h : k = 3 ∨ k = 5 ∨ k = 7) : (-b) ^ (k - 1) = b ^ (k - 1) := by
  rcases h with rfl | rfl | rfl <;> grind
theorem sg_unit {S : Int} (h : S ≠ 0) : sg S = 1 ∨ sg S = -1 := by
  rcases Int.lt_or_gt_of_ne h with h | h
  · exact .inr (sg_neg h)
  · exact .inl (sg_pos h)
theorem rad_signs {S T : Int} {k : Nat} (h : RdOk S T k) {b : Int} (b0 : 0 < b) (hb : (S.natAbs : Int) < T * b) :
    ((chainP (radL S T k)).map fun p => sg (hom p (-b) 1)) = [-1, 1, sg S] ∧ ((chainP (radL S T k)).map fun p => sg (hom p b 1)) = [1, 1, sg S] := by
  have hk := h.hk
  have hT := h.hT
  have hk1 : 0 < k := by omega
  have h1 := Int.mul_le_mul_of_nonneg_left (pow_ge b0 k hk1) (Int.le_of_lt hT)
  have h2 : 0 < b ^ (k - 1) := Int.pow_pos b0
  have h3 : 0 < T * (k : Int) * b ^ (k - 1) := Int.mul_pos (Int.mul_pos hT (by omega)) h2
  unfold chainP
  simp only [List.map_cons, List.map_nil, hom_rad h, hom_der h, hom1, rem_rad h, Int.neg_neg, Int.one_pow, neg_pow_odd b hk, neg_pow_even b hk]
  have e1 : T * -(b ^ k) = -(T * b ^ k) := Int.mul_neg ..
  have e3 : sg (-(sg S)) = -(sg S) := by rcases sg_unit h.hS with e | e <;> rw [e] <;> rfl
  have e4 : sg (sg S) = sg S := by rcases sg_unit h.hS with e | e <;> rw [e] <;> rfl
  rw [e1, sg_neg (show -(T * b ^ k) - S * 1 < 0 by omega), sg_pos h3, sg_pos (show 0 < T * b ^ k - S * 1 by omega), e4]
  exact ⟨rfl, rfl⟩
theorem chain_bt {ns : List Int} (h : Sh ns) (hB : B4 ns) : (chainP ns).length ≤ 8 ∧ ∀ p ∈ chainP ns, p.length ≤ 8 ∧ ∀ c ∈ p, Bt 2000 c := by
  refine ⟨by simp [chainP], fun p hp => ?_⟩
  simp only [chainP, List.mem_cons, List.not_mem_nil, or_false] at hp
  rcases hp with rfl | rfl | rfl
  · exact hB.b5
  · exact derP_b5 h hB
  · refine ⟨by simp, fun c hc => ?_⟩
    rw [List.mem_singleton.mp hc]
    exact bt_up (bt_neg h.rem.1) (by decide)
theorem sem_parted (ds : List D) (M : Mu) (Q : DK) (E : DXK) (h : sp_parted ds M Q E) : t_parted (dEnd Q) (dstart 11 ds) M := by
  obtain ⟨S, T, k, rfl, hR, hB, h⟩ := h
  have hS := hR.sh
  obtain ⟨hm1, hm2, hm3⟩ := mem_rad hR
  obtain ⟨hc1, hc2⟩ := chain_bt hS hB
  unfold t_parted
  walk_at "go"
  refine ⟨_, rfl, hS, hB, ?_⟩
  walk_at "st"
  refine ⟨_, T, rfl, hB, hm2, hR.hT, fun b b0 hb hbb => ?_⟩
  have hSb : (S.natAbs : Int) < T * b := by
    have := hb _ hm1
    have := hR.hT
    have e : b * T = T * b := Int.mul_comm ..
    omega
  obtain ⟨sg1, sg2⟩ := rad_signs hR b0 hSb
  walk_at "st"
  refine ⟨_, -b, 1, rfl, hc1, hc2, bt_up (bt_neg hbb) (by decide), bt_up (bt_lit 1 (by decide)) (by decide), ?_⟩
  rw [sg1]
  walk_at "st"
  refine ⟨_, b, 1, rfl, hc1, hc2, bt_up hbb (by decide), bt_up (bt_lit 1 (by decide)) (by decide), ?_⟩
  rw [sg2]
  have hdiff := chg3a (sg S) (sg_unit hR.hS)
  generalize chg [-1, 1, sg S] = c1 at hdiff ⊢
  generalize chg [1, 1, sg S] = c2 at hdiff ⊢
  walk_at "st"
  refine r_newT fun q hq => ?_
  walk_at "st"
  refine r_newT fun f hf => ?_
  have hfq : f ≠ q := fun z => by rw [z, mset_same] at hf; cases hf
  have hqf : q ≠ f := fun z => hfq z.symm
  have hMf : M f = none := by rw [mset_ne hfq] at hf; exact hf
  walk_at "st"
  refine r_while (fun k' δ M' => ∃ (L F : List D) (s3 s4 s7 s8 : Option D), ((k' = 1 ∧ L = [D.tup [frD (-b) 1, .int c1, frD b 1, .int c2]] ∧ F = []) ∨ (k' = 0 ∧ L = [] ∧ F = [spanD b])) ∧ DL.Sub M M' ∧ M' q = some (.lst L) ∧ M' f = some (.lst F) ∧ δ = [some (.tup (iD (radL S T k))), some (.lst (polys (chainP (radL S T k)))), some (.int b), s3, s4, some (.ref q), some (.ref f), s7, s8, none, none]) 1
    ⟨_, _, _, _, _, _, .inl ⟨rfl, rfl, rfl⟩, sub_upd (sub_new hq) hMf, by rw [mset_ne hqf, mset_same]; rfl, mset_same, rfl⟩ ?_
  rintro k' δ M' ⟨L, F, s3, s4, s7, s8, hk, hs, hLq, hFf, rfl⟩
  walk_at "st"
  refine r_lenR hLq ?_
  walk_at "st"
  rcases hk with ⟨rfl, rfl, rfl⟩ | ⟨rfl, rfl, rfl⟩
  · refine ⟨fun _ => ?_, fun z => absurd (of_decide_eq_false z) (by simp)⟩
    walk_at "st"
    refine r_tyR hLq ?_
    walk_at "st"
    refine r_popS (es := []) hLq ?_
    unfold frD
    walk_at "st"
    refine r_if ?_
    walk_at "st"
    refine ⟨fun _ => ?_, fun z => absurd hdiff (of_decide_eq_false z)⟩
    walk_at "st"
    have hFf2 : mset M' q (.lst []) f = some (.lst []) := by rw [mset_ne hfq]; exact hFf
    refine r_tyR hFf2 ?_
    walk_at "st"
    refine r_append hFf2 (by rw [List.length_nil]; exact szlt (by decide)) ?_
    walk_at "st"
    refine ⟨0, by decide, [], [spanD b], _, _, _, _, .inr ⟨rfl, rfl, rfl⟩, sub_upd (sub_upd hs hq) hMf, by rw [mset_ne hqf, mset_same], mset_same, rfl⟩
  · refine ⟨fun z => absurd (of_decide_eq_true z) (by simp), fun _ => ?_⟩
    walk_at "st"
    exact Wq.frz hFf hs hMf (h b b0 hSb hbb)
theorem sem_span_round (ds : List D) (M : Mu) (Q : DK) (E : DXK) (h : sp_span_round ds M Q E) : t_span_round (dEnd Q) (dstart 4 ds) M := by
  obtain ⟨x, y, rfl, h⟩ := h
  unfold t_span_round
  walk_at "go"
  refine ⟨trivial, ?_⟩
  walk_at "st"
  exact Wq.now h
theorem sem_spans (ds : List D) (M : Mu) (Q : DK) (E : DXK) (h : sp_spans ds M Q E) : t_spans (dEnd Q) (dstart 5 ds) M := by
  obtain ⟨S, T, k, P, rfl, hR, hB, hP, hN, hu, h⟩ := h
  have hS := hR.sh
  obtain ⟨hl3, hl8⟩ := hS.len
  unfold t_spans
  walk_at "go"
  refine ⟨_, rfl, hS, hB, hP, ?_⟩
  walk_at "st"
  refine r_if ?_
  walk_at "st"
  rw [iD_len]
  refine ⟨fun z => absurd (of_decide_eq_true z) (by omega), fun _ => ?_⟩
  walk_at "st"
  refine ⟨_, P, rfl, hS, hB, hN, hu, ?_⟩
  walk_at "st"
  refine r_if ?_
  walk_at "st"
  rw [iD_len]
  refine ⟨fun z => absurd (of_decide_eq_true z) (by omega), fun _ => ?_⟩
  walk_at "st"
  refine ⟨S, T, k, rfl, hR, hB, fun b b0 hb hbb => ?_⟩
  refine r_kIl ?_
  refine ⟨trivial, ?_⟩
  unfold spanD
  simp only [dwipe, List.set]
  walk_at "st"
  refine ⟨_, _, rfl, ?_⟩
  refine ⟨by rw [List.length_nil]; exact szlt (by decide), trivial, ?_⟩
  walk_at "st"
  exact Wq.now (h b b0 hb hbb)
end SU

set_option exponentiation.threshold 5000
namespace SU
open PySem PySem.Spec PyProof.Rows L2 TL DL
local macro_rules | `(tactic| walk_at "st1") => `(tactic| first
  | with_reducible refine r_sq ?_ | with_reducible refine r_nx ?_ | with_reducible refine r_rt ?_ | with_reducible refine r_rtN ?_ | with_reducible refine r_ex ?_ | with_reducible refine r_as ?_ | with_reducible refine r_bk ?_ | with_reducible refine r_ct ?_
  | ((with_reducible apply r_var); exact rfl) | with_reducible refine r_c ?_ | with_reducible refine r_op ?_ | with_reducible refine r_un ?_ | with_reducible refine r_neg ?_
  | ((with_reducible refine r_dgN rfl ?_); (try simp only [List.set]))
  | with_reducible refine r_dgSub ?_ | with_reducible refine r_dgT rfl ?_ | with_reducible refine r_dga0 ?_ | with_reducible refine r_dga1 ?_ | with_reducible refine r_auS ?_ | ((with_reducible apply r_au); exact rfl)
  | with_reducible refine r_par ?_ | ((with_reducible refine r_kPar rfl ?_); (try simp only [List.set]))
  | with_reducible refine r_addI ?_ | with_reducible refine r_addS ?_ | with_reducible refine r_addT ?_ | with_reducible refine r_addL ?_ | with_reducible refine r_subI ?_ | with_reducible refine r_mulI ?_ | with_reducible refine r_fdiv ?_ | with_reducible refine r_mod ?_ | with_reducible refine r_pow ?_ | with_reducible refine r_shl ?_
  | with_reducible refine r_eqI ?_ | with_reducible refine r_eqS ?_ | with_reducible refine r_eqB ?_ | with_reducible refine r_neI ?_ | with_reducible refine r_neS ?_ | with_reducible refine r_neB ?_ | with_reducible refine r_ltI ?_ | with_reducible refine r_gtI ?_ | with_reducible refine r_leI ?_ | with_reducible refine r_geI ?_ | with_reducible refine r_isN ?_ | with_reducible refine r_notN ?_ | with_reducible refine r_inS ?_
  | with_reducible refine r_test ?_ | with_reducible refine r_kB ?_ | with_reducible refine r_tru ?_ | with_reducible refine r_kTb ?_ | with_reducible refine r_kTi ?_ | with_reducible refine r_kTn ?_ | with_reducible refine r_kTl ?_ | with_reducible refine r_kTt ?_ | with_reducible refine r_kTs ?_ | with_reducible refine r_not ?_ | with_reducible refine r_notV ?_ | with_reducible refine r_yes ?_
  | with_reducible refine r_nil ?_ | with_reducible refine r_cons ?_ | with_reducible refine r_tup ?_ | with_reducible refine r_lst ?_ | with_reducible refine r_newF ?_ | with_reducible refine r_cb ?_
  | with_reducible refine r_lenS ?_ | with_reducible refine r_lenL ?_ | with_reducible refine r_lenT ?_ | with_reducible refine r_lenSrc ?_ | with_reducible refine r_abs ?_ | with_reducible refine r_min2 ?_ | with_reducible refine r_max2 ?_ | with_reducible refine r_intI ?_ | with_reducible refine r_str ?_ | with_reducible refine r_tupT ?_ | with_reducible refine r_tupL ?_ | with_reducible refine r_divmod ?_
  | with_reducible refine r_sl ?_ | with_reducible refine r_noP ?_ | with_reducible refine r_part ?_ | with_reducible refine r_kP ?_ | with_reducible refine r_slS ?_ | with_reducible refine r_slT ?_ | with_reducible refine r_slL ?_ | with_reducible refine r_slSrc ?_
  | with_reducible refine r_bm ?_ | with_reducible refine r_tyS ?_ | with_reducible refine r_starts ?_ | with_reducible refine r_count ?_ | with_reducible refine r_call ?_ | with_reducible refine r_for ?_ | with_reducible refine r_seq ?_ | with_reducible refine r_kIt ?_ | with_reducible refine r_kIl ?_ | with_reducible refine r_kIs ?_ | with_reducible refine r_kIsrc ?_ | with_reducible refine r_r1 ?_ | with_reducible refine r_r2 ?_ | with_reducible refine r_lc ?_
  | with_reducible refine lit0 ?_ | with_reducible refine lit1 ?_ | with_reducible refine lit2 ?_ | with_reducible refine lit3 ?_ | with_reducible refine lit4 ?_ | with_reducible refine lit5 ?_ | with_reducible refine lit6 ?_ | with_reducible refine lit7 ?_
  | with_reducible refine r_callX ?_ | with_reducible refine r_callE ?_ | with_reducible refine r_try ?_ | with_reducible refine r_isE ?_ | with_reducible refine r_fld ?_ | with_reducible refine r_excK ?_ | with_reducible refine r_raise ?_
  | with_reducible refine r_subB ?_ | with_reducible refine r_r3 ?_ | with_reducible refine r_rev ?_ | with_reducible refine r_kRv ?_
  | fail)
local macro_rules | `(tactic| walk_at "st") => `(tactic| repeat (first | walk_at "st1" | dsimp only))
local macro_rules | `(tactic| walk_at "go") => `(tactic| (simp only [dstart, dEnd, List.map_cons, List.map_nil, List.length_cons, List.length_nil, Nat.reduceAdd, Nat.reduceSub, Nat.zero_add, List.replicate, List.cons_append, List.nil_append]; walk_at "st"))

local macro_rules | `(tactic| walk_at "bt") => `(tactic| first | with_reducible assumption | ((with_reducible apply bt_mul) <;> walk_at "bt") | ((with_reducible apply bt_sub) <;> walk_at "bt") | ((with_reducible apply bt_add) <;> walk_at "bt") | ((with_reducible apply bt_neg) <;> walk_at "bt") | ((with_reducible apply bt_abs) <;> walk_at "bt") | ((with_reducible apply bt_fdiv) <;> walk_at "bt") | exact bt_lit 64 (by decide +kernel))
local macro_rules | `(tactic| walk_at "cm") => `(tactic| ((with_reducible refine And.intro ?_ ?_); (focus ((with_reducible apply cm_ok) <;> first | decide | walk_at "bt"))))
local macro_rules | `(tactic| walk_at "sm") => `(tactic| repeat (first | walk_at "st1" | ((with_reducible apply r_idxT); exact rfl) | ((with_reducible apply r_idxL); exact rfl) | dsimp only | walk_at "cm"))

/-! ### odd powers -/
def Odd' (k : Nat) : Prop := k = 3 ∨ k = 5 ∨ k = 7
theorem pow_lt_nn {a b : Int} {k : Nat} (ha : 0 ≤ a) (h : a < b) (hk : k ≠ 0) : a ^ k < b ^ k := by
  obtain ⟨x, rfl⟩ := Int.eq_ofNat_of_zero_le ha
  obtain ⟨y, rfl⟩ := Int.eq_ofNat_of_zero_le (show 0 ≤ b by omega)
  rw [← Int.natCast_pow, ← Int.natCast_pow]
  have := Nat.pow_lt_pow_left (show x < y by omega) hk
  omega
theorem pow_nn {a : Int} (ha : 0 ≤ a) (k : Nat) : 0 ≤ a ^ k := Int.pow_nonneg ha
theorem odd_lt {a b : Int} {k : Nat} (hk : Odd' k) (h : a < b) : a ^ k < b ^ k := by
  have hk0 : k ≠ 0 := by rcases hk with rfl | rfl | rfl <;> decide
  rcases Int.lt_or_le a 0 with h1 | h1
  · have e1 : (-a) ^ k = -(a ^ k) := neg_pow_odd a hk
    rcases Int.lt_or_le b 0 with h2 | h2
    · have e2 : (-b) ^ k = -(b ^ k) := neg_pow_odd b hk
      have := pow_lt_nn (a := -b) (b := -a) (k := k) (by omega) (by omega) hk0
      omega
    · have h3 : 0 < (-a) ^ k := Int.pow_pos (by omega)
      have := pow_nn h2 k
      omega
  · exact pow_lt_nn h1 h hk0
/-- the k-th root of S / T -/
def cR (S T : Int) (k : Nat) : Int → Int → Int := fun n m => sg (S * m ^ k - T * n ^ k)
theorem cutR {S T : Int} {k : Nat} (hT : 0 < T) (hk : Odd' k) : Cut (cR S T k) where
  tri n m _ := by unfold cR; rcases tri (S * m ^ k - T * n ^ k) with ⟨_, e⟩ | ⟨_, e⟩ | ⟨_, e⟩ <;> omega
  mono n m n' m' hm hm' h h0 := by
    unfold cR at *
    refine sg_pos ?_
    have h1 : 0 ≤ S * m' ^ k - T * n' ^ k := (sg_nn _).mp h0
    have h2 := odd_lt hk h
    rw [Int.mul_pow, Int.mul_pow] at h2
    have p1 : 0 < m ^ k := Int.pow_pos hm
    have p2 : 0 < m' ^ k := Int.pow_pos hm'
    have h3 := Int.mul_lt_mul_of_pos_left h2 hT
    have h4 := Int.mul_le_mul_of_nonneg_right (show T * n' ^ k ≤ S * m' ^ k by omega) (Int.le_of_lt p1)
    have e1 : T * (n ^ k * m' ^ k) = T * n ^ k * m' ^ k := by rw [Int.mul_assoc]
    have e2 : T * (n' ^ k * m ^ k) = T * n' ^ k * m ^ k := by rw [Int.mul_assoc]
    have e3 : S * m' ^ k * m ^ k = S * m ^ k * m' ^ k := by rw [Int.mul_assoc, Int.mul_assoc, Int.mul_comm (m' ^ k)]
    have : T * n ^ k * m' ^ k < S * m ^ k * m' ^ k := by omega
    have := Int.lt_of_mul_lt_mul_right this (Int.le_of_lt p2)
    omega
  hom n m n' m' hm hm' h := by
    unfold cR
    have p1 : 0 < m ^ k := Int.pow_pos hm
    have p2 : 0 < m' ^ k := Int.pow_pos hm'
    have h2 : n ^ k * m' ^ k = n' ^ k * m ^ k := by rw [← Int.mul_pow, ← Int.mul_pow, h]
    have e : m' ^ k * (S * m ^ k - T * n ^ k) = m ^ k * (S * m' ^ k - T * n' ^ k) := by
      rw [Int.mul_sub, Int.mul_sub]
      have a1 : m' ^ k * (T * n ^ k) = T * (n ^ k * m' ^ k) := by grind
      have a2 : m ^ k * (T * n' ^ k) = T * (n' ^ k * m ^ k) := by grind
      rw [a1, a2, h2]
      grind
    have := congrArg sg e
    rw [sg_mul, sg_mul, sg_pos p1, sg_pos p2, Int.one_mul, Int.one_mul] at this
    exact this
/-! ### keys -/
def disc (c0 c1 c2 : Int) : Int := c1 * c1 - 4 * (c0 * c2)
def kcut (ms : List Int) (i : Int) : Int → Int → Int := match ms with
  | [c0, c1] => cQ (-c0) c1
  | [c0, c1, c2] => if i = 1 then cM (-c1) (disc c0 c1 c2) (2 * c2) else cP (-c1) (disc c0 c1 c2) (2 * c2)
  | _ => fun _ _ => 0
inductive KSh : List Int → Int → Prop
  | lin {c0 c1 : Int} (h : 0 < c1) : KSh [c0, c1] 1
  | quad {c0 c1 c2 i : Int} (h : 0 < c2) (hD : 0 < disc c0 c1 c2) (hn : NonSq (disc c0 c1 c2)) (hi : i = 1 ∨ i = 2) : KSh [c0, c1, c2] i
theorem KSh.cut {ms : List Int} {i : Int} (h : KSh ms i) : Cut (kcut ms i) := by
  cases h with
  | lin h => exact cutQ h
  | quad h hD hn hi =>
    unfold kcut
    dsimp only
    split
    · exact cutM (Int.le_of_lt hD) (by omega)
    · exact cutP (Int.le_of_lt hD) (by omega)
structure RadK (S T : Int) (k : Nat) : Prop where
  ok : RdOk S T k
  b4 : B4 (radL S T k)
  pr : Prim (radL S T k)
  irr : NoQ (radL S T k)
  up : ∃ P, upM (radL S T k) 200 5 = some P
inductive Prb (φ : Int → Int → Int) : D → Prop
  | sh {ms : List Int} {i : Int} (k : KSh ms i) (hB : B4 ms) (e : ∀ n m, 0 < m → φ n m = kcut ms i n m) : Prb φ (.tup [.tup (iD ms), .int i, .non, .non, .int 0])
  | rad {S T b : Int} {k : Nat} (h : RadK S T k) (hb : 0 < b) (hl : (S.natAbs : Int) < T * b) (hbb : Bt 720 b) (e : ∀ n m, 0 < m → φ n m = cR S T k n m) : Prb φ (.tup [.tup (iD (radL S T k)), .int 1, frD (-b) 1, frD b 1, .int (-1)])
inductive KeyD (φ : Int → Int → Int) : D → Prop
  | sh {ms : List Int} {i : Int} (k : KSh ms i) (hB : B4 ms) (e : ∀ n m, 0 < m → φ n m = kcut ms i n m) : KeyD φ (.tup [.tup (iD ms), .int i])
  | rad {S T : Int} {k : Nat} (h : RadK S T k) (e : ∀ n m, 0 < m → φ n m = cR S T k n m) : KeyD φ (.tup [.tup (iD (radL S T k)), .int 1])
theorem Prb.cut {φ : Int → Int → Int} {d : D} (h : Prb φ d) : Cut φ := by
  cases h with
  | sh k hB e => exact k.cut.congr e
  | rad h hb hl hbb e => exact (cutR h.ok.hT h.ok.hk).congr e
theorem KeyD.cut {φ : Int → Int → Int} {d : D} (h : KeyD φ d) : Cut φ := by
  cases h with
  | sh k hB e => exact k.cut.congr e
  | rad h e => exact (cutR h.ok.hT h.ok.hk).congr e
def sp_square_floor : DSp := fun ds M Q _ => ∃ (n : Int), ds = [.int n] ∧ 0 ≤ n ∧ Bt 4000 n ∧ ∀ r, Rt n r → Bt 4000 r → Q (.int r) M
def sp_sign_at : DSp := fun ds M Q _ => ∃ (ns : List Int) (n m : Int), ds = [.tup (iD ns), .int n, .int m] ∧ B5 ns ∧ Bt 2000 n ∧ Bt 2000 m ∧ Q (.int (sg (hom ns n m))) M
def sp_fraction_of : DSp := fun ds M Q _ => ∃ (φ : Int → Int → Int) (d : D), ds = [d] ∧ KeyD φ d ∧ (∀ c0 c1, d = .tup [.tup (iD [c0, c1]), .int 1] → Q (frD (-c0) c1) M) ∧ ((∀ c0 c1 i, d ≠ .tup [.tup (iD [c0, c1]), i]) → Q .non M)
def sp_probe_of : DSp := fun ds M Q _ => ∃ (φ : Int → Int → Int) (d : D), ds = [d] ∧ KeyD φ d ∧ ∀ pd, Prb φ pd → Q pd M
def sp_side_of : DSp := fun ds M Q _ => ∃ (φ : Int → Int → Int) (pd : D) (n d : Int), ds = [pd, .int n, .int d] ∧ Prb φ pd ∧ 0 < d ∧ Bt 1900 n ∧ Bt 1900 d ∧ Q (.int (φ n d)) M
def sp_grid_of : DSp := fun ds M Q _ => ∃ (φ : Int → Int → Int) (pd : D) (n : Int), ds = [pd, .int n] ∧ Prb φ pd ∧ 0 < n ∧ Bt 700 n ∧ ∀ f, Fl φ n f → Bt 4100 f → Q (.int f) M
def t_square_floor : DTS := (dSq (dIfS (dTest (dOp dLt (dVar 0) (dC (.int 2)))) (dRt (dVar 0)) dNx) (dSq (dAs (dOp dShl (dC (.int 1)) (dOp dFdiv (dOp (dAdd false) (dBits (dVar 0)) (dC (.int 1))) (dC (.int 2)))) (dgN 1)) (dWhile (dTru (dC (.bl true))) (dSq (dAs (dOp dFdiv (dOp (dAdd false) (dVar 1) (dOp dFdiv (dVar 0) (dVar 1))) (dC (.int 2))) (dgN 2)) (dSq (dIfS (dTest (dOp dGe (dVar 2) (dVar 1))) (dRt (dVar 1)) dNx) (dAs (dVar 2) (dgN 1)))))))
def t_sign_at : DTS := (dSq (dAs (dC (.int 0)) (dgN 3)) (dSq (dAs (dC (.int 1)) (dgN 4)) (dSq (dFor (diRev (dVar 0)) (dgN 5) (dSq (dAs (dOp (dAdd false) (dOp (dMul false) (dVar 3) (dVar 1)) (dOp (dMul false) (dVar 5) (dVar 4))) (dgN 3)) (dAs (dOp (dMul false) (dVar 4) (dVar 2)) (dgN 4)))) (dSq (dIfS (dTest (dOp dEq (dVar 3) (dC (.int 0)))) (dRt (dC (.int 0))) dNx) (dRt (dIf (dTest (dOp dGt (dVar 3) (dC (.int 0)))) (dC (.int 1)) (dUn dNeg (dC (.int 1)))))))))
def t_fraction_of : DTS := (dSq (dIfS (dTest (dOp dEq (dCB dLen (dCons (dOp dIdx (dVar 0) (dC (.int 0))) dNil)) (dC (.int 2)))) (dRt (dTup (dCons (dUn dNeg (dOp dIdx (dOp dIdx (dVar 0) (dC (.int 0))) (dC (.int 0)))) (dCons (dOp dIdx (dOp dIdx (dVar 0) (dC (.int 0))) (dC (.int 1))) dNil)))) dNx) (dRt (dC .non)))
def t_probe_of : DTS := (dSq (dAs (dVar 0) (dgT [(dgN 1), (dgN 2)])) (dSq (dIfS (dTest (dOp dLe (dCB dLen (dCons (dVar 1) dNil)) (dC (.int 3)))) (dRt (dTup (dCons (dVar 1) (dCons (dVar 2) (dCons (dC .non) (dCons (dC .non) (dCons (dC (.int 0)) dNil))))))) dNx) (dSq (dAs (dOp dIdx (dCall sp_spans [] dX0 (dCons (dVar 1) dNil)) (dOp dSub (dVar 2) (dC (.int 1)))) (dgT [(dgN 3), (dgN 4)])) (dRt (dTup (dCons (dVar 1) (dCons (dVar 2) (dCons (dVar 3) (dCons (dVar 4) (dCons (dCall sp_sign_at [] dX0 (dCons (dVar 1) (dCons (dOp dIdx (dVar 3) (dC (.int 0))) (dCons (dOp dIdx (dVar 3) (dC (.int 1))) dNil)))) dNil))))))))))
def t_side_of : DTS := (dSq (dAs (dVar 0) (dgT [(dgN 3), (dgN 4), (dgN 5), (dgN 6), (dgN 7)])) (dSq (dIfS (dTest (dOp dEq (dCB dLen (dCons (dVar 3) dNil)) (dC (.int 2)))) (dSq (dAs (dOp dSub (dOp (dMul false) (dUn dNeg (dOp dIdx (dVar 3) (dC (.int 0)))) (dVar 2)) (dOp (dMul false) (dVar 1) (dOp dIdx (dVar 3) (dC (.int 1))))) (dgN 8)) (dRt (dIf (dTest (dOp dEq (dVar 8) (dC (.int 0)))) (dC (.int 0)) (dIf (dTest (dOp dGt (dVar 8) (dC (.int 0)))) (dC (.int 1)) (dUn dNeg (dC (.int 1))))))) dNx) (dSq (dIfS (dTest (dOp dEq (dCB dLen (dCons (dVar 3) dNil)) (dC (.int 3)))) (dSq (dIfS (dTest (dOp dLt (dCall sp_sign_at [] dX0 (dCons (dVar 3) (dCons (dVar 1) (dCons (dVar 2) dNil)))) (dC (.int 0)))) (dRt (dIf (dTest (dOp dEq (dVar 4) (dC (.int 1)))) (dUn dNeg (dC (.int 1))) (dC (.int 1)))) dNx) (dRt (dIf (dTest (dOp dLt (dOp (dMul false) (dOp (dMul false) (dC (.int 2)) (dOp dIdx (dVar 3) (dC (.int 2)))) (dVar 1)) (dOp (dMul false) (dUn dNeg (dOp dIdx (dVar 3) (dC (.int 1)))) (dVar 2)))) (dC (.int 1)) (dUn dNeg (dC (.int 1)))))) dNx) (dSq (dIfS (dTest (dOp dLe (dOp (dMul false) (dVar 1) (dOp dIdx (dVar 5) (dC (.int 1)))) (dOp (dMul false) (dOp dIdx (dVar 5) (dC (.int 0))) (dVar 2)))) (dRt (dC (.int 1))) dNx) (dSq (dIfS (dTest (dOp dGe (dOp (dMul false) (dVar 1) (dOp dIdx (dVar 6) (dC (.int 1)))) (dOp (dMul false) (dOp dIdx (dVar 6) (dC (.int 0))) (dVar 2)))) (dRt (dUn dNeg (dC (.int 1)))) dNx) (dRt (dIf (dTest (dOp dEq (dCall sp_sign_at [] dX0 (dCons (dVar 3) (dCons (dVar 1) (dCons (dVar 2) dNil)))) (dVar 7))) (dC (.int 1)) (dUn dNeg (dC (.int 1))))))))))
def t_grid_of : DTS := (dSq (dAs (dVar 0) (dgT [(dgN 2), (dgN 3), (dgN 4), (dgN 5), (dgN 6)])) (dSq (dIfS (dTest (dOp dEq (dCB dLen (dCons (dVar 2) dNil)) (dC (.int 2)))) (dRt (dOp dFdiv (dOp (dMul false) (dUn dNeg (dOp dIdx (dVar 2) (dC (.int 0)))) (dVar 1)) (dOp dIdx (dVar 2) (dC (.int 1))))) dNx) (dSq (dIfS (dTest (dOp dEq (dCB dLen (dCons (dVar 2) dNil)) (dC (.int 3)))) (dSq (dAs (dCall sp_square_floor [] dX0 (dCons (dOp (dMul false) (dOp (dMul false) (dOp dSub (dOp (dMul false) (dOp dIdx (dVar 2) (dC (.int 1))) (dOp dIdx (dVar 2) (dC (.int 1)))) (dOp (dMul false) (dOp (dMul false) (dC (.int 4)) (dOp dIdx (dVar 2) (dC (.int 0)))) (dOp dIdx (dVar 2) (dC (.int 2))))) (dVar 1)) (dVar 1)) dNil)) (dgN 7)) (dSq (dIfS (dTest (dOp dEq (dVar 3) (dC (.int 1)))) (dRt (dOp dFdiv (dOp dSub (dOp dSub (dOp (dMul false) (dUn dNeg (dOp dIdx (dVar 2) (dC (.int 1)))) (dVar 1)) (dVar 7)) (dC (.int 1))) (dOp (dMul false) (dC (.int 2)) (dOp dIdx (dVar 2) (dC (.int 2)))))) dNx) (dRt (dOp dFdiv (dOp (dAdd false) (dOp (dMul false) (dUn dNeg (dOp dIdx (dVar 2) (dC (.int 1)))) (dVar 1)) (dVar 7)) (dOp (dMul false) (dC (.int 2)) (dOp dIdx (dVar 2) (dC (.int 2)))))))) dNx) (dSq (dAs (dOp dFdiv (dOp (dMul false) (dOp dIdx (dVar 4) (dC (.int 0))) (dVar 1)) (dOp dIdx (dVar 4) (dC (.int 1)))) (dgN 8)) (dSq (dAs (dUn dNeg (dOp dFdiv (dOp (dMul false) (dUn dNeg (dOp dIdx (dVar 5) (dC (.int 0)))) (dVar 1)) (dOp dIdx (dVar 5) (dC (.int 1))))) (dgN 9)) (dSq (dWhile (dTest (dOp dGt (dOp dSub (dVar 9) (dVar 8)) (dC (.int 1)))) (dSq (dAs (dOp dFdiv (dOp (dAdd false) (dVar 8) (dVar 9)) (dC (.int 2))) (dgN 10)) (dIfS (dTest (dOp dGt (dCall sp_side_of [] dX0 (dCons (dVar 0) (dCons (dVar 10) (dCons (dVar 1) dNil)))) (dC (.int 0)))) (dAs (dVar 10) (dgN 8)) (dAs (dVar 10) (dgN 9))))) (dRt (dVar 8))))))))
theorem rt_step {s r n : Int} (hs : 0 ≤ s) (hr : 0 < r) (h : s * s ≤ n) : s ≤ (r + n / r) / 2 := by
  have h1 : (2 * s - r) * r ≤ n := by
    have h2 := sq_nn (s - r)
    have h3 : (2 * s - r) * r = s * s - (s - r) * (s - r) := by grind
    omega
  have h4 : 2 * s - r ≤ n / r := (Int.le_ediv_iff_mul_le hr).mpr h1
  omega
theorem rt_small {n : Int} (hn : 0 ≤ n) (h : n < 2) : Rt n n := by
  have : n = 0 ∨ n = 1 := by omega
  refine ⟨hn, by rcases this with rfl | rfl <;> decide, fun s hs hh => ?_⟩
  rcases Int.lt_or_le n s with h1 | h1
  · have := sq_mono (s := n + 1) (r := s) (by omega) (by omega)
    have e : (n + 1) * (n + 1) = n * n + 2 * n + 1 := by grind
    have := sq_nn n
    omega
  · exact h1
theorem rt_start {n : Int} {B k : Nat} (hlo : n.natAbs < 2 ^ B) (h : B ≤ 2 * k) : ∀ s : Int, 0 ≤ s → s * s ≤ n → s ≤ 2 ^ k := by
  intro s hs hh
  have hr0 : (0 : Int) < 2 ^ k := Int.pow_pos (by decide)
  refine Int.le_of_lt (sq_lt (Int.le_of_lt hr0) ?_)
  have e : ((2 : Int) ^ k) * 2 ^ k = ((2 ^ (2 * k) : Nat) : Int) := by
    rw [← Int.pow_add, Int.natCast_pow]
    congr 1
    omega
  rw [e]
  have : 2 ^ B ≤ 2 ^ (2 * k) := Nat.pow_le_pow_right (by decide) h
  omega
theorem sem_square_floor (ds : List D) (M : Mu) (Q : DK) (E : DXK) (h : sp_square_floor ds M Q E) : t_square_floor (dEnd Q) (dstart 3 ds) M := by
  obtain ⟨n, rfl, hn, hb, h⟩ := h
  unfold t_square_floor
  walk_at "go"
  refine r_if ?_
  walk_at "st"
  refine ⟨fun z => ?_, fun z => ?_⟩
  · have z := of_decide_eq_true z
    walk_at "st"
    exact Wq.now (h n (rt_small hn z) hb)
  have hn2 : 2 ≤ n := by have := of_decide_eq_false z; omega
  clear z
  walk_at "st"
  refine r_bits ?_
  walk_at "st"
  refine ⟨n, rfl, ?_⟩
  have hbits : Builtin.Int.intBits n ≤ 4000 := PySem.intBits_le_iff.mpr hb
  have hlo : n.natAbs < 2 ^ Builtin.Int.intBits n := PySem.intBits_le_iff.mp (Nat.le_refl _)
  generalize Builtin.Int.intBits n = B at hbits hlo
  walk_at "st"
  refine ⟨div_fit 4 (by decide) (by decide), ?_⟩
  walk_at "st"
  rw [fdiv_pos (by decide)]
  obtain ⟨k, hk⟩ : ∃ k : Nat, ((B : Int) + 1) / 2 = k ∧ B ≤ 2 * k ∧ k ≤ 2001 := ⟨(((B : Int) + 1) / 2).toNat, by omega, by omega, by omega⟩
  rw [hk.1]
  refine ⟨⟨by omega, ?_⟩, ?_⟩
  · have : Builtin.Int.intBits (1 : Int) ≤ 1 := PySem.intBits_le_iff.mpr (by decide)
    have := hk.2.2
    omega
  rw [Int.toNat_natCast, Int.one_mul]
  have hr0 : (0 : Int) < 2 ^ k := Int.pow_pos (by decide)
  have hrb : Bt 2002 ((2 : Int) ^ k) := by
    unfold Bt
    rw [Int.natAbs_pow]
    exact Nat.pow_lt_pow_right (by decide) (by have := hk.2.2; omega)
  have hs0 := rt_start hlo hk.2.1
  generalize (2 : Int) ^ k = r at hr0 hrb hs0
  walk_at "st"
  have b2 : ∀ {r : Int}, 0 < r → Bt 2002 r → CDivX r := fun h1 h2 => cd_ok (by omega) h2 (by decide)
  refine r_while (fun m δ M' => ∃ (r : Int) (s2 : Option D), m = r.toNat ∧ 0 < r ∧ Bt 2002 r ∧ (∀ s : Int, 0 ≤ s → s * s ≤ n → s ≤ r) ∧ M' = M ∧ δ = [some (.int n), some (.int r), s2]) _ ⟨r, none, rfl, hr0, hrb, hs0, rfl, rfl⟩ ?_
  rintro m δ M' ⟨r, s2, rfl, hr0, hrb, hs0, rfl, rfl⟩
  have hq : 0 ≤ n / r := Int.ediv_nonneg hn (by omega)
  walk_at "st"
  refine ⟨fun _ => ?_, fun z => absurd z (by decide)⟩
  walk_at "st"
  refine ⟨b2 hr0 hrb, ?_⟩
  walk_at "st"
  refine ⟨div_fit 4 (by decide) (by decide), ?_⟩
  rw [fdiv_pos hr0, fdiv_pos (by decide)]
  walk_at "st"
  refine r_if ?_
  walk_at "st"
  refine ⟨fun z => ?_, fun z => ?_⟩
  · have z := of_decide_eq_true z
    walk_at "st"
    refine Wq.now (h r ⟨by omega, ?_, hs0⟩ (bt_up hrb (by decide)))
    have h1 : r ≤ n / r := by omega
    exact (Int.le_ediv_iff_mul_le hr0).mp h1
  · have z := of_decide_eq_false z
    have hb0 : 0 < (r + n / r) / 2 := by
      have h1 := rt_step (s := 1) (by decide) hr0 (show (1 : Int) * 1 ≤ n by omega)
      omega
    have hbb : Bt 2002 ((r + n / r) / 2) := by
      unfold Bt at *
      omega
    walk_at "st"
    exact ⟨_, by omega, (r + n / r) / 2, _, rfl, hb0, hbb, fun s hs hh => rt_step hs hr0 hh, by trivial, by trivial⟩
theorem sem_sign_at (ds : List D) (M : Mu) (Q : DK) (E : DXK) (h : sp_sign_at ds M Q E) : t_sign_at (dEnd Q) (dstart 6 ds) M := by
  obtain ⟨ns, n, m, rfl, hB, hn, hm, h⟩ := h
  unfold t_sign_at
  walk_at "go"
  have hrev : (iD ns).reverse = iD ns.reverse := by unfold iD; rw [List.map_reverse]
  rw [hrev]
  have hBr : ∀ c ∈ ns.reverse, Bt 2000 c := fun c hc => hB.2 c (List.mem_reverse.mp hc)
  have hlr : ns.reverse.length ≤ 8 := by rw [List.length_reverse]; exact hB.1
  have hgoal : hom ns n m = (ns.reverse.foldl (homS n m) (0, 1)).1 := rfl
  rw [hgoal] at h
  generalize ns.reverse = rs at hBr hlr h ⊢
  refine for_inv (fun xs δ M' => ∃ (t w : Int) (s6 : Option D) (r : List Int), xs = iD r ∧ r.length ≤ 8 ∧ (∀ c ∈ r, Bt 2000 c) ∧ (r.foldl (homS n m) (t, w)) = (rs.foldl (homS n m) (0, 1)) ∧ Bt (100000 * (9 - r.length)) t ∧ Bt (2000 * (9 - r.length)) w ∧ M' = M ∧ δ = [some (.tup (iD ns)), some (.int n), some (.int m), some (.int t), some (.int w), s6]) (fun _ _ _ _ => trivial) ?_ ?_ _ _ _ ⟨0, 1, none, rs, rfl, hlr, hBr, rfl, bt_up (bt_lit 1 (by decide)) (by omega), bt_up (bt_lit 1 (by decide)) (by omega), rfl, rfl⟩
  · rintro x xs δ M' N ⟨t, w, s6, r, e1, hr8, hrB, e2, ht, hw, rfl, rfl⟩ hN
    cases r with
    | nil => cases e1
    | cons c r =>
      have e1 : x :: xs = .int c :: iD r := e1
      obtain ⟨rfl, rfl⟩ := List.cons.inj e1
      rw [List.length_cons] at hr8 ht hw
      have hc := hrB c (List.mem_cons_self ..)
      walk_at "st"
      refine ⟨cm_ok ht hn (by omega), ?_⟩
      walk_at "st"
      refine ⟨cm_ok hc hw (by omega), ?_⟩
      walk_at "st"
      refine ⟨cm_ok hw hm (by omega), ?_⟩
      walk_at "st"
      exact hN _ _ ⟨_, _, _, r, rfl, by omega, fun c hc => hrB c (List.mem_cons_of_mem _ hc), e2, bt_up (bt_add (bt_mul ht hn) (bt_mul hc hw)) (by omega), bt_up (bt_mul hw hm) (by omega), rfl, rfl⟩
  · rintro δ M' ⟨t, w, s6, r, e1, hr8, hrB, e2, ht, hw, rfl, rfl⟩
    cases r with
    | cons c r => cases e1
    | nil =>
      rw [← e2] at h
      have h : Q (.int (sg t)) M' := h
      rw [sg_eq] at h
      walk_at "st"
      refine r_if ?_
      walk_at "st"
      refine ⟨fun z => ?_, fun z => ?_⟩
      · have z := of_decide_eq_true z
        rw [if_neg (by omega), if_neg (by omega)] at h
        walk_at "st"
        exact Wq.now h
      · have z := of_decide_eq_false z
        walk_at "st"
        refine r_dif ?_
        walk_at "st"
        refine ⟨fun y => ?_, fun y => ?_⟩
        · rw [if_pos (of_decide_eq_true y)] at h
          walk_at "st"
          exact Wq.now h
        · have y := of_decide_eq_false y
          rw [if_neg y, if_pos (by omega)] at h
          walk_at "st"
          exact Wq.now h
theorem sem_fraction_of (ds : List D) (M : Mu) (Q : DK) (E : DXK) (h : sp_fraction_of ds M Q E) : t_fraction_of (dEnd Q) (dstart 1 ds) M := by
  obtain ⟨φ, d, rfl, hK, h1, h2⟩ := h
  unfold t_fraction_of
  walk_at "go"
  have long : ∀ (ms : List Int) (i : Int), d = .tup [.tup (iD ms), .int i] → 3 ≤ ms.length → Q .non M := fun ms i hd hl => h2 fun c0 c1 j hj => by
    rw [hd] at hj
    have e : iD ms = iD [c0, c1] := by
      injection hj with hj
      injection hj with hj _
      injection hj
    have := congrArg List.length e
    rw [iD_len, iD_len] at this
    simp at this
    omega
  cases hK with
  | sh k hB e =>
    rename_i ms i
    cases k with
    | lin h =>
      rename_i c0 c1
      refine r_if ?_
      walk_at "sm"
      refine ⟨fun _ => ?_, fun z => absurd (of_decide_eq_false z) (by simp [iD])⟩
      walk_at "sm"
      exact Wq.now (h1 c0 c1 rfl)
    | quad h hD hn hi =>
      have := long _ _ rfl (by simp)
      refine r_if ?_
      walk_at "sm"
      refine ⟨fun z => absurd (of_decide_eq_true z) (by simp [iD]), fun _ => ?_⟩
      walk_at "sm"
      exact Wq.now this
  | rad hr e =>
    have hl := hr.ok.sh.len
    have := long _ _ rfl hl.1
    refine r_if ?_
    walk_at "sm"
    rw [iD_len]
    refine ⟨fun z => absurd (of_decide_eq_true z) (by omega), fun _ => ?_⟩
    walk_at "sm"
    exact Wq.now this
theorem sem_probe_of (ds : List D) (M : Mu) (Q : DK) (E : DXK) (h : sp_probe_of ds M Q E) : t_probe_of (dEnd Q) (dstart 5 ds) M := by
  obtain ⟨φ, d, rfl, hK, h⟩ := h
  unfold t_probe_of
  walk_at "go"
  cases hK with
  | sh k hB e =>
    rename_i ms i
    have h3 : ms.length ≤ 3 := by cases k <;> simp
    walk_at "st"
    refine r_if ?_
    walk_at "st"
    rw [iD_len]
    refine ⟨fun _ => ?_, fun z => absurd (of_decide_eq_false z) (by omega)⟩
    walk_at "st"
    exact Wq.now (h _ (.sh k hB e))
  | rad hr e =>
    rename_i S T k
    have hl := hr.ok.sh.len
    have hl4 : 4 ≤ (radL S T k).length := by rcases hr.ok.hk with rfl | rfl | rfl <;> simp [radL]
    obtain ⟨P, hP⟩ := hr.up
    walk_at "st"
    refine r_if ?_
    walk_at "st"
    rw [iD_len]
    refine ⟨fun z => absurd (of_decide_eq_true z) (by omega), fun _ => ?_⟩
    walk_at "st"
    refine ⟨S, T, k, P, rfl, hr.ok, hr.b4, hr.pr, hr.irr, hP, fun b b0 hb hbb => ?_⟩
    obtain ⟨sg1, _⟩ := rad_signs hr.ok b0 hb
    have sg1 : sg (hom (radL S T k) (-b) 1) = -1 := by
      simp only [chainP, List.map_cons, List.map_nil] at sg1
      exact (List.cons.inj sg1).1
    walk_at "sm"
    unfold spanD frD
    walk_at "sm"
    refine ⟨_, -b, 1, rfl, hr.b4.b5, bt_up (bt_neg hbb) (by decide), bt_up (bt_lit 1 (by decide)) (by decide), ?_⟩
    rw [sg1]
    walk_at "sm"
    exact Wq.now (h _ (.rad hr b0 hb hbb e))
end SU

set_option exponentiation.threshold 5000
namespace SU
open PySem PySem.Spec PyProof.Rows L2 TL DL
local macro_rules | `(tactic| walk_at "st1") => `(tactic| first
  | with_reducible refine r_sq ?_ | with_reducible refine r_nx ?_ | with_reducible refine r_rt ?_ | with_reducible refine r_rtN ?_ | with_reducible refine r_ex ?_ | with_reducible refine r_as ?_ | with_reducible refine r_bk ?_ | with_reducible refine r_ct ?_
  | ((with_reducible apply r_var); exact rfl) | with_reducible refine r_c ?_ | with_reducible refine r_op ?_ | with_reducible refine r_un ?_ | with_reducible refine r_neg ?_
  | ((with_reducible refine r_dgN rfl ?_); (try simp only [List.set]))
  | with_reducible refine r_dgSub ?_ | with_reducible refine r_dgT rfl ?_ | with_reducible refine r_dga0 ?_ | with_reducible refine r_dga1 ?_ | with_reducible refine r_auS ?_ | ((with_reducible apply r_au); exact rfl)
  | with_reducible refine r_par ?_ | ((with_reducible refine r_kPar rfl ?_); (try simp only [List.set]))
  | with_reducible refine r_addI ?_ | with_reducible refine r_addS ?_ | with_reducible refine r_addT ?_ | with_reducible refine r_addL ?_ | with_reducible refine r_subI ?_ | with_reducible refine r_mulI ?_ | with_reducible refine r_fdiv ?_ | with_reducible refine r_mod ?_ | with_reducible refine r_pow ?_ | with_reducible refine r_shl ?_
  | with_reducible refine r_eqI ?_ | with_reducible refine r_eqS ?_ | with_reducible refine r_eqB ?_ | with_reducible refine r_neI ?_ | with_reducible refine r_neS ?_ | with_reducible refine r_neB ?_ | with_reducible refine r_ltI ?_ | with_reducible refine r_gtI ?_ | with_reducible refine r_leI ?_ | with_reducible refine r_geI ?_ | with_reducible refine r_isN ?_ | with_reducible refine r_notN ?_ | with_reducible refine r_inS ?_
  | with_reducible refine r_test ?_ | with_reducible refine r_kB ?_ | with_reducible refine r_tru ?_ | with_reducible refine r_kTb ?_ | with_reducible refine r_kTi ?_ | with_reducible refine r_kTn ?_ | with_reducible refine r_kTl ?_ | with_reducible refine r_kTt ?_ | with_reducible refine r_kTs ?_ | with_reducible refine r_not ?_ | with_reducible refine r_notV ?_ | with_reducible refine r_yes ?_
  | with_reducible refine r_nil ?_ | with_reducible refine r_cons ?_ | with_reducible refine r_tup ?_ | with_reducible refine r_lst ?_ | with_reducible refine r_newF ?_ | with_reducible refine r_cb ?_
  | with_reducible refine r_lenS ?_ | with_reducible refine r_lenL ?_ | with_reducible refine r_lenT ?_ | with_reducible refine r_lenSrc ?_ | with_reducible refine r_abs ?_ | with_reducible refine r_min2 ?_ | with_reducible refine r_max2 ?_ | with_reducible refine r_intI ?_ | with_reducible refine r_str ?_ | with_reducible refine r_tupT ?_ | with_reducible refine r_tupL ?_ | with_reducible refine r_divmod ?_
  | with_reducible refine r_sl ?_ | with_reducible refine r_noP ?_ | with_reducible refine r_part ?_ | with_reducible refine r_kP ?_ | with_reducible refine r_slS ?_ | with_reducible refine r_slT ?_ | with_reducible refine r_slL ?_ | with_reducible refine r_slSrc ?_
  | with_reducible refine r_bm ?_ | with_reducible refine r_tyS ?_ | with_reducible refine r_starts ?_ | with_reducible refine r_count ?_ | with_reducible refine r_call ?_ | with_reducible refine r_for ?_ | with_reducible refine r_seq ?_ | with_reducible refine r_kIt ?_ | with_reducible refine r_kIl ?_ | with_reducible refine r_kIs ?_ | with_reducible refine r_kIsrc ?_ | with_reducible refine r_r1 ?_ | with_reducible refine r_r2 ?_ | with_reducible refine r_lc ?_
  | with_reducible refine lit0 ?_ | with_reducible refine lit1 ?_ | with_reducible refine lit2 ?_ | with_reducible refine lit3 ?_ | with_reducible refine lit4 ?_ | with_reducible refine lit5 ?_ | with_reducible refine lit6 ?_ | with_reducible refine lit7 ?_
  | with_reducible refine r_callX ?_ | with_reducible refine r_callE ?_ | with_reducible refine r_try ?_ | with_reducible refine r_isE ?_ | with_reducible refine r_fld ?_ | with_reducible refine r_excK ?_ | with_reducible refine r_raise ?_
  | with_reducible refine r_subB ?_ | with_reducible refine r_r3 ?_ | with_reducible refine r_rev ?_ | with_reducible refine r_kRv ?_
  | fail)
local macro_rules | `(tactic| walk_at "st") => `(tactic| repeat (first | walk_at "st1" | dsimp only))
local macro_rules | `(tactic| walk_at "go") => `(tactic| (simp only [dstart, dEnd, List.map_cons, List.map_nil, List.length_cons, List.length_nil, Nat.reduceAdd, Nat.reduceSub, Nat.zero_add, List.replicate, List.cons_append, List.nil_append]; walk_at "st"))

local macro_rules | `(tactic| walk_at "bt") => `(tactic| first | with_reducible assumption | ((with_reducible apply bt_mul) <;> walk_at "bt") | ((with_reducible apply bt_sub) <;> walk_at "bt") | ((with_reducible apply bt_add) <;> walk_at "bt") | ((with_reducible apply bt_neg) <;> walk_at "bt") | ((with_reducible apply bt_abs) <;> walk_at "bt") | ((with_reducible apply bt_fdiv) <;> walk_at "bt") | exact bt_lit 64 (by decide +kernel))
local macro_rules | `(tactic| walk_at "cm") => `(tactic| ((with_reducible refine And.intro ?_ ?_); (focus ((with_reducible apply cm_ok) <;> first | decide | walk_at "bt"))))
local macro_rules | `(tactic| walk_at "sm") => `(tactic| repeat (first | walk_at "st1" | ((with_reducible apply r_idxT); exact rfl) | ((with_reducible apply r_idxL); exact rfl) | dsimp only | walk_at "cm"))

theorem hom3 (c0 c1 c2 n m : Int) : hom [c0, c1, c2] n m = c2 * n * n + c1 * m * n + c0 * m * m := by
  simp only [hom, List.reverse_cons, List.reverse_nil, List.nil_append, List.cons_append, List.foldl_cons, List.foldl_nil, homS]
  grind
section
variable {c0 c1 c2 n d : Int}
theorem quad_id : 4 * c2 * hom [c0, c1, c2] n d = (-c1 * d - n * (2 * c2)) * (-c1 * d - n * (2 * c2)) - disc c0 c1 c2 * (d * d) := by
  rw [hom3]
  unfold disc
  grind
theorem quad_ne (hd : 0 < d) (hn : NonSq (disc c0 c1 c2)) (U : Int) : U * U ≠ disc c0 c1 c2 * (d * d) := by
  have := nonsq_ne (A := U) (B := d) hn (by omega)
  rwa [Int.mul_comm (d * d)] at this
theorem quad_pl (h2 : 0 < c2) (hD : 0 < disc c0 c1 c2) (hn : NonSq (disc c0 c1 c2)) (hd : 0 < d) : cP (-c1) (disc c0 c1 c2) (2 * c2) n d = if hom [c0, c1, c2] n d < 0 then 1 else if 0 < -c1 * d - n * (2 * c2) then 1 else -1 := by
  have e := quad_id (c0 := c0) (c1 := c1) (c2 := c2) (n := n) (d := d)
  have hne := quad_ne hd hn (-c1 * d - n * (2 * c2))
  have hV : 0 < disc c0 c1 c2 * (d * d) := Int.mul_pos hD (Int.mul_pos hd hd)
  unfold cP
  generalize -c1 * d - n * (2 * c2) = U at *
  generalize hom [c0, c1, c2] n d = h at *
  generalize disc c0 c1 c2 * (d * d) = V at *
  have p := pl_p (u := U) (Int.le_of_lt hV)
  split
  · next h1 =>
    have := Int.mul_neg_of_pos_of_neg (show 0 < 4 * c2 by omega) h1
    rw [p]
    omega
  · next h1 =>
    have := Int.mul_nonneg (show 0 ≤ 4 * c2 by omega) (show 0 ≤ h by omega)
    split
    · next h3 => exact p.mpr (.inl h3)
    · next h3 =>
      have h4 : U ≠ 0 := by
        rintro rfl
        simp at e
        omega
      rw [pl_neg_u (by omega), sg_neg (by omega)]
theorem quad_mi (h2 : 0 < c2) (hD : 0 < disc c0 c1 c2) (hn : NonSq (disc c0 c1 c2)) (hd : 0 < d) : cM (-c1) (disc c0 c1 c2) (2 * c2) n d = if hom [c0, c1, c2] n d < 0 then -1 else if 0 < -c1 * d - n * (2 * c2) then 1 else -1 := by
  have e := quad_id (c0 := c0) (c1 := c1) (c2 := c2) (n := n) (d := d)
  have hne := quad_ne hd hn (-c1 * d - n * (2 * c2))
  have hV : 0 < disc c0 c1 c2 * (d * d) := Int.mul_pos hD (Int.mul_pos hd hd)
  unfold cM
  have eU : n * (2 * c2) - -c1 * d = -(-c1 * d - n * (2 * c2)) := by omega
  rw [eU]
  generalize -c1 * d - n * (2 * c2) = U at *
  generalize hom [c0, c1, c2] n d = h at *
  generalize disc c0 c1 c2 * (d * d) = V at *
  have p := pl_p (u := -U) (Int.le_of_lt hV)
  rw [Int.neg_mul_neg] at p
  split
  · next h1 =>
    have := Int.mul_neg_of_pos_of_neg (show 0 < 4 * c2 by omega) h1
    rw [p.mpr (by omega)]
  · next h1 =>
    have := Int.mul_nonneg (show 0 ≤ 4 * c2 by omega) (show 0 ≤ h by omega)
    split
    · next h3 =>
      rw [pl_neg_u (by omega), Int.neg_mul_neg, sg_neg (by omega)]
      rfl
    · next h3 =>
      have h4 : U ≠ 0 := by
        rintro rfl
        simp at e
        omega
      rw [p.mpr (by omega)]
end
theorem rad_ne {S T : Int} {k : Nat} (h : RadK S T k) {n d : Int} (hd : 0 < d) : cR S T k n d = 1 ∨ cR S T k n d = -1 := by
  have := h.irr n d hd
  rw [hom_rad h.ok] at this
  unfold cR
  rcases tri (S * d ^ k - T * n ^ k) with ⟨h1, e⟩ | ⟨h1, e⟩ | ⟨h1, e⟩
  · exact .inl e
  · omega
  · exact .inr e
theorem rad_low {S T b : Int} {k : Nat} (h : RdOk S T k) (hb : 0 < b) (hl : (S.natAbs : Int) < T * b) : cR S T k (-b) 1 = 1 ∧ cR S T k b 1 = -1 := by
  have hk := h.hk
  have h1 := Int.mul_le_mul_of_nonneg_left (pow_ge hb k (by omega)) (Int.le_of_lt h.hT)
  unfold cR
  rw [Int.one_pow, neg_pow_odd b hk]
  have e1 : T * -(b ^ k) = -(T * b ^ k) := Int.mul_neg ..
  exact ⟨sg_pos (by omega), sg_neg (by omega)⟩
theorem sem_side_of (ds : List D) (M : Mu) (Q : DK) (E : DXK) (h : sp_side_of ds M Q E) : t_side_of (dEnd Q) (dstart 9 ds) M := by
  obtain ⟨φ, pd, n, d, rfl, hP, hd, bn, bd, h⟩ := h
  unfold t_side_of
  walk_at "go"
  cases hP with
  | sh k hB e =>
    rw [e n d hd] at h
    cases k with
    | lin hc =>
      rename_i c0 c1
      have b0 := hB.2 c0 (by simp)
      have b1 := hB.2 c1 (by simp)
      have h : Q (.int (sg (-c0 * d - n * c1))) M := h
      rw [sg_eq] at h
      walk_at "sm"
      refine r_if ?_
      walk_at "sm"
      refine ⟨fun _ => ?_, fun z => absurd (of_decide_eq_false z) (by simp [iD])⟩
      walk_at "sm"
      refine r_dif ?_
      walk_at "sm"
      refine ⟨fun z => ?_, fun z => ?_⟩
      · have z := of_decide_eq_true z
        rw [if_neg (by omega), if_neg (by omega)] at h
        walk_at "sm"
        exact Wq.now h
      · have z := of_decide_eq_false z
        refine r_dif ?_
        walk_at "sm"
        refine ⟨fun y => ?_, fun y => ?_⟩
        · rw [if_pos (of_decide_eq_true y)] at h
          walk_at "sm"
          exact Wq.now h
        · have y := of_decide_eq_false y
          rw [if_neg y, if_pos (by omega)] at h
          walk_at "sm"
          exact Wq.now h
    | quad h2 hD hn hi =>
      rename_i i c0 c1 c2
      have b0 := hB.2 c0 (by simp)
      have b1 := hB.2 c1 (by simp)
      have b2 := hB.2 c2 (by simp)
      walk_at "sm"
      refine r_if ?_
      walk_at "sm"
      refine ⟨fun z => absurd (of_decide_eq_true z) (by simp [iD]), fun _ => ?_⟩
      walk_at "sm"
      refine r_if ?_
      walk_at "sm"
      refine ⟨fun _ => ?_, fun z => absurd (of_decide_eq_false z) (by simp [iD])⟩
      refine r_sq ?_
      refine r_if ?_
      walk_at "sm"
      refine ⟨_, n, d, rfl, hB.b5, bt_up bn (by decide), bt_up bd (by decide), ?_⟩
      walk_at "sm"
      have key : Q (.int (if hom [c0, c1, c2] n d < 0 then (if i = 1 then -1 else 1) else if 0 < -c1 * d - n * (2 * c2) then 1 else -1)) M := by
        rcases hi with rfl | rfl
        · have h : Q (.int (cM (-c1) (disc c0 c1 c2) (2 * c2) n d)) M := h
          rw [quad_mi h2 hD hn hd] at h
          rw [if_pos rfl]
          exact h
        · have h : Q (.int (cP (-c1) (disc c0 c1 c2) (2 * c2) n d)) M := h
          rw [quad_pl h2 hD hn hd] at h
          rw [if_neg (show ¬ (2 : Int) = 1 by decide)]
          exact h
      refine ⟨fun z => ?_, fun z => ?_⟩
      · have z : hom [c0, c1, c2] n d < 0 := by
          have z := of_decide_eq_true z
          rcases tri (hom [c0, c1, c2] n d) with ⟨_, e⟩ | ⟨_, e⟩ | ⟨_, e⟩ <;> omega
        rw [if_pos z] at key
        walk_at "sm"
        refine r_dif ?_
        walk_at "sm"
        refine ⟨fun y => ?_, fun y => ?_⟩
        · rw [if_pos (of_decide_eq_true y)] at key
          walk_at "sm"
          exact Wq.now key
        · rw [if_neg (of_decide_eq_false y)] at key
          walk_at "sm"
          exact Wq.now key
      · have z : ¬ hom [c0, c1, c2] n d < 0 := by
          have z := of_decide_eq_false z
          rcases tri (hom [c0, c1, c2] n d) with ⟨_, e⟩ | ⟨_, e⟩ | ⟨_, e⟩ <;> omega
        rw [if_neg z] at key
        walk_at "sm"
        refine r_dif ?_
        walk_at "sm"
        have e1 : n * (2 * c2) = 2 * c2 * n := Int.mul_comm ..
        refine ⟨fun y => ?_, fun y => ?_⟩
        · have y := of_decide_eq_true y
          rw [if_pos (by omega)] at key
          walk_at "sm"
          exact Wq.now key
        · have y := of_decide_eq_false y
          rw [if_neg (by omega)] at key
          walk_at "sm"
          exact Wq.now key
  | rad hr b0 hl hbb e =>
    rename_i S T b k
    rw [e n d hd] at h
    have C := cutR hr.ok.hT hr.ok.hk (S := S)
    obtain ⟨lo, hi⟩ := rad_low hr.ok b0 hl
    have hlen := hr.ok.sh.len
    have hl4 : 4 ≤ (radL S T k).length := by rcases hr.ok.hk with rfl | rfl | rfl <;> simp [radL]
    have bnb := bt_neg hbb
    have b1 : Bt 1 (1 : Int) := bt_lit 1 (by decide)
    unfold frD
    walk_at "sm"
    refine r_if ?_
    walk_at "sm"
    rw [iD_len]
    refine ⟨fun z => absurd (of_decide_eq_true z) (by omega), fun _ => ?_⟩
    walk_at "sm"
    refine r_if ?_
    walk_at "sm"
    rw [iD_len]
    refine ⟨fun z => absurd (of_decide_eq_true z) (by omega), fun _ => ?_⟩
    walk_at "sm"
    refine r_if ?_
    walk_at "sm"
    refine ⟨fun z => ?_, fun z => ?_⟩
    · have z := of_decide_eq_true z
      have h1 := C.monoL hd (show (0 : Int) < 1 by decide) z (by omega : 0 ≤ cR S T k (-b) 1)
      have h2 : cR S T k n d = 1 := by rcases rad_ne hr (n := n) hd with e | e <;> omega
      rw [h2] at h
      walk_at "sm"
      exact Wq.now h
    · walk_at "sm"
      refine r_if ?_
      walk_at "sm"
      refine ⟨fun y => ?_, fun y => ?_⟩
      · have y := of_decide_eq_true y
        have h1 := C.antiL (show (0 : Int) < 1 by decide) hd y (by omega : cR S T k b 1 ≤ 0)
        have h2 : cR S T k n d = -1 := by rcases rad_ne hr (n := n) hd with e | e <;> omega
        rw [h2] at h
        walk_at "sm"
        exact Wq.now h
      · walk_at "sm"
        refine r_dif ?_
        walk_at "sm"
        refine ⟨_, n, d, rfl, hr.b4.b5, bt_up bn (by decide), bt_up bd (by decide), ?_⟩
        have es : sg (hom (radL S T k) n d) = -(cR S T k n d) := by
          rw [hom_rad hr.ok]
          unfold cR
          rw [← sg_op]
          congr 1
          omega
        rw [es]
        walk_at "sm"
        rcases rad_ne hr (n := n) hd with e1 | e1
        · rw [e1] at h ⊢
          refine ⟨fun _ => ?_, fun z => absurd (of_decide_eq_false z) (by decide)⟩
          walk_at "sm"
          exact Wq.now h
        · rw [e1] at h ⊢
          refine ⟨fun z => absurd (of_decide_eq_true z) (by decide), fun _ => ?_⟩
          walk_at "sm"
          exact Wq.now h
end SU

set_option exponentiation.threshold 5000
namespace SU
open PySem PySem.Spec PyProof.Rows L2 TL DL
local macro_rules | `(tactic| walk_at "st1") => `(tactic| first
  | with_reducible refine r_sq ?_ | with_reducible refine r_nx ?_ | with_reducible refine r_rt ?_ | with_reducible refine r_rtN ?_ | with_reducible refine r_ex ?_ | with_reducible refine r_as ?_ | with_reducible refine r_bk ?_ | with_reducible refine r_ct ?_
  | ((with_reducible apply r_var); exact rfl) | with_reducible refine r_c ?_ | with_reducible refine r_op ?_ | with_reducible refine r_un ?_ | with_reducible refine r_neg ?_
  | ((with_reducible refine r_dgN rfl ?_); (try simp only [List.set]))
  | with_reducible refine r_dgSub ?_ | with_reducible refine r_dgT rfl ?_ | with_reducible refine r_dga0 ?_ | with_reducible refine r_dga1 ?_ | with_reducible refine r_auS ?_ | ((with_reducible apply r_au); exact rfl)
  | with_reducible refine r_par ?_ | ((with_reducible refine r_kPar rfl ?_); (try simp only [List.set]))
  | with_reducible refine r_addI ?_ | with_reducible refine r_addS ?_ | with_reducible refine r_addT ?_ | with_reducible refine r_addL ?_ | with_reducible refine r_subI ?_ | with_reducible refine r_mulI ?_ | with_reducible refine r_fdiv ?_ | with_reducible refine r_mod ?_ | with_reducible refine r_pow ?_ | with_reducible refine r_shl ?_
  | with_reducible refine r_eqI ?_ | with_reducible refine r_eqS ?_ | with_reducible refine r_eqB ?_ | with_reducible refine r_neI ?_ | with_reducible refine r_neS ?_ | with_reducible refine r_neB ?_ | with_reducible refine r_ltI ?_ | with_reducible refine r_gtI ?_ | with_reducible refine r_leI ?_ | with_reducible refine r_geI ?_ | with_reducible refine r_isN ?_ | with_reducible refine r_notN ?_ | with_reducible refine r_inS ?_
  | with_reducible refine r_test ?_ | with_reducible refine r_kB ?_ | with_reducible refine r_tru ?_ | with_reducible refine r_kTb ?_ | with_reducible refine r_kTi ?_ | with_reducible refine r_kTn ?_ | with_reducible refine r_kTl ?_ | with_reducible refine r_kTt ?_ | with_reducible refine r_kTs ?_ | with_reducible refine r_not ?_ | with_reducible refine r_notV ?_ | with_reducible refine r_yes ?_
  | with_reducible refine r_nil ?_ | with_reducible refine r_cons ?_ | with_reducible refine r_tup ?_ | with_reducible refine r_lst ?_ | with_reducible refine r_newF ?_ | with_reducible refine r_cb ?_
  | with_reducible refine r_lenS ?_ | with_reducible refine r_lenL ?_ | with_reducible refine r_lenT ?_ | with_reducible refine r_lenSrc ?_ | with_reducible refine r_abs ?_ | with_reducible refine r_min2 ?_ | with_reducible refine r_max2 ?_ | with_reducible refine r_intI ?_ | with_reducible refine r_str ?_ | with_reducible refine r_tupT ?_ | with_reducible refine r_tupL ?_ | with_reducible refine r_divmod ?_
  | with_reducible refine r_sl ?_ | with_reducible refine r_noP ?_ | with_reducible refine r_part ?_ | with_reducible refine r_kP ?_ | with_reducible refine r_slS ?_ | with_reducible refine r_slT ?_ | with_reducible refine r_slL ?_ | with_reducible refine r_slSrc ?_
  | with_reducible refine r_bm ?_ | with_reducible refine r_tyS ?_ | with_reducible refine r_starts ?_ | with_reducible refine r_count ?_ | with_reducible refine r_call ?_ | with_reducible refine r_for ?_ | with_reducible refine r_seq ?_ | with_reducible refine r_kIt ?_ | with_reducible refine r_kIl ?_ | with_reducible refine r_kIs ?_ | with_reducible refine r_kIsrc ?_ | with_reducible refine r_r1 ?_ | with_reducible refine r_r2 ?_ | with_reducible refine r_lc ?_
  | with_reducible refine lit0 ?_ | with_reducible refine lit1 ?_ | with_reducible refine lit2 ?_ | with_reducible refine lit3 ?_ | with_reducible refine lit4 ?_ | with_reducible refine lit5 ?_ | with_reducible refine lit6 ?_ | with_reducible refine lit7 ?_
  | with_reducible refine r_callX ?_ | with_reducible refine r_callE ?_ | with_reducible refine r_try ?_ | with_reducible refine r_isE ?_ | with_reducible refine r_fld ?_ | with_reducible refine r_excK ?_ | with_reducible refine r_raise ?_
  | with_reducible refine r_subB ?_ | with_reducible refine r_r3 ?_ | with_reducible refine r_rev ?_ | with_reducible refine r_kRv ?_
  | fail)
local macro_rules | `(tactic| walk_at "st") => `(tactic| repeat (first | walk_at "st1" | dsimp only))
local macro_rules | `(tactic| walk_at "go") => `(tactic| (simp only [dstart, dEnd, List.map_cons, List.map_nil, List.length_cons, List.length_nil, Nat.reduceAdd, Nat.reduceSub, Nat.zero_add, List.replicate, List.cons_append, List.nil_append]; walk_at "st"))

local macro_rules | `(tactic| walk_at "bt") => `(tactic| first | with_reducible assumption | ((with_reducible apply bt_mul) <;> walk_at "bt") | ((with_reducible apply bt_sub) <;> walk_at "bt") | ((with_reducible apply bt_add) <;> walk_at "bt") | ((with_reducible apply bt_neg) <;> walk_at "bt") | ((with_reducible apply bt_abs) <;> walk_at "bt") | ((with_reducible apply bt_fdiv) <;> walk_at "bt") | exact bt_lit 64 (by decide +kernel))
local macro_rules | `(tactic| walk_at "cm") => `(tactic| ((with_reducible refine And.intro ?_ ?_); (focus ((with_reducible apply cm_ok) <;> first | decide | walk_at "bt"))))
local macro_rules | `(tactic| walk_at "sm") => `(tactic| repeat (first | walk_at "st1" | ((with_reducible apply r_idxT); exact rfl) | ((with_reducible apply r_idxL); exact rfl) | dsimp only | walk_at "cm"))

def sp_power_of : DSp := fun ds M Q _ => ∃ (b : Int) (e : Nat), ds = [.int b, .int (e : Int)] ∧ Bt 6 b ∧ e ≤ 64 ∧ Q (.int (b ^ e)) M
def sp_head : DSp := fun ds M Q _ => ∃ (φ : Int → Int → Int) (d : D) (b : Int) (e : Nat), ds = [d, .int b, .int (e : Int)] ∧ KeyD φ d ∧ 0 < b ∧ Bt 6 b ∧ e ≤ 64 ∧ ∀ f, Fl φ (b ^ e) f → Q (.int f) M
def Shrt (d : D) (c0 c1 : Int) : Prop := d = .tup [.tup (iD [c0, c1]), .int 1]
def sp_near : DSp := fun ds M Q _ => ∃ (φ : Int → Int → Int) (d : D) (p q : Int), ds = [d, frD p q] ∧ KeyD φ d ∧ 0 < p ∧ 0 < q ∧ Bt 600 p ∧ Bt 600 q ∧ (∀ c0 c1, Shrt d c0 c1 → Q (.tup [frD (-c0) c1, frD (-c0) c1]) M) ∧
  ((∀ c0 c1 i, d ≠ .tup [.tup (iD [c0, c1]), i]) → ∀ n f g a b h a' b', 0 < n → q ≤ n * p → Fl φ n f → 0 < g → f = g * a → n = g * b → Int.gcd a b = 1 → 0 < h → f + 1 = h * a' → n = h * b' → Int.gcd a' b' = 1 → Bt 4100 f → Bt 601 n → Q (.tup [frD a b, frD a' b']) M)
def t_power_of : DTS := (dSq (dAs (dC (.int 1)) (dgN 2)) (dSq (dWhile (dTest (dOp dGt (dVar 1) (dC (.int 0)))) (dSq (dAs (dCB dDivmod (dCons (dVar 1) (dCons (dC (.int 2)) dNil))) (dgT [(dgN 1), (dgN 3)])) (dSq (dIfS (dTest (dOp dEq (dVar 3) (dC (.int 1)))) (dAs (dOp (dMul false) (dVar 2) (dVar 0)) (dgN 2)) dNx) (dAs (dOp (dMul false) (dVar 0) (dVar 0)) (dgN 0))))) (dRt (dVar 2))))
def t_head : DTS := (dRt (dCall sp_grid_of [] dX0 (dCons (dCall sp_probe_of [] dX0 (dCons (dVar 0) dNil)) (dCons (dCall sp_power_of [] dX0 (dCons (dVar 1) (dCons (dVar 2) dNil))) dNil))))
def t_near : DTS := (dSq (dAs (dCall sp_fraction_of [] dX0 (dCons (dVar 0) dNil)) (dgN 2)) (dSq (dIfS (dTest (dOp dNotN (dVar 2) (dC .non))) (dRt (dTup (dCons (dVar 2) (dCons (dVar 2) dNil)))) dNx) (dSq (dAs (dUn dNeg (dOp dFdiv (dUn dNeg (dOp dIdx (dVar 1) (dC (.int 1)))) (dOp dIdx (dVar 1) (dC (.int 0))))) (dgN 3)) (dSq (dAs (dCall sp_grid_of [] dX0 (dCons (dCall sp_probe_of [] dX0 (dCons (dVar 0) dNil)) (dCons (dVar 3) dNil))) (dgN 4)) (dRt (dTup (dCons (dCall sp_ratio [] dX0 (dCons (dVar 4) (dCons (dVar 3) dNil))) (dCons (dCall sp_ratio [] dX0 (dCons (dOp (dAdd false) (dVar 4) (dC (.int 1))) (dCons (dVar 3) dNil))) dNil))))))))
theorem bt_sub1 {k : Nat} {i j : Int} (h1 : Bt k i) (h2 : Bt k j) : Bt (k + 1) (i - j) := by
  unfold Bt at *
  rw [Nat.pow_succ]
  omega
theorem bt_pow {k : Nat} {x : Int} (h : Bt k x) (n : Nat) : Bt (k * n + 1) (x ^ n) := by
  unfold Bt at *
  rw [Int.natAbs_pow, Nat.pow_succ, Nat.pow_mul]
  have h1 : x.natAbs ^ n ≤ (2 ^ k) ^ n := Nat.pow_le_pow_left (Nat.le_of_lt h) n
  have h2 : 0 < (2 ^ k) ^ n := Nat.pow_pos (Nat.pow_pos (by decide))
  omega
theorem sem_grid_of (ds : List D) (M : Mu) (Q : DK) (E : DXK) (h : sp_grid_of ds M Q E) : t_grid_of (dEnd Q) (dstart 11 ds) M := by
  obtain ⟨φ, pd, n, rfl, hP, hn, bn, h⟩ := h
  unfold t_grid_of
  walk_at "go"
  have hP' := hP
  cases hP with
  | sh k hB e =>
    cases k with
    | lin hc =>
      rename_i c0 c1
      have b0 := hB.2 c0 (by simp)
      have b1 := hB.2 c1 (by simp)
      have hq := h _ (Fl.congr hn e (fl_Q hc)) (by
        rw [← fdiv_pos hc]
        exact bt_up (bt_fdiv (bt_mul (bt_neg b0) bn)) (by decide))
      walk_at "sm"
      refine r_if ?_
      walk_at "sm"
      refine ⟨fun _ => ?_, fun z => absurd (of_decide_eq_false z) (by simp [iD])⟩
      walk_at "sm"
      refine ⟨cd_ok (by omega) b1 (by decide), ?_⟩
      rw [fdiv_pos hc]
      exact Wq.now hq
    | quad h2 hD hns hi =>
      rename_i i c0 c1 c2
      have b0 := hB.2 c0 (by simp)
      have b1 := hB.2 c1 (by simp)
      have b2 := hB.2 c2 (by simp)
      have b4 : Bt 3 (4 : Int) := bt_lit 3 (by decide)
      have b22 : Bt 2 (2 : Int) := bt_lit 2 (by decide)
      have hV : 0 ≤ disc c0 c1 c2 * (n * n) := Int.mul_nonneg (Int.le_of_lt hD) (sq_nn n)
      have eV : (c1 * c1 - 4 * c0 * c2) * n * n = disc c0 c1 c2 * (n * n) := by unfold disc; grind
      walk_at "sm"
      refine r_if ?_
      walk_at "sm"
      refine ⟨fun z => absurd (of_decide_eq_true z) (by simp [iD]), fun _ => ?_⟩
      walk_at "sm"
      refine r_if ?_
      walk_at "sm"
      refine ⟨fun _ => ?_, fun z => absurd (of_decide_eq_false z) (by simp [iD])⟩
      walk_at "sm"
      refine ⟨_, rfl, by rw [eV]; exact hV, bt_up (bt_mul (bt_mul (bt_sub1 (k := 1403) (bt_up (bt_mul b1 b1) (by decide)) (bt_mul (bt_mul b4 b0) b2)) bn) bn) (by decide), fun r hr hrb => ?_⟩
      rw [eV] at hr
      walk_at "sm"
      refine r_if ?_
      walk_at "sm"
      have hd2 : CDivX (2 * c2) := cd_ok (by omega) (bt_mul b22 b2) (by decide)
      rcases hi with rfl | rfl
      · refine ⟨fun _ => ?_, fun z => absurd (of_decide_eq_false z) (by decide)⟩
        walk_at "sm"
        refine ⟨hd2, ?_⟩
        rw [fdiv_pos (by omega)]
        have hf := fl_M (A := -c1) (D := 2 * c2) (by omega) hr (quad_ne hn hns r)
        refine Wq.now (h _ (Fl.congr hn e hf) ?_)
        rw [← fdiv_pos (show 0 < 2 * c2 by omega)]
        have b5 : Bt 1401 (-c1 * n) := bt_up (bt_mul (bt_neg b1) bn) (by decide)
        refine bt_fdiv ?_
        unfold Bt at *
        omega
      · refine ⟨fun z => absurd (of_decide_eq_true z) (by decide), fun _ => ?_⟩
        walk_at "sm"
        refine ⟨hd2, ?_⟩
        rw [fdiv_pos (by omega)]
        have hf := fl_P (A := -c1) (D := 2 * c2) (by omega) hr
        refine Wq.now (h _ (Fl.congr hn e hf) ?_)
        rw [← fdiv_pos (show 0 < 2 * c2 by omega)]
        have b5 : Bt 1401 (-c1 * n) := bt_up (bt_mul (bt_neg b1) bn) (by decide)
        refine bt_fdiv ?_
        unfold Bt at *
        omega
  | rad hr b0 hl hbb e =>
    rename_i S T b k
    have C := cutR hr.ok.hT hr.ok.hk (S := S)
    obtain ⟨lo, hi⟩ := rad_low hr.ok b0 hl
    have hlen := hr.ok.sh.len
    have hl4 : 4 ≤ (radL S T k).length := by rcases hr.ok.hk with rfl | rfl | rfl <;> simp [radL]
    have bnb := bt_neg hbb
    have b1 : Bt 1 (1 : Int) := bt_lit 1 (by decide)
    have hbn : Bt 1420 (b * n) := bt_mul hbb bn
    have hbn0 : 0 < b * n := Int.mul_pos b0 hn
    have lo' : cR S T k (-(b * n)) n = 1 := by
      have e1 := C.hom (-(b * n)) n (-b) 1 hn (by decide) (by rw [Int.mul_one, Int.neg_mul])
      rw [e1]; exact lo
    have hi' : cR S T k (b * n) n = -1 := by
      have e1 := C.hom (b * n) n b 1 hn (by decide) (by rw [Int.mul_one])
      rw [e1]; exact hi
    unfold frD at hP' ⊢
    walk_at "sm"
    refine r_if ?_
    walk_at "sm"
    rw [iD_len]
    refine ⟨fun z => absurd (of_decide_eq_true z) (by omega), fun _ => ?_⟩
    walk_at "sm"
    refine r_if ?_
    walk_at "sm"
    rw [iD_len]
    refine ⟨fun z => absurd (of_decide_eq_true z) (by omega), fun _ => ?_⟩
    walk_at "sm"
    refine ⟨cd_ok (by decide) b1 (by decide), ?_⟩
    rw [fdiv_pos (by decide), Int.ediv_one, Int.neg_mul]
    walk_at "sm"
    refine ⟨cd_ok (by decide) b1 (by decide), ?_⟩
    rw [fdiv_pos (by decide), Int.ediv_one, Int.neg_mul]
    walk_at "sm"
    rw [Int.neg_neg]
    refine r_while (fun m δ M' => ∃ (u o : Int) (s10 : Option D), m = (o - u).toNat ∧ -(b * n) ≤ u ∧ o ≤ b * n ∧ cR S T k u n = 1 ∧ cR S T k o n = -1 ∧ M' = M ∧ δ = [some (.tup [.tup (iD (radL S T k)), .int 1, .tup [.int (-b), .int 1], .tup [.int b, .int 1], .int (-1)]), some (.int n), some (.tup (iD (radL S T k))), some (.int 1), some (.tup [.int (-b), .int 1]), some (.tup [.int b, .int 1]), some (.int (-1)), none, some (.int u), some (.int o), s10]) _ ⟨_, _, none, rfl, Int.le_refl _, Int.le_refl _, lo', hi', rfl, rfl⟩ ?_
    rintro m δ M' ⟨u, o, s10, rfl, hu, ho, cu, co, rfl, rfl⟩
    have huo : u < o := by
      have := C.lt_of hn hn (by omega : 0 ≤ cR S T k u n) co
      exact Int.lt_of_mul_lt_mul_right this (Int.le_of_lt hn)
    walk_at "sm"
    refine ⟨fun z => ?_, fun z => ?_⟩
    · have z := of_decide_eq_true z
      walk_at "sm"
      refine ⟨cd_ok (by decide) (bt_lit 2 (by decide)) (by decide), ?_⟩
      rw [fdiv_pos (by decide)]
      have h1 : u < (u + o) / 2 := by omega
      have h2 : (u + o) / 2 < o := by omega
      generalize (u + o) / 2 = w at h1 h2 ⊢
      walk_at "sm"
      refine r_if ?_
      walk_at "sm"
      refine ⟨φ, _, w, n, rfl, hP', hn, ?_, bt_up bn (by decide), ?_⟩
      · unfold Bt at *; omega
      rw [e w n hn]
      walk_at "sm"
      rcases rad_ne hr (n := w) hn with e1 | e1
      · rw [e1]
        refine ⟨fun _ => ?_, fun z => absurd (of_decide_eq_false z) (by decide)⟩
        walk_at "sm"
        exact ⟨_, by omega, w, o, _, rfl, by omega, ho, e1, co, by trivial, by trivial⟩
      · rw [e1]
        refine ⟨fun z => absurd (of_decide_eq_true z) (by decide), fun _ => ?_⟩
        walk_at "sm"
        exact ⟨_, by omega, u, w, _, rfl, hu, by omega, cu, e1, by trivial, by trivial⟩
    · have z := of_decide_eq_false z
      have ho1 : o = u + 1 := by omega
      subst ho1
      walk_at "sm"
      refine Wq.now (h u (Fl.congr hn e ⟨by rw [cu]; decide, co⟩) ?_)
      unfold Bt at *
      omega
theorem sem_power_of (ds : List D) (M : Mu) (Q : DK) (E : DXK) (h : sp_power_of ds M Q E) : t_power_of (dEnd Q) (dstart 4 ds) M := by
  obtain ⟨b, e, rfl, hb, he, h⟩ := h
  unfold t_power_of
  walk_at "go"
  refine r_while (fun k δ M' => ∃ (w x : Nat) (s3 : Option D), x + w * k = e ∧ w ≤ 2 * e + 1 ∧ M' = M ∧ δ = [some (.int (b ^ w)), some (.int (k : Int)), some (.int (b ^ x)), s3]) e ⟨1, 0, none, by omega, by omega, rfl, by rw [Int.pow_one, Int.pow_zero]⟩ ?_
  rintro k δ M' ⟨w, x, s3, hx, hw, rfl, rfl⟩
  walk_at "st"
  refine ⟨fun z => ?_, fun z => ?_⟩
  · have z : 0 < k := by have := of_decide_eq_true z; omega
    walk_at "st"
    refine ⟨⟨by decide, PyProof.noPylong_small (by decide)⟩, ?_⟩
    walk_at "st"
    obtain ⟨q, o, hk, ho⟩ : ∃ q o : Nat, k = 2 * q + o ∧ o < 2 := ⟨k / 2, k % 2, by omega, by omega⟩
    have e1 : (k : Int) / 2 = (q : Int) := by omega
    have e2 : (k : Int) % 2 = (o : Int) := by omega
    rw [e1, e2]
    have hwk : w ≤ w * k := Nat.le_mul_of_pos_right w z
    have hwe : w ≤ e := by omega
    have bw : Bt 400 (b ^ w) := bt_up (bt_pow hb w) (by omega)
    have bx : Bt 400 (b ^ x) := bt_up (bt_pow hb x) (by omega)
    have ek : w * k = w * o + (2 * w) * q := by rw [hk]; grind
    refine r_if ?_
    walk_at "st"
    refine ⟨fun y => ?_, fun y => ?_⟩
    · have : o = 1 := by have := of_decide_eq_true y; omega
      subst this
      walk_at "st"
      refine ⟨cm_ok bx bw (by decide), ?_⟩
      walk_at "st"
      refine ⟨cm_ok bw bw (by decide), ?_⟩
      walk_at "st"
      refine ⟨q, by omega, 2 * w, x + w, some (.int ((1 : Nat) : Int)), by omega, by omega, by trivial, ?_⟩
      rw [← Int.pow_add, ← Int.pow_add, show w + w = 2 * w by omega]
    · have : o = 0 := by have := of_decide_eq_false y; omega
      subst this
      walk_at "st"
      refine ⟨cm_ok bw bw (by decide), ?_⟩
      walk_at "st"
      refine ⟨q, by omega, 2 * w, x, some (.int ((0 : Nat) : Int)), by omega, by omega, by trivial, ?_⟩
      rw [← Int.pow_add, show w + w = 2 * w by omega]
  · have z : k = 0 := by have := of_decide_eq_false z; omega
    subst z
    walk_at "st"
    have : x = e := by omega
    subst this
    exact Wq.now h
theorem sem_head (ds : List D) (M : Mu) (Q : DK) (E : DXK) (h : sp_head ds M Q E) : t_head (dEnd Q) (dstart 3 ds) M := by
  obtain ⟨φ, d, b, e, rfl, hK, b0, hb, he, h⟩ := h
  unfold t_head
  walk_at "go"
  refine ⟨φ, d, rfl, hK, fun pd hP => ?_⟩
  walk_at "st"
  refine ⟨b, e, rfl, hb, he, ?_⟩
  walk_at "st"
  exact ⟨φ, pd, _, rfl, hP, Int.pow_pos b0, bt_up (bt_pow hb e) (by omega), fun f hf _ => Wq.now (h f hf)⟩
theorem sem_near (ds : List D) (M : Mu) (Q : DK) (E : DXK) (h : sp_near ds M Q E) : t_near (dEnd Q) (dstart 5 ds) M := by
  obtain ⟨φ, d, p, q, rfl, hK, hp, hq, bp, bq, h1, h2⟩ := h
  unfold t_near frD
  walk_at "go"
  refine ⟨φ, d, rfl, hK, fun c0 c1 hd => ?_, fun hd => ?_⟩
  · unfold frD
    walk_at "st"
    refine r_if ?_
    walk_at "st"
    refine ⟨fun _ => ?_, fun z => absurd z (by simp [DL.isNon])⟩
    walk_at "st"
    exact Wq.now (h1 c0 c1 hd)
  · walk_at "st"
    refine r_if ?_
    walk_at "st"
    refine ⟨fun z => absurd z (by simp [DL.isNon]), fun _ => ?_⟩
    walk_at "sm"
    refine ⟨cd_ok (by omega) bp (by decide), ?_⟩
    rw [fdiv_pos hp]
    walk_at "sm"
    have hm := Int.emod_nonneg (-q) (show p ≠ 0 by omega)
    have hm2 := Int.emod_lt_of_pos (-q) hp
    have hm3 := Int.emod_add_mul_ediv (-q) p
    have e1 : p * (-q / p) = -(-(-q / p) * p) := by grind
    have hnb : Bt 601 (-(-q / p)) := by
      have := bt_fdiv (j := p) (bt_neg bq)
      rw [fdiv_pos hp] at this
      exact bt_up (bt_neg this) (by decide)
    have hn1 : q ≤ -(-q / p) * p := by omega
    have hn0 : 0 < -(-q / p) := by
      rcases Int.lt_or_le 0 (-(-q / p)) with z | z
      · exact z
      · have := Int.mul_le_mul_of_nonneg_right z (Int.le_of_lt hp)
        rw [Int.zero_mul] at this
        omega
    generalize -(-q / p) = n at hnb hn1 hn0 ⊢
    refine ⟨φ, d, rfl, hK, fun pd hP => ?_⟩
    walk_at "sm"
    refine ⟨φ, pd, n, rfl, hP, hn0, bt_up hnb (by decide), fun f hf hfb => ?_⟩
    have bf1 : Bt 4101 (f + 1) := by unfold Bt at *; omega
    walk_at "sm"
    refine ⟨f, n, rfl, hn0, bt_up hfb (by decide), bt_up hnb (by decide), fun g a b hg e2 e3 hc => ?_⟩
    walk_at "sm"
    refine ⟨f + 1, n, rfl, hn0, bt_up bf1 (by decide), bt_up hnb (by decide), fun g2 a2 b2 hg2 e4 e5 hc2 => ?_⟩
    walk_at "sm"
    exact Wq.now (h2 hd n f g a b g2 a2 b2 hn0 hn1 hf hg e2 e3 hc hg2 e4 e5 hc2 hfb hnb)
end SU

set_option exponentiation.threshold 5000
namespace SU
open PySem PySem.Spec PyProof.Rows L2 TL DL
local macro_rules | `(tactic| walk_at "st1") => `(tactic| first
  | with_reducible refine r_sq ?_ | with_reducible refine r_nx ?_ | with_reducible refine r_rt ?_ | with_reducible refine r_rtN ?_ | with_reducible refine r_ex ?_ | with_reducible refine r_as ?_ | with_reducible refine r_bk ?_ | with_reducible refine r_ct ?_
  | ((with_reducible apply r_var); exact rfl) | with_reducible refine r_c ?_ | with_reducible refine r_op ?_ | with_reducible refine r_un ?_ | with_reducible refine r_neg ?_
  | ((with_reducible refine r_dgN rfl ?_); (try simp only [List.set]))
  | with_reducible refine r_dgSub ?_ | with_reducible refine r_dgT rfl ?_ | with_reducible refine r_dga0 ?_ | with_reducible refine r_dga1 ?_ | with_reducible refine r_auS ?_ | ((with_reducible apply r_au); exact rfl)
  | with_reducible refine r_par ?_ | ((with_reducible refine r_kPar rfl ?_); (try simp only [List.set]))
  | with_reducible refine r_addI ?_ | with_reducible refine r_addS ?_ | with_reducible refine r_addT ?_ | with_reducible refine r_addL ?_ | with_reducible refine r_subI ?_ | with_reducible refine r_mulI ?_ | with_reducible refine r_fdiv ?_ | with_reducible refine r_mod ?_ | with_reducible refine r_pow ?_ | with_reducible refine r_shl ?_
  | with_reducible refine r_eqI ?_ | with_reducible refine r_eqS ?_ | with_reducible refine r_eqB ?_ | with_reducible refine r_neI ?_ | with_reducible refine r_neS ?_ | with_reducible refine r_neB ?_ | with_reducible refine r_ltI ?_ | with_reducible refine r_gtI ?_ | with_reducible refine r_leI ?_ | with_reducible refine r_geI ?_ | with_reducible refine r_isN ?_ | with_reducible refine r_notN ?_ | with_reducible refine r_inS ?_
  | with_reducible refine r_test ?_ | with_reducible refine r_kB ?_ | with_reducible refine r_tru ?_ | with_reducible refine r_kTb ?_ | with_reducible refine r_kTi ?_ | with_reducible refine r_kTn ?_ | with_reducible refine r_kTl ?_ | with_reducible refine r_kTt ?_ | with_reducible refine r_kTs ?_ | with_reducible refine r_not ?_ | with_reducible refine r_notV ?_ | with_reducible refine r_yes ?_
  | with_reducible refine r_nil ?_ | with_reducible refine r_cons ?_ | with_reducible refine r_tup ?_ | with_reducible refine r_lst ?_ | with_reducible refine r_newF ?_ | with_reducible refine r_cb ?_
  | with_reducible refine r_lenS ?_ | with_reducible refine r_lenL ?_ | with_reducible refine r_lenT ?_ | with_reducible refine r_lenSrc ?_ | with_reducible refine r_abs ?_ | with_reducible refine r_min2 ?_ | with_reducible refine r_max2 ?_ | with_reducible refine r_intI ?_ | with_reducible refine r_str ?_ | with_reducible refine r_tupT ?_ | with_reducible refine r_tupL ?_ | with_reducible refine r_divmod ?_
  | with_reducible refine r_sl ?_ | with_reducible refine r_noP ?_ | with_reducible refine r_part ?_ | with_reducible refine r_kP ?_ | with_reducible refine r_slS ?_ | with_reducible refine r_slT ?_ | with_reducible refine r_slL ?_ | with_reducible refine r_slSrc ?_
  | with_reducible refine r_bm ?_ | with_reducible refine r_tyS ?_ | with_reducible refine r_starts ?_ | with_reducible refine r_count ?_ | with_reducible refine r_call ?_ | with_reducible refine r_for ?_ | with_reducible refine r_seq ?_ | with_reducible refine r_kIt ?_ | with_reducible refine r_kIl ?_ | with_reducible refine r_kIs ?_ | with_reducible refine r_kIsrc ?_ | with_reducible refine r_r1 ?_ | with_reducible refine r_r2 ?_ | with_reducible refine r_lc ?_
  | with_reducible refine lit0 ?_ | with_reducible refine lit1 ?_ | with_reducible refine lit2 ?_ | with_reducible refine lit3 ?_ | with_reducible refine lit4 ?_ | with_reducible refine lit5 ?_ | with_reducible refine lit6 ?_ | with_reducible refine lit7 ?_
  | with_reducible refine r_callX ?_ | with_reducible refine r_callE ?_ | with_reducible refine r_try ?_ | with_reducible refine r_isE ?_ | with_reducible refine r_fld ?_ | with_reducible refine r_excK ?_ | with_reducible refine r_raise ?_
  | with_reducible refine r_subB ?_ | with_reducible refine r_r3 ?_ | with_reducible refine r_rev ?_ | with_reducible refine r_kRv ?_
  | fail)
local macro_rules | `(tactic| walk_at "st") => `(tactic| repeat (first | walk_at "st1" | dsimp only))
local macro_rules | `(tactic| walk_at "go") => `(tactic| (simp only [dstart, dEnd, List.map_cons, List.map_nil, List.length_cons, List.length_nil, Nat.reduceAdd, Nat.reduceSub, Nat.zero_add, List.replicate, List.cons_append, List.nil_append]; walk_at "st"))

local macro_rules | `(tactic| walk_at "bt") => `(tactic| first | with_reducible assumption | ((with_reducible apply bt_mul) <;> walk_at "bt") | ((with_reducible apply bt_sub) <;> walk_at "bt") | ((with_reducible apply bt_add) <;> walk_at "bt") | ((with_reducible apply bt_neg) <;> walk_at "bt") | ((with_reducible apply bt_abs) <;> walk_at "bt") | ((with_reducible apply bt_fdiv) <;> walk_at "bt") | exact bt_lit 64 (by decide +kernel))
local macro_rules | `(tactic| walk_at "cm") => `(tactic| ((with_reducible refine And.intro ?_ ?_); (focus ((with_reducible apply cm_ok) <;> first | decide | walk_at "bt"))))
local macro_rules | `(tactic| walk_at "sm") => `(tactic| repeat (first | walk_at "st1" | ((with_reducible apply r_idxT); exact rfl) | ((with_reducible apply r_idxL); exact rfl) | dsimp only | walk_at "cm"))

/-! ### the law's side -/
structure SuOk (k : Nat) (x : Su) : Prop where
  a : Bt k x.a
  b : Bt k x.b
  c : Bt k x.c
  d : Bt k x.d
  d0 : 0 < x.d
  or : (x.b = 0 ∧ x.c = 0) ∨ (x.b ≠ 0 ∧ 0 < x.c ∧ NonSq x.c)
  co : x.b = 0 → Int.gcd x.a x.d = 1
theorem SuOk.up {k l : Nat} {x : Su} (h : SuOk k x) (l' : k ≤ l) : SuOk l x := ⟨bt_up h.a l', bt_up h.b l', bt_up h.c l', bt_up h.d l', h.d0, h.or, h.co⟩
theorem SuOk.okc {k : Nat} {x : Su} (h : SuOk k x) : Okc x.b x.c := by
  rcases h.or with ⟨h1, h2⟩ | ⟨h1, h2, h3⟩
  · exact .inr ⟨h1, by omega⟩
  · exact .inl ⟨h2, h3⟩
theorem SuOk.c0 {k : Nat} {x : Su} (h : SuOk k x) : 0 ≤ x.c := h.okc.c0
theorem SuOk.cut {k : Nat} {x : Su} (h : SuOk k x) : Cut (cS x) := cutS h.d0 h.c0
def suD (x : Su) : D := .tup [.int x.a, .int x.b, .int x.c, .int x.d]
def sp_law_power : DSp := fun ds M Q _ => ∃ (b : Int) (n : Nat) (k : Nat), ds = [.int b, .int (n : Int)] ∧ Bt k b ∧ n ≤ 64 ∧ k ≤ 10000 ∧ Q (.int (b ^ n)) M
def sp_law_common : DSp := fun ds M Q _ => ∃ (a b : Int), ds = [.int a, .int b] ∧ Bt 8000 a ∧ Bt 8000 b ∧ Q (.int (Int.gcd a b : Int)) M
def sp_law_ratio : DSp := fun ds M Q _ => ∃ (p q : Int), ds = [.int p, .int q] ∧ 0 < q ∧ Bt 8000 p ∧ Bt 8000 q ∧ ∀ g n m, 0 < g → p = g * n → q = g * m → Int.gcd n m = 1 → Q (frD n m) M
def sp_law_isqrt : DSp := fun ds M Q _ => ∃ (n : Int), ds = [.int n] ∧ 0 ≤ n ∧ Bt 4000 n ∧ ∀ r, Rt n r → Q (.int r) M
def sp_law_surd : DSp := fun ds M Q _ => ∃ (a b c d : Int) (k : Nat), ds = [.int a, .int b, .int c, .int d] ∧ Bt k a ∧ Bt k b ∧ Bt k c ∧ Bt k d ∧ 1 ≤ k ∧ k ≤ 700 ∧ 0 < d ∧ 0 ≤ c ∧
  ∀ x, SuOk (2 * k + 1) x → (∀ n m, 0 < m → cS x n m = s2 (a * m - n * d) (b * m) c) → Q (suD x) M
def sp_law_sign : DSp := fun ds M Q _ => ∃ (n : Int), ds = [.int n] ∧ Q (.int (sg n)) M
def sp_law_sign_two : DSp := fun ds M Q _ => ∃ (a b c : Int), ds = [.int a, .int b, .int c] ∧ Bt 20000 a ∧ Bt 20000 b ∧ Bt 20000 c ∧ Q (.int (s2 a b c)) M
def sp_law_sign_three : DSp := fun ds M Q _ => ∃ (a b c d e : Int), ds = [.int a, .int b, .int c, .int d, .int e] ∧ Bt 5500 a ∧ Bt 5500 b ∧ Bt 2000 c ∧ Bt 5500 d ∧ Bt 2000 e ∧ Q (.int (s3 a b c d e)) M
def sp_law_surd_order : DSp := fun ds M Q _ => ∃ (x y : Su), ds = [suD x, suD y] ∧ Bt 4200 x.a ∧ Bt 1200 x.b ∧ Bt 1200 x.c ∧ Bt 1200 x.d ∧ Bt 4200 y.a ∧ Bt 1200 y.b ∧ Bt 1200 y.c ∧ Bt 1200 y.d ∧ Q (.int (so x y)) M
def sp_law_surd_floor : DSp := fun ds M Q _ => ∃ (x : Su) (n : Int), ds = [suD x, .int n] ∧ SuOk 700 x ∧ 0 < n ∧ Bt 600 n ∧ ∀ f, Fl (cS x) n f → Q (.int f) M
def t_law_power : DTS := (dSq (dAs (dC (.int 1)) (dgN 2)) (dSq (dFor (diR1 (dCons (dVar 1) dNil)) (dgN 3) (dAs (dOp (dMul false) (dVar 2) (dVar 0)) (dgN 2))) (dRt (dVar 2))))
def t_law_common : DTS := (dSq (dWhile (dTest (dOp dNe (dVar 1) (dC (.int 0)))) (dSq (dAs (dOp dSub (dVar 0) (dOp (dMul false) (dOp dFdiv (dVar 0) (dVar 1)) (dVar 1))) (dgN 2)) (dSq (dAs (dVar 1) (dgN 0)) (dAs (dVar 2) (dgN 1))))) (dRt (dCB dAbs (dCons (dVar 0) dNil))))
def t_law_ratio : DTS := (dSq (dAs (dCall sp_law_common [] dX0 (dCons (dVar 0) (dCons (dVar 1) dNil))) (dgN 2)) (dSq (dIfS (dTest (dOp dLt (dVar 1) (dC (.int 0)))) (dAs (dUn dNeg (dVar 2)) (dgN 2)) dNx) (dRt (dTup (dCons (dOp dFdiv (dVar 0) (dVar 2)) (dCons (dOp dFdiv (dVar 1) (dVar 2)) dNil))))))
def t_law_isqrt : DTS := (dSq (dIfS (dTest (dOp dLt (dVar 0) (dC (.int 2)))) (dRt (dVar 0)) dNx) (dSq (dAs (dOp dShl (dC (.int 1)) (dOp dFdiv (dOp (dAdd false) (dBits (dVar 0)) (dC (.int 1))) (dC (.int 2)))) (dgN 1)) (dSq (dAs (dOp dFdiv (dOp (dAdd false) (dVar 1) (dOp dFdiv (dVar 0) (dVar 1))) (dC (.int 2))) (dgN 2)) (dSq (dWhile (dTest (dOp dLt (dVar 2) (dVar 1))) (dSq (dAs (dVar 2) (dgN 1)) (dAs (dOp dFdiv (dOp (dAdd false) (dVar 1) (dOp dFdiv (dVar 0) (dVar 1))) (dC (.int 2))) (dgN 2)))) (dRt (dVar 1))))))
def t_law_surd : DTS := (dSq (dAs (dCall sp_law_isqrt [] dX0 (dCons (dVar 2) dNil)) (dgN 4)) (dSq (dIfS (dTest (dOp dEq (dOp (dMul false) (dVar 4) (dVar 4)) (dVar 2))) (dSq (dAs (dOp (dAdd false) (dVar 0) (dOp (dMul false) (dVar 1) (dVar 4))) (dgN 0)) (dAs (dC (.int 0)) (dgN 1))) dNx) (dSq (dIfS (dTest (dOp dEq (dVar 1) (dC (.int 0)))) (dAs (dC (.int 0)) (dgN 2)) dNx) (dSq (dAs (dCall sp_law_common [] dX0 (dCons (dCall sp_law_common [] dX0 (dCons (dVar 0) (dCons (dVar 1) dNil))) (dCons (dVar 3) dNil))) (dgN 5)) (dSq (dIfS (dTest (dOp dLt (dVar 3) (dC (.int 0)))) (dAs (dUn dNeg (dVar 5)) (dgN 5)) dNx) (dRt (dTup (dCons (dOp dFdiv (dVar 0) (dVar 5)) (dCons (dOp dFdiv (dVar 1) (dVar 5)) (dCons (dVar 2) (dCons (dOp dFdiv (dVar 3) (dVar 5)) dNil)))))))))))
def t_law_sign : DTS := (dRt (dIf (dTest (dOp dGt (dVar 0) (dC (.int 0)))) (dC (.int 1)) (dIf (dTest (dOp dLt (dVar 0) (dC (.int 0)))) (dUn dNeg (dC (.int 1))) (dC (.int 0)))))
def t_law_sign_two : DTS := (dSq (dIfS (dOr (dTest (dOp dEq (dVar 1) (dC (.int 0)))) (dTest (dOp dEq (dVar 2) (dC (.int 0))))) (dRt (dCall sp_law_sign [] dX0 (dCons (dVar 0) dNil))) dNx) (dSq (dIfS (dOr (dTest (dOp dEq (dVar 0) (dC (.int 0)))) (dTest (dOp dEq (dOp dGt (dVar 0) (dC (.int 0))) (dOp dGt (dVar 1) (dC (.int 0)))))) (dRt (dCall sp_law_sign [] dX0 (dCons (dVar 1) dNil))) dNx) (dRt (dOp (dMul false) (dCall sp_law_sign [] dX0 (dCons (dVar 0) dNil)) (dCall sp_law_sign [] dX0 (dCons (dOp dSub (dOp (dMul false) (dVar 0) (dVar 0)) (dOp (dMul false) (dOp (dMul false) (dVar 1) (dVar 1)) (dVar 2))) dNil))))))
def t_law_sign_three : DTS := (dSq (dAs (dCall sp_law_sign_two [] dX0 (dCons (dVar 0) (dCons (dVar 1) (dCons (dVar 2) dNil)))) (dgN 5)) (dSq (dAs (dIf (dTest (dOp dGt (dVar 4) (dC (.int 0)))) (dCall sp_law_sign [] dX0 (dCons (dVar 3) dNil)) (dC (.int 0))) (dgN 6)) (dSq (dIfS (dOr (dTest (dOp dEq (dVar 5) (dC (.int 0)))) (dOr (dTest (dOp dEq (dVar 6) (dC (.int 0)))) (dTest (dOp dEq (dVar 5) (dVar 6))))) (dRt (dIf (dTest (dOp dNe (dVar 5) (dC (.int 0)))) (dVar 5) (dVar 6))) dNx) (dRt (dOp (dMul false) (dVar 5) (dCall sp_law_sign_two [] dX0 (dCons (dOp dSub (dOp (dAdd false) (dOp (dMul false) (dVar 0) (dVar 0)) (dOp (dMul false) (dOp (dMul false) (dVar 1) (dVar 1)) (dVar 2))) (dOp (dMul false) (dOp (dMul false) (dVar 3) (dVar 3)) (dVar 4))) (dCons (dOp (dMul false) (dOp (dMul false) (dC (.int 2)) (dVar 0)) (dVar 1)) (dCons (dVar 2) dNil)))))))))
def t_law_surd_order : DTS := (dRt (dCall sp_law_sign_three [] dX0 (dCons (dOp dSub (dOp (dMul false) (dOp dIdx (dVar 0) (dC (.int 0))) (dOp dIdx (dVar 1) (dC (.int 3)))) (dOp (dMul false) (dOp dIdx (dVar 1) (dC (.int 0))) (dOp dIdx (dVar 0) (dC (.int 3))))) (dCons (dOp (dMul false) (dOp dIdx (dVar 0) (dC (.int 1))) (dOp dIdx (dVar 1) (dC (.int 3)))) (dCons (dOp dIdx (dVar 0) (dC (.int 2))) (dCons (dOp (dMul false) (dUn dNeg (dOp dIdx (dVar 1) (dC (.int 1)))) (dOp dIdx (dVar 0) (dC (.int 3)))) (dCons (dOp dIdx (dVar 1) (dC (.int 2))) dNil)))))))
def t_law_surd_floor : DTS := (dSq (dIfS (dTest (dOp dEq (dOp dIdx (dVar 0) (dC (.int 1))) (dC (.int 0)))) (dRt (dOp dFdiv (dOp (dMul false) (dOp dIdx (dVar 0) (dC (.int 0))) (dVar 1)) (dOp dIdx (dVar 0) (dC (.int 3))))) dNx) (dSq (dAs (dCall sp_law_isqrt [] dX0 (dCons (dOp (dMul false) (dOp (dMul false) (dOp (dMul false) (dOp (dMul false) (dOp dIdx (dVar 0) (dC (.int 1))) (dOp dIdx (dVar 0) (dC (.int 1)))) (dOp dIdx (dVar 0) (dC (.int 2)))) (dVar 1)) (dVar 1)) dNil)) (dgN 2)) (dRt (dIf (dTest (dOp dGt (dOp dIdx (dVar 0) (dC (.int 1))) (dC (.int 0)))) (dOp dFdiv (dOp (dAdd false) (dOp (dMul false) (dOp dIdx (dVar 0) (dC (.int 0))) (dVar 1)) (dVar 2)) (dOp dIdx (dVar 0) (dC (.int 3)))) (dOp dFdiv (dOp dSub (dOp dSub (dOp (dMul false) (dOp dIdx (dVar 0) (dC (.int 0))) (dVar 1)) (dVar 2)) (dC (.int 1))) (dOp dIdx (dVar 0) (dC (.int 3))))))))
theorem sem_law_power (ds : List D) (M : Mu) (Q : DK) (E : DXK) (h : sp_law_power ds M Q E) : t_law_power (dEnd Q) (dstart 4 ds) M := by
  obtain ⟨b, n, k, rfl, hb, hn, hk, h⟩ := h
  unfold t_law_power
  walk_at "go"
  refine r_kR1 (by omega) (by omega) ?_
  rw [Int.toNat_natCast]
  refine for_rng0 n (fun j δ M' => ∃ s3, M' = M ∧ δ = [some (.int b), some (.int (n : Int)), some (.int (b ^ j)), s3]) ?_ ?_ _ _ ⟨none, rfl, by simp⟩
  · rintro j δ M' N hj ⟨s3, rfl, rfl⟩ hN
    walk_at "st"
    have : k * j ≤ 10000 * 64 := Nat.mul_le_mul hk (by omega)
    refine ⟨cm_ok (bt_up (b := 1000000) (bt_pow hb j) (by omega)) (bt_up hb hk) (by decide), ?_⟩
    walk_at "st"
    exact hN _ _ ⟨_, rfl, by rw [Int.pow_succ]⟩
  · rintro δ M' ⟨s3, rfl, rfl⟩
    walk_at "st"
    exact Wq.now h
theorem sem_law_common (ds : List D) (M : Mu) (Q : DK) (E : DXK) (h : sp_law_common ds M Q E) : t_law_common (dEnd Q) (dstart 3 ds) M := by
  obtain ⟨a, b, rfl, ha, hb, h⟩ := h
  unfold t_law_common
  walk_at "go"
  refine r_while (fun k δ M' => ∃ (x y : Int) (s2 : Option D), k = y.natAbs ∧ Int.gcd x y = Int.gcd a b ∧ Bt 8000 x ∧ Bt 8000 y ∧ M' = M ∧ δ = [some (.int x), some (.int y), s2]) _ ⟨a, b, none, rfl, rfl, ha, hb, rfl, rfl⟩ ?_
  rintro k δ M' ⟨x, y, s2, rfl, e, hx, hy, rfl, rfl⟩
  walk_at "st"
  refine ⟨fun z => ?_, fun z => ?_⟩
  · have hy0 : y ≠ 0 := by simpa using z
    walk_at "st"
    refine ⟨cd_ok hy0 hy (by decide), ?_⟩
    walk_at "st"
    refine ⟨cm_ok (bt_fdiv hx) hy (by decide), ?_⟩
    walk_at "st"
    have e2 : x - x.fdiv y * y = x.fmod y := by
      have := Int.fmod_add_mul_fdiv x y
      have e3 : x.fdiv y * y = y * x.fdiv y := Int.mul_comm _ _
      omega
    rw [e2]
    exact ⟨_, fmod_lt hy0, y, x.fmod y, some (.int (x.fmod y)), rfl, (gcd_step x y).trans e, hy, Nat.lt_trans (fmod_lt hy0) hy, by simp⟩
  · have hy0 : y = 0 := by simpa using z
    subst hy0
    walk_at "st"
    rw [Int.gcd_zero_right] at e
    rw [← e] at h
    exact Wq.now h
theorem sem_law_ratio (ds : List D) (M : Mu) (Q : DK) (E : DXK) (h : sp_law_ratio ds M Q E) : t_law_ratio (dEnd Q) (dstart 3 ds) M := by
  obtain ⟨p, q, rfl, hq, hpb, hqb, h⟩ := h
  have hg := gcd_pos (a := p) (b := q) (by omega)
  have hgb := gcd_bt (a := p) hqb (by omega)
  unfold t_law_ratio
  walk_at "go"
  refine ⟨p, q, rfl, hpb, hqb, ?_⟩
  walk_at "st"
  refine r_if ?_
  walk_at "st"
  refine ⟨fun z => absurd (of_decide_eq_true z) (by omega), fun _ => ?_⟩
  walk_at "st"
  refine ⟨cd_ok (by omega) hgb (by decide), ?_⟩
  walk_at "st"
  refine ⟨cd_ok (by omega) hgb (by decide), ?_⟩
  walk_at "st"
  obtain ⟨u, hu⟩ : (Int.gcd p q : Int) ∣ p := Int.gcd_dvd_left ..
  obtain ⟨v, hv⟩ : (Int.gcd p q : Int) ∣ q := Int.gcd_dvd_right ..
  obtain ⟨G, hG⟩ : ∃ G, G = (Int.gcd p q : Int) := ⟨_, rfl⟩
  rw [← hG] at hu hv hg hgb ⊢
  subst hu hv
  rw [Int.mul_fdiv_cancel_left _ (by omega), Int.mul_fdiv_cancel_left _ (by omega)]
  exact Wq.now (h G u v hg rfl rfl (gcd_cut hg hG.symm))
theorem sem_law_sign (ds : List D) (M : Mu) (Q : DK) (E : DXK) (h : sp_law_sign ds M Q E) : t_law_sign (dEnd Q) (dstart 1 ds) M := by
  obtain ⟨n, rfl, h⟩ := h
  rw [sg_eq] at h
  unfold t_law_sign
  walk_at "go"
  refine r_dif ?_
  walk_at "st"
  refine ⟨fun z => ?_, fun z => ?_⟩
  · rw [if_pos (of_decide_eq_true z)] at h
    walk_at "st"
    exact Wq.now h
  · rw [if_neg (of_decide_eq_false z)] at h
    refine r_dif ?_
    walk_at "st"
    refine ⟨fun z => ?_, fun z => ?_⟩
    · rw [if_pos (of_decide_eq_true z)] at h
      walk_at "st"
      exact Wq.now h
    · rw [if_neg (of_decide_eq_false z)] at h
      walk_at "st"
      exact Wq.now h
theorem sg_bt (x : Int) : Bt 1 (sg x) := by
  rw [sg_eq]
  split
  · exact bt_lit 1 (by decide)
  · split <;> exact bt_lit 1 (by decide)
theorem sem_law_sign_two (ds : List D) (M : Mu) (Q : DK) (E : DXK) (h : sp_law_sign_two ds M Q E) : t_law_sign_two (dEnd Q) (dstart 3 ds) M := by
  obtain ⟨a, b, c, rfl, ha, hb, hc, h⟩ := h
  unfold t_law_sign_two
  unfold s2 at h
  walk_at "go"
  refine r_if (r_or ?_)
  walk_at "st"
  refine ⟨fun z => ?_, fun z => ?_⟩
  · rw [if_pos (.inl (of_decide_eq_true z))] at h
    refine ⟨fun _ => ?_, fun z => Bool.noConfusion z⟩
    walk_at "st"
    exact ⟨a, rfl, Wq.now h⟩
  have zb := of_decide_eq_false z
  walk_at "st"
  refine ⟨fun z => ?_, fun z => ?_⟩
  · rw [if_pos (.inr (of_decide_eq_true z))] at h
    walk_at "st"
    exact ⟨a, rfl, Wq.now h⟩
  have zc := of_decide_eq_false z
  rw [if_neg (by rintro (h | h); exact zb h; exact zc h)] at h
  walk_at "st"
  refine r_if (r_or ?_)
  walk_at "st"
  refine ⟨fun z => ?_, fun z => ?_⟩
  · rw [if_pos (.inl (of_decide_eq_true z))] at h
    refine ⟨fun _ => ?_, fun z => Bool.noConfusion z⟩
    walk_at "st"
    exact ⟨b, rfl, Wq.now h⟩
  have za := of_decide_eq_false z
  walk_at "st"
  refine ⟨fun z => ?_, fun z => ?_⟩
  · rw [if_pos (.inr (of_decide_eq_true z))] at h
    walk_at "st"
    exact ⟨b, rfl, Wq.now h⟩
  have zs := of_decide_eq_false z
  rw [if_neg (by rintro (h | h); exact za h; exact zs h)] at h
  walk_at "st"
  refine ⟨a, rfl, ?_⟩
  walk_at "st"
  refine ⟨cm_ok ha ha (by decide), ?_⟩
  walk_at "st"
  refine ⟨cm_ok hb hb (by decide), ?_⟩
  walk_at "st"
  refine ⟨cm_ok (bt_mul hb hb) hc (by decide), ?_⟩
  walk_at "st"
  refine ⟨_, rfl, ?_⟩
  walk_at "st"
  exact ⟨cm_ok (sg_bt _) (sg_bt _) (by decide), Wq.now h⟩
theorem s2_bt (a b c : Int) : Bt 2 (s2 a b c) := by
  unfold s2
  split
  · exact bt_up (sg_bt _) (by decide)
  · split
    · exact bt_up (sg_bt _) (by decide)
    · exact bt_mul (sg_bt _) (sg_bt _)
theorem sem_law_sign_three (ds : List D) (M : Mu) (Q : DK) (E : DXK) (h : sp_law_sign_three ds M Q E) : t_law_sign_three (dEnd Q) (dstart 7 ds) M := by
  obtain ⟨a, b, c, d, e, rfl, ha, hb, hc, hd, he, h⟩ := h
  unfold t_law_sign_three
  unfold s3 at h
  walk_at "go"
  refine ⟨a, b, c, rfl, bt_up ha (by decide), bt_up hb (by decide), bt_up hc (by decide), ?_⟩
  walk_at "st"
  obtain ⟨f, hf⟩ : ∃ f, f = s2 a b c := ⟨_, rfl⟩
  obtain ⟨l, hl⟩ : ∃ l : Int, l = if 0 < e then sg d else 0 := ⟨_, rfl⟩
  rw [← hf, ← hl] at h
  rw [← hf]
  refine via (P := fun d' M' => d' = .int l ∧ M = M') (fun Q' hQ' => ?_) ?_
  · refine r_dif ?_
    walk_at "st"
    refine ⟨fun z => ?_, fun z => ?_⟩
    · rw [if_pos (of_decide_eq_true z)] at hl
      walk_at "st"
      exact ⟨d, rfl, hQ' _ _ ⟨by rw [hl], rfl⟩⟩
    · rw [if_neg (of_decide_eq_false z)] at hl
      walk_at "st"
      exact hQ' _ _ ⟨by rw [hl], rfl⟩
  rintro _ _ ⟨rfl, rfl⟩
  walk_at "st"
  have pick : f = 0 ∨ l = 0 ∨ f = l → dRt (dIf (dTest (dOp dNe (dVar 5) (dC (.int 0)))) (dVar 5) (dVar 6)) { nx := fun x M => Wq Q D.non M, rt := Wq Q } [some (.int a), some (.int b), some (.int c), some (.int d), some (.int e), some (.int f), some (.int l)] M := by
    intro hor
    rw [if_pos hor] at h
    walk_at "st"
    refine r_dif ?_
    walk_at "st"
    refine ⟨fun z => ?_, fun z => ?_⟩
    · have z : f ≠ 0 := by simpa using z
      rw [if_pos z] at h
      walk_at "st"
      exact Wq.now h
    · have z : f = 0 := by simpa using z
      rw [if_neg (not_not_intro z)] at h
      walk_at "st"
      exact Wq.now h
  refine r_if (r_or ?_)
  walk_at "st"
  refine ⟨fun z => ⟨fun _ => pick (.inl (of_decide_eq_true z)), fun z => Bool.noConfusion z⟩, fun z => ?_⟩
  have z1 := of_decide_eq_false z
  refine r_or ?_
  walk_at "st"
  refine ⟨fun z => ⟨fun _ => pick (.inr (.inl (of_decide_eq_true z))), fun z => Bool.noConfusion z⟩, fun z => ?_⟩
  have z2 := of_decide_eq_false z
  walk_at "st"
  refine ⟨fun z => pick (.inr (.inr (of_decide_eq_true z))), fun z => ?_⟩
  have z3 := of_decide_eq_false z
  rw [if_neg (by rintro (h | h | h); exact z1 h; exact z2 h; exact z3 h)] at h
  walk_at "st"
  refine ⟨cm_ok ha ha (by decide), ?_⟩
  walk_at "st"
  refine ⟨cm_ok hb hb (by decide), ?_⟩
  walk_at "st"
  refine ⟨cm_ok (bt_mul hb hb) hc (by decide), ?_⟩
  walk_at "st"
  refine ⟨cm_ok hd hd (by decide), ?_⟩
  walk_at "st"
  refine ⟨cm_ok (bt_mul hd hd) he (by decide), ?_⟩
  walk_at "st"
  have b2 : Bt 2 (2 : Int) := bt_lit 2 (by decide)
  refine ⟨cm_ok b2 ha (by decide), ?_⟩
  walk_at "st"
  refine ⟨cm_ok (bt_mul b2 ha) hb (by decide), ?_⟩
  walk_at "st"
  have ad : ∀ {k : Nat} {i j : Int}, Bt k i → Bt k j → Bt (k + 1) (i + j) := fun h1 h2 => by
    unfold Bt at *; rw [Nat.pow_succ]; omega
  have sb : ∀ {k : Nat} {i j : Int}, Bt k i → Bt k j → Bt (k + 1) (i - j) := fun h1 h2 => by
    unfold Bt at *; rw [Nat.pow_succ]; omega
  refine ⟨_, _, c, rfl, ?_, bt_up (bt_mul (bt_mul b2 ha) hb) (by decide), bt_up hc (by decide), ?_⟩
  · refine bt_up (sb (k := 13065) (bt_up (ad (k := 13064) (bt_up (bt_mul ha ha) (by decide)) (bt_up (bt_mul (bt_mul hb hb) hc) (by decide))) (by decide)) (bt_up (bt_mul (bt_mul hd hd) he) (by decide))) (by decide)
  walk_at "st"
  rw [hf]
  refine ⟨cm_ok (s2_bt a b c) (s2_bt _ _ _) (by decide), ?_⟩
  rw [hf] at h
  exact Wq.now h
theorem sem_law_surd_order (ds : List D) (M : Mu) (Q : DK) (E : DXK) (h : sp_law_surd_order ds M Q E) : t_law_surd_order (dEnd Q) (dstart 2 ds) M := by
  obtain ⟨x, y, rfl, xa, xb, xc, xd, ya, yb, yc, yd, h⟩ := h
  unfold t_law_surd_order suD
  walk_at "go"
  walk_at "sm"
  exact ⟨_, _, _, _, _, rfl, bt_up (bt_sub1 (bt_mul xa yd) (bt_mul ya xd)) (by decide), bt_up (bt_mul xb yd) (by decide), bt_up xc (by decide), bt_up (bt_mul (bt_neg yb) xd) (by decide), bt_up yc (by decide), Wq.now h⟩
theorem sem_law_isqrt (ds : List D) (M : Mu) (Q : DK) (E : DXK) (h : sp_law_isqrt ds M Q E) : t_law_isqrt (dEnd Q) (dstart 3 ds) M := by
  obtain ⟨n, rfl, hn, hb, h⟩ := h
  unfold t_law_isqrt
  walk_at "go"
  refine r_if ?_
  walk_at "st"
  refine ⟨fun z => ?_, fun z => ?_⟩
  · have z := of_decide_eq_true z
    walk_at "st"
    exact Wq.now (h n (rt_small hn z))
  have hn2 : 2 ≤ n := by have := of_decide_eq_false z; omega
  clear z
  walk_at "st"
  refine r_bits ?_
  walk_at "st"
  refine ⟨n, rfl, ?_⟩
  have hbits : Builtin.Int.intBits n ≤ 4000 := PySem.intBits_le_iff.mpr hb
  have hlo : n.natAbs < 2 ^ Builtin.Int.intBits n := PySem.intBits_le_iff.mp (Nat.le_refl _)
  generalize Builtin.Int.intBits n = B at hbits hlo
  walk_at "st"
  refine ⟨div_fit 4 (by decide) (by decide), ?_⟩
  walk_at "st"
  rw [fdiv_pos (by decide)]
  obtain ⟨k, hk⟩ : ∃ k : Nat, ((B : Int) + 1) / 2 = k ∧ B ≤ 2 * k ∧ k ≤ 2001 := ⟨(((B : Int) + 1) / 2).toNat, by omega, by omega, by omega⟩
  rw [hk.1]
  refine ⟨⟨by omega, ?_⟩, ?_⟩
  · have : Builtin.Int.intBits (1 : Int) ≤ 1 := PySem.intBits_le_iff.mpr (by decide)
    have := hk.2.2
    omega
  rw [Int.toNat_natCast, Int.one_mul]
  have hr0 : (0 : Int) < 2 ^ k := Int.pow_pos (by decide)
  have hrb : Bt 2002 ((2 : Int) ^ k) := by
    unfold Bt
    rw [Int.natAbs_pow]
    exact Nat.pow_lt_pow_right (by decide) (by have := hk.2.2; omega)
  have hs0 := rt_start hlo hk.2.1
  generalize (2 : Int) ^ k = r at hr0 hrb hs0
  walk_at "st"
  have b2 : ∀ {r : Int}, 0 < r → Bt 2002 r → CDivX r := fun h1 h2 => cd_ok (by omega) h2 (by decide)
  refine ⟨b2 hr0 hrb, ?_⟩
  walk_at "st"
  refine ⟨div_fit 4 (by decide) (by decide), ?_⟩
  rw [fdiv_pos hr0, fdiv_pos (by decide)]
  walk_at "st"
  refine r_while (fun m δ M' => ∃ r : Int, m = r.toNat ∧ 0 < r ∧ Bt 2002 r ∧ (∀ s : Int, 0 ≤ s → s * s ≤ n → s ≤ r) ∧ M' = M ∧ δ = [some (.int n), some (.int r), some (.int ((r + n / r) / 2))]) _ ⟨r, rfl, hr0, hrb, hs0, rfl, rfl⟩ ?_
  rintro m δ M' ⟨r, rfl, hr0, hrb, hs0, rfl, rfl⟩
  have hq : 0 ≤ n / r := Int.ediv_nonneg hn (by omega)
  walk_at "st"
  refine ⟨fun z => ?_, fun z => ?_⟩
  · have z := of_decide_eq_true z
    have hb0 : 0 < (r + n / r) / 2 := by
      have h1 := rt_step (s := 1) (by decide) hr0 (show (1 : Int) * 1 ≤ n by omega)
      omega
    have hbb : Bt 2002 ((r + n / r) / 2) := by
      unfold Bt at *
      omega
    walk_at "st"
    refine ⟨b2 hb0 hbb, ?_⟩
    walk_at "st"
    refine ⟨div_fit 4 (by decide) (by decide), ?_⟩
    rw [fdiv_pos hb0, fdiv_pos (by decide)]
    walk_at "st"
    exact ⟨_, by omega, (r + n / r) / 2, rfl, hb0, hbb, fun s hs hh => rt_step hs hr0 hh, by simp⟩
  · have z := of_decide_eq_false z
    walk_at "st"
    refine Wq.now (h r ⟨by omega, ?_, hs0⟩)
    have h1 : r ≤ n / r := by omega
    exact (Int.le_ediv_iff_mul_le hr0).mp h1
theorem s2_sq {u v r : Int} (hr : 0 ≤ r) : s2 u v (r * r) = sg (u + v * r) := by
  rcases Int.lt_or_eq_of_le hr with h | h
  · rcases Int.lt_trichotomy v 0 with hv | hv | hv
    · rw [s2_M hv (sq_nn r)]
      have hV : 0 < v * v * (r * r) := Int.mul_pos (Int.mul_pos_of_neg_of_neg hv hv) (Int.mul_pos h h)
      have e : v * v * (r * r) = (-v * r) * (-v * r) := by grind
      have hvr : 0 < -v * r := Int.mul_pos (by omega) h
      have e2 : -v * r = -(v * r) := Int.neg_mul ..
      have p := pl_p (u := -u) (Int.le_of_lt hV)
      rw [e] at p ⊢
      rcases Int.lt_trichotomy (u + v * r) 0 with h1 | h1 | h1
      · rw [sg_neg h1, p.mpr]
        rcases Int.lt_trichotomy (-u) 0 with h2 | h2 | h2
        · refine .inr (.inr ⟨h2, ?_⟩)
          rw [Int.neg_mul_neg]
          exact sq_smono (by omega) (by omega)
        · exact .inr (.inl ⟨h2, by rw [← e]; exact hV⟩)
        · exact .inl h2
      · rw [h1, pl_neg_u (by omega)]
        have e3 : -v * r * (-v * r) - -u * -u = 0 := by
          have : u = -v * r := by omega
          rw [← this, Int.neg_mul_neg]; omega
        rw [e3]; rfl
      · rw [sg_pos h1, pl_neg_u (by omega), sg_neg]
        · rfl
        · have := sq_smono (s := -v * r) (r := u) (by omega) (by omega)
          rw [Int.neg_mul_neg]
          omega
    · subst hv
      rw [s2_b0, Int.zero_mul, Int.add_zero]
    · rw [s2_P hv (sq_nn r)]
      have hV : 0 < v * v * (r * r) := Int.mul_pos (Int.mul_pos hv hv) (Int.mul_pos h h)
      have e : v * v * (r * r) = (v * r) * (v * r) := by grind
      have hvr : 0 < v * r := Int.mul_pos hv h
      have p := pl_p (u := u) (Int.le_of_lt hV)
      rw [e] at p ⊢
      rcases Int.lt_trichotomy (u + v * r) 0 with h1 | h1 | h1
      · rw [sg_neg h1, pl_neg_u (by omega), sg_neg]
        have := sq_smono (s := v * r) (r := -u) (by omega) (by omega)
        rw [Int.neg_mul_neg] at this
        omega
      · rw [h1, pl_neg_u (by omega)]
        have : u = -(v * r) := by omega
        rw [this, Int.neg_mul_neg, Int.sub_self]
      · rw [sg_pos h1, p.mpr]
        rcases Int.lt_trichotomy u 0 with h2 | h2 | h2
        · refine .inr (.inr ⟨h2, ?_⟩)
          have := sq_smono (s := -u) (r := v * r) (by omega) (by omega)
          rw [Int.neg_mul_neg] at this
          exact this
        · exact .inr (.inl ⟨h2, by rw [← e]; exact hV⟩)
        · exact .inl h2
  · rw [← h, Int.mul_zero, s2_c0, Int.mul_zero, Int.add_zero]
theorem rt_bt {n r : Int} {k : Nat} (R : Rt n r) (h : Bt k n) : Bt k r := by
  refine bt_le h R.r0 ?_
  have := R.le
  rcases Int.lt_or_eq_of_le R.r0 with h1 | h1
  · have := le_mul_self (g := r) (c := r) h1 R.r0
    omega
  · have := sq_nn r
    omega
theorem sem_law_surd (ds : List D) (M : Mu) (Q : DK) (E : DXK) (h : sp_law_surd ds M Q E) : t_law_surd (dEnd Q) (dstart 6 ds) M := by
  obtain ⟨a, b, c, d, k, rfl, ha, hb, hc, hd, hk1, hk, d0, c0, h⟩ := h
  unfold t_law_surd
  walk_at "go"
  refine ⟨c, rfl, c0, bt_up hc (by omega), fun r R => ?_⟩
  have hrb := rt_bt R hc
  have tail : ∀ (a' b' c' : Int), Bt (2 * k + 1) a' → Bt k b' → Bt k c' → ((b' = 0 ∧ c' = 0) ∨ (b' ≠ 0 ∧ 0 < c' ∧ NonSq c')) → (∀ n m, 0 < m → s2 (a' * m - n * d) (b' * m) c' = s2 (a * m - n * d) (b * m) c) →
      (dSq (dAs (dCall sp_law_common [] dX0 (dCons (dCall sp_law_common [] dX0 (dCons (dVar 0) (dCons (dVar 1) dNil))) (dCons (dVar 3) dNil))) (dgN 5)) (dSq (dIfS (dTest (dOp dLt (dVar 3) (dC (.int 0)))) (dAs (dUn dNeg (dVar 5)) (dgN 5)) dNx) (dRt (dTup (dCons (dOp dFdiv (dVar 0) (dVar 5)) (dCons (dOp dFdiv (dVar 1) (dVar 5)) (dCons (dVar 2) (dCons (dOp dFdiv (dVar 3) (dVar 5)) dNil)))))))) { nx := fun x M => Wq Q D.non M, rt := Wq Q } [some (.int a'), some (.int b'), some (.int c'), some (.int d), some (.int r), none] M := by
    intro a' b' c' ha' hb' hc' hor hnum
    walk_at "st"
    refine ⟨a', b', rfl, bt_up ha' (by omega), bt_up hb' (by omega), ?_⟩
    walk_at "st"
    have hg1 : Bt 8000 (Int.gcd a' b' : Int) := by
      by_cases hz : b' = 0
      · rw [hz, Int.gcd_zero_right]
        exact bt_up (bt_abs ha') (by omega)
      · exact gcd_bt (bt_up hb' (by omega)) hz
    refine ⟨_, d, rfl, hg1, bt_up hd (by omega), ?_⟩
    have hG := gcd_pos (a := (Int.gcd a' b' : Int)) (b := d) (by omega)
    have hGb : Bt 8000 (Int.gcd (Int.gcd a' b' : Int) d : Int) := gcd_bt (bt_up hd (by omega)) (by omega)
    have hGd : (Int.gcd (Int.gcd a' b' : Int) d : Int) ∣ d := Int.gcd_dvd_right ..
    have hGb' : (Int.gcd (Int.gcd a' b' : Int) d : Int) ∣ b' := Int.dvd_trans (Int.gcd_dvd_left ..) (Int.gcd_dvd_right ..)
    have hGa' : (Int.gcd (Int.gcd a' b' : Int) d : Int) ∣ a' := Int.dvd_trans (Int.gcd_dvd_left ..) (Int.gcd_dvd_left ..)
    obtain ⟨G, hGe⟩ : ∃ G, G = (Int.gcd (Int.gcd a' b' : Int) d : Int) := ⟨_, rfl⟩
    rw [← hGe] at hG hGb hGd hGb' hGa' ⊢
    walk_at "st"
    refine r_if ?_
    walk_at "st"
    refine ⟨fun z => absurd (of_decide_eq_true z) (by omega), fun _ => ?_⟩
    have cd : CDivX G := cd_ok (by omega) hGb (by decide)
    walk_at "st"
    refine ⟨cd, ?_⟩
    walk_at "st"
    refine ⟨cd, ?_⟩
    walk_at "st"
    refine ⟨cd, ?_⟩
    walk_at "st"
    have hxa := bt_fdiv (j := G) ha'
    have hxb := bt_fdiv (j := G) hb'
    have hxd := bt_fdiv (j := G) hd
    obtain ⟨v, rfl⟩ := hGd
    obtain ⟨u, rfl⟩ := hGb'
    obtain ⟨w, rfl⟩ := hGa'
    rw [Int.mul_fdiv_cancel_left _ (show G ≠ 0 by omega)] at hxa hxb hxd
    rw [Int.mul_fdiv_cancel_left _ (show G ≠ 0 by omega), Int.mul_fdiv_cancel_left _ (show G ≠ 0 by omega), Int.mul_fdiv_cancel_left _ (show G ≠ 0 by omega)]
    refine Wq.now (h ⟨w, u, c', v⟩ ⟨hxa, bt_up hxb (by omega), bt_up hc' (by omega), bt_up hxd (by omega), mul_pos_cancel hG d0, ?_, ?_⟩ ?_)
    · show ((u = 0 ∧ c' = 0) ∨ (u ≠ 0 ∧ 0 < c' ∧ NonSq c'))
      rcases hor with ⟨h1, h2⟩ | ⟨h1, h2⟩
      · left
        refine ⟨?_, h2⟩
        rcases Int.mul_eq_zero.mp h1 with h3 | h3
        · omega
        · exact h3
      · right
        exact ⟨fun hz => h1 (by rw [hz, Int.mul_zero]), h2⟩
    · intro hu
      have hu : u = 0 := hu
      subst hu
      rw [Int.mul_zero, Int.gcd_zero_right] at hGe
      have e0 : Int.gcd ((G * w).natAbs : Int) (G * v) = Int.gcd (G * w) (G * v) := by unfold Int.gcd; rw [Int.natAbs_natCast]
      rw [e0] at hGe
      exact gcd_cut hG hGe.symm
    · intro n m hm
      rw [← hnum n m hm]
      show s2 (w * m - n * v) (u * m) c' = _
      have e1 : G * w * m - n * (G * v) = G * (w * m - n * v) := by grind
      have e2 : G * u * m = G * (u * m) := by grind
      rw [e1, e2, s2_scale hG]
  walk_at "st"
  have hns : r * r ≠ c → NonSq c := fun hne s hs => by
    have h1 : (s.natAbs : Int) * (s.natAbs : Int) = c := by rw [Int.natAbs_mul_self' s]; exact hs
    have h2 := R.top (s.natAbs : Int) (by omega) (by omega)
    have h3 := sq_mono (s := (s.natAbs : Int)) (by omega) h2
    have := R.le
    omega
  have z0 : ∀ j, Bt j (0 : Int) := fun j => bt_up (bt_lit 0 (by decide)) (Nat.zero_le j)
  refine r_if ?_
  walk_at "st"
  refine ⟨cm_ok hrb hrb (by omega), ?_⟩
  walk_at "st"
  refine ⟨fun z => ?_, fun z => ?_⟩
  · have z := of_decide_eq_true z
    walk_at "st"
    refine ⟨cm_ok hb hrb (by omega), ?_⟩
    walk_at "st"
    refine r_if ?_
    walk_at "st"
    refine ⟨fun _ => ?_, fun z => absurd z (by decide)⟩
    walk_at "st1"
    walk_at "st1"
    walk_at "st1"
    refine tail _ 0 0 ?_ (z0 k) (z0 k) (.inl ⟨rfl, rfl⟩) ?_
    · have h1 : Bt (2 * k) (b * r) := bt_up (bt_mul hb hrb) (by omega)
      have h2 : Bt (2 * k) a := bt_up ha (by omega)
      unfold Bt at *
      rw [Nat.pow_succ]
      omega
    · intro n m hm
      rw [Int.zero_mul, s2_b0, ← z, s2_sq R.r0]
      congr 1
      grind
  · have hne := hns (of_decide_eq_false z)
    walk_at "st"
    refine r_if ?_
    walk_at "st"
    refine ⟨fun z => ?_, fun z => ?_⟩
    · have z := of_decide_eq_true z
      subst z
      walk_at "st1"
      walk_at "st1"
      walk_at "st1"
      refine tail a 0 0 (bt_up ha (by omega)) hb (z0 k) (.inl ⟨rfl, rfl⟩) fun n m hm => ?_
      rw [Int.zero_mul, s2_b0, s2_b0]
    · have z := of_decide_eq_false z
      have hc0 : 0 < c := by
        rcases Int.lt_or_eq_of_le c0 with h1 | h1
        · exact h1
        · exact absurd h1 (by have := hne 0; omega)
      walk_at "st1"
      exact tail a b c (bt_up ha (by omega)) hb hc (.inr ⟨z, hc0, hne⟩) fun n m hm => rfl
theorem sem_law_surd_floor (ds : List D) (M : Mu) (Q : DK) (E : DXK) (h : sp_law_surd_floor ds M Q E) : t_law_surd_floor (dEnd Q) (dstart 3 ds) M := by
  obtain ⟨x, n, rfl, hx, n0, hn, h⟩ := h
  have hdd : CDivX x.d := cd_ok (by have := hx.d0; omega) hx.d (by decide)
  have hx' := hx
  obtain ⟨ba, bb, bc, bd, d0, _, _⟩ := hx
  unfold t_law_surd_floor suD
  walk_at "go"
  refine r_if ?_
  walk_at "sm"
  refine ⟨fun z => ?_, fun z => ?_⟩
  · have z := of_decide_eq_true z
    walk_at "sm"
    refine ⟨hdd, ?_⟩
    rw [fdiv_pos d0]
    exact Wq.now (h _ (Fl.congr n0 (fun n m hm => cS_Q z n m) (fl_Q d0)))
  have z := of_decide_eq_false z
  have hc0 := hx'.c0
  have hns := hx'.okc
  have eV : x.b * x.b * x.c * n * n = x.b * x.b * x.c * (n * n) := Int.mul_assoc ..
  have hV : 0 ≤ x.b * x.b * x.c * (n * n) := Int.mul_nonneg (Int.mul_nonneg (sq_nn _) hc0) (sq_nn _)
  walk_at "sm"
  refine ⟨_, rfl, by rw [eV]; exact hV, bt_up (bt_mul (bt_mul (bt_mul (bt_mul bb bb) bc) hn) hn) (by decide), fun r R => ?_⟩
  rw [eV] at R
  walk_at "sm"
  refine r_dif ?_
  walk_at "sm"
  refine ⟨fun y => ?_, fun y => ?_⟩
  · have y := of_decide_eq_true y
    walk_at "sm"
    refine ⟨hdd, ?_⟩
    rw [fdiv_pos d0]
    exact Wq.now (h _ (Fl.congr n0 (cS_P y hc0) (fl_P d0 R)))
  · have y := of_decide_eq_false y
    walk_at "sm"
    refine ⟨hdd, ?_⟩
    rw [fdiv_pos d0]
    refine Wq.now (h _ (Fl.congr n0 (cS_M (by omega) hc0) (fl_M d0 R ?_)))
    rcases hns with ⟨_, hns⟩ | ⟨h0, _⟩
    · have := nonsq_ne (A := r) (B := x.b * n) hns (Int.mul_ne_zero z (by omega))
      have e : x.b * n * (x.b * n) * x.c = x.b * x.b * x.c * (n * n) := by grind
      rwa [e] at this
    · exact absurd h0 z
end SU

set_option exponentiation.threshold 5000
namespace SU
open PySem PySem.Spec PyProof.Rows L2 TL DL
local macro_rules | `(tactic| walk_at "st1") => `(tactic| first
  | with_reducible refine r_sq ?_ | with_reducible refine r_nx ?_ | with_reducible refine r_rt ?_ | with_reducible refine r_rtN ?_ | with_reducible refine r_ex ?_ | with_reducible refine r_as ?_ | with_reducible refine r_bk ?_ | with_reducible refine r_ct ?_
  | ((with_reducible apply r_var); exact rfl) | with_reducible refine r_c ?_ | with_reducible refine r_op ?_ | with_reducible refine r_un ?_ | with_reducible refine r_neg ?_
  | ((with_reducible refine r_dgN rfl ?_); (try simp only [List.set]))
  | with_reducible refine r_dgSub ?_ | with_reducible refine r_dgT rfl ?_ | with_reducible refine r_dga0 ?_ | with_reducible refine r_dga1 ?_ | with_reducible refine r_auS ?_ | ((with_reducible apply r_au); exact rfl)
  | with_reducible refine r_par ?_ | ((with_reducible refine r_kPar rfl ?_); (try simp only [List.set]))
  | with_reducible refine r_addI ?_ | with_reducible refine r_addS ?_ | with_reducible refine r_addT ?_ | with_reducible refine r_addL ?_ | with_reducible refine r_subI ?_ | with_reducible refine r_mulI ?_ | with_reducible refine r_fdiv ?_ | with_reducible refine r_mod ?_ | with_reducible refine r_pow ?_ | with_reducible refine r_shl ?_
  | with_reducible refine r_eqI ?_ | with_reducible refine r_eqS ?_ | with_reducible refine r_eqB ?_ | with_reducible refine r_neI ?_ | with_reducible refine r_neS ?_ | with_reducible refine r_neB ?_ | with_reducible refine r_ltI ?_ | with_reducible refine r_gtI ?_ | with_reducible refine r_leI ?_ | with_reducible refine r_geI ?_ | with_reducible refine r_isN ?_ | with_reducible refine r_notN ?_ | with_reducible refine r_inS ?_
  | with_reducible refine r_test ?_ | with_reducible refine r_kB ?_ | with_reducible refine r_tru ?_ | with_reducible refine r_kTb ?_ | with_reducible refine r_kTi ?_ | with_reducible refine r_kTn ?_ | with_reducible refine r_kTl ?_ | with_reducible refine r_kTt ?_ | with_reducible refine r_kTs ?_ | with_reducible refine r_not ?_ | with_reducible refine r_notV ?_ | with_reducible refine r_yes ?_
  | with_reducible refine r_nil ?_ | with_reducible refine r_cons ?_ | with_reducible refine r_tup ?_ | with_reducible refine r_lst ?_ | with_reducible refine r_newF ?_ | with_reducible refine r_cb ?_
  | with_reducible refine r_lenS ?_ | with_reducible refine r_lenL ?_ | with_reducible refine r_lenT ?_ | with_reducible refine r_lenSrc ?_ | with_reducible refine r_abs ?_ | with_reducible refine r_min2 ?_ | with_reducible refine r_max2 ?_ | with_reducible refine r_intI ?_ | with_reducible refine r_str ?_ | with_reducible refine r_tupT ?_ | with_reducible refine r_tupL ?_ | with_reducible refine r_divmod ?_
  | with_reducible refine r_sl ?_ | with_reducible refine r_noP ?_ | with_reducible refine r_part ?_ | with_reducible refine r_kP ?_ | with_reducible refine r_slS ?_ | with_reducible refine r_slT ?_ | with_reducible refine r_slL ?_ | with_reducible refine r_slSrc ?_
  | with_reducible refine r_bm ?_ | with_reducible refine r_tyS ?_ | with_reducible refine r_starts ?_ | with_reducible refine r_count ?_ | with_reducible refine r_call ?_ | with_reducible refine r_for ?_ | with_reducible refine r_seq ?_ | with_reducible refine r_kIt ?_ | with_reducible refine r_kIl ?_ | with_reducible refine r_kIs ?_ | with_reducible refine r_kIsrc ?_ | with_reducible refine r_r1 ?_ | with_reducible refine r_r2 ?_ | with_reducible refine r_lc ?_
  | with_reducible refine lit0 ?_ | with_reducible refine lit1 ?_ | with_reducible refine lit2 ?_ | with_reducible refine lit3 ?_ | with_reducible refine lit4 ?_ | with_reducible refine lit5 ?_ | with_reducible refine lit6 ?_ | with_reducible refine lit7 ?_
  | with_reducible refine r_callX ?_ | with_reducible refine r_callE ?_ | with_reducible refine r_try ?_ | with_reducible refine r_isE ?_ | with_reducible refine r_fld ?_ | with_reducible refine r_excK ?_ | with_reducible refine r_raise ?_
  | with_reducible refine r_subB ?_ | with_reducible refine r_r3 ?_ | with_reducible refine r_rev ?_ | with_reducible refine r_kRv ?_
  | fail)
local macro_rules | `(tactic| walk_at "st") => `(tactic| repeat (first | walk_at "st1" | dsimp only))
local macro_rules | `(tactic| walk_at "go") => `(tactic| (simp only [dstart, dEnd, List.map_cons, List.map_nil, List.length_cons, List.length_nil, Nat.reduceAdd, Nat.reduceSub, Nat.zero_add, List.replicate, List.cons_append, List.nil_append]; walk_at "st"))

local macro_rules | `(tactic| walk_at "bt") => `(tactic| first | with_reducible assumption | ((with_reducible apply bt_mul) <;> walk_at "bt") | ((with_reducible apply bt_sub) <;> walk_at "bt") | ((with_reducible apply bt_add) <;> walk_at "bt") | ((with_reducible apply bt_neg) <;> walk_at "bt") | ((with_reducible apply bt_abs) <;> walk_at "bt") | ((with_reducible apply bt_fdiv) <;> walk_at "bt") | exact bt_lit 64 (by decide +kernel))
local macro_rules | `(tactic| walk_at "cm") => `(tactic| ((with_reducible refine And.intro ?_ ?_); (focus ((with_reducible apply cm_ok) <;> first | decide | walk_at "bt"))))
local macro_rules | `(tactic| walk_at "sm") => `(tactic| repeat (first | walk_at "st1" | ((with_reducible apply r_idxT); exact rfl) | ((with_reducible apply r_idxL); exact rfl) | dsimp only | walk_at "cm"))

def rowL (x : Su) : List Int := [x.a * x.a - x.b * x.b * x.c, -2 * x.a * x.d, x.d * x.d]
structure QKey (x : Su) (c0 c1 c2 : Int) : Prop where
  row : ∃ g : Int, 0 < g ∧ rowL x = [g * c0, g * c1, g * c2]
  pr : Prim [c0, c1, c2]
def keyQ (x : Su) (c0 c1 c2 : Int) : D := .tup [.tup (iD [c0, c1, c2]), .int (if 0 < x.b then 2 else 1)]
inductive SKey (x : Su) : D → Prop
  | lin (h : x.b = 0) : SKey x (.tup [.tup (iD [-x.a, x.d]), .int 1])
  | quad (h : x.b ≠ 0) {c0 c1 c2 : Int} (q : QKey x c0 c1 c2) : SKey x (keyQ x c0 c1 c2)
def sp_law_surd_key : DSp := fun ds M Q _ => ∃ (x : Su), ds = [suD x] ∧ SuOk 230 x ∧ ∀ d, KeyD (cS x) d → SKey x d → Q d M
def sp_law_wide : DSp := fun ds M Q _ => ∃ a o k, ∃ (small great : Int), ds = [.ref a, .int small, .int great] ∧ M a = some o ∧ Src (k + 2) o ∧ 0 < small ∧ small ≤ great ∧ great < 2 ^ 105 ∧ ∀ v o', Bt 106 v → -great ≤ v → v ≤ great → Src k o' → Q (.int v) (mset M a o')
def sp_law_drawn_surd : DSp := fun ds M Q _ => ∃ a o k, ∃ (roots great : Int), ds = [.ref a, .int roots, .int great] ∧ M a = some o ∧ Src (k + 6) o ∧ 9 ≤ great ∧ great < 2 ^ 68 ∧ ∀ x o', SuOk 139 x → Src k o' → Q (suD x) (mset M a o')
def t_law_surd_key : DTS := (dSq (dIfS (dTest (dOp dEq (dOp dIdx (dVar 0) (dC (.int 1))) (dC (.int 0)))) (dRt (dTup (dCons (dTup (dCons (dUn dNeg (dOp dIdx (dVar 0) (dC (.int 0)))) (dCons (dOp dIdx (dVar 0) (dC (.int 3))) dNil))) (dCons (dC (.int 1)) dNil)))) dNx) (dSq (dAs (dLst false (dCons (dOp dSub (dOp (dMul false) (dOp dIdx (dVar 0) (dC (.int 0))) (dOp dIdx (dVar 0) (dC (.int 0)))) (dOp (dMul false) (dOp (dMul false) (dOp dIdx (dVar 0) (dC (.int 1))) (dOp dIdx (dVar 0) (dC (.int 1)))) (dOp dIdx (dVar 0) (dC (.int 2))))) (dCons (dOp (dMul false) (dOp (dMul false) (dUn dNeg (dC (.int 2))) (dOp dIdx (dVar 0) (dC (.int 0)))) (dOp dIdx (dVar 0) (dC (.int 3)))) (dCons (dOp (dMul false) (dOp dIdx (dVar 0) (dC (.int 3))) (dOp dIdx (dVar 0) (dC (.int 3)))) dNil)))) (dgN 1)) (dSq (dAs (dCall sp_law_common [] dX0 (dCons (dCall sp_law_common [] dX0 (dCons (dOp dIdx (dVar 1) (dC (.int 0))) (dCons (dOp dIdx (dVar 1) (dC (.int 1))) dNil))) (dCons (dOp dIdx (dVar 1) (dC (.int 2))) dNil))) (dgN 2)) (dRt (dTup (dCons (dCB dTupOf (dCons (dLc false (diSeq (dVar 1)) (dgN 3) dYes (dOp dFdiv (dVar 3) (dVar 2)) [3]) dNil)) (dCons (dIf (dTest (dOp dGt (dOp dIdx (dVar 0) (dC (.int 1))) (dC (.int 0)))) (dC (.int 2)) (dC (.int 1))) dNil)))))))
def t_law_wide : DTS := (dSq (dIfS (dTest (dOp dEq (dCall sp_law_pick [] dX0 (dCons (dVar 0) (dCons (dC (.int 8)) dNil))) (dC (.int 0)))) (dRt (dOp dSub (dCall sp_law_pick [] dX0 (dCons (dVar 0) (dCons (dOp (dAdd false) (dOp (dMul false) (dC (.int 2)) (dVar 2)) (dC (.int 1))) dNil))) (dVar 2))) dNx) (dRt (dOp dSub (dCall sp_law_pick [] dX0 (dCons (dVar 0) (dCons (dOp (dAdd false) (dOp (dMul false) (dC (.int 2)) (dVar 1)) (dC (.int 1))) dNil))) (dVar 1))))
def t_law_drawn_surd : DTS := (dSq (dAs (dOp (dAdd false) (dC (.int 1)) (dCall sp_law_pick [] dX0 (dCons (dVar 0) (dCons (dC (.int 6)) dNil)))) (dgN 3)) (dSq (dAs (dCall sp_law_wide [] dX0 (dCons (dVar 0) (dCons (dC (.int 9)) (dCons (dVar 2) dNil)))) (dgN 4)) (dSq (dAs (dIf (dTest (dOp dLt (dCall sp_law_pick [] dX0 (dCons (dVar 0) (dCons (dC (.int 4)) dNil))) (dVar 1))) (dC (.int 0)) (dOp dIdx (dLst false (dCons (dC (.int 1)) (dCons (dUn dNeg (dC (.int 1))) (dCons (dC (.int 2)) (dCons (dUn dNeg (dC (.int 3))) (dCons (dC (.int 5)) dNil)))))) (dCall sp_law_pick [] dX0 (dCons (dVar 0) (dCons (dC (.int 5)) dNil))))) (dgN 5)) (dRt (dCall sp_law_surd [] dX0 (dCons (dVar 4) (dCons (dVar 5) (dCons (dOp (dAdd false) (dC (.int 2)) (dCall sp_law_pick [] dX0 (dCons (dVar 0) (dCons (dC (.int 18)) dNil)))) (dCons (dVar 3) dNil)))))))))
section
variable {x : Su} {k : Nat} {c0 c1 c2 : Int}
theorem qkey_facts (hx : SuOk k x) (hb : x.b ≠ 0) (q : QKey x c0 c1 c2) : 0 < c2 ∧ 0 < disc c0 c1 c2 ∧ NonSq (disc c0 c1 c2) ∧ ∃ g : Int, 0 < g ∧ g * c1 = -2 * x.a * x.d ∧ g * c2 = x.d * x.d ∧ g * g * disc c0 c1 c2 = (2 * x.d) * (2 * x.d) * (x.b * x.b * x.c) := by
  obtain ⟨g, hg, e⟩ := q.row
  have e : [_, _, _] = [g * c0, g * c1, g * c2] := e
  obtain ⟨e0, e⟩ := List.cons.inj e
  obtain ⟨e1, e⟩ := List.cons.inj e
  obtain ⟨e2, _⟩ := List.cons.inj e
  obtain ⟨hc, hn⟩ : 0 < x.c ∧ NonSq x.c := by
    rcases hx.or with ⟨h, _⟩ | ⟨_, h⟩
    · exact absurd h hb
    · exact h
  have hd := hx.d0
  have h2 : 0 < c2 := mul_pos_cancel hg (by rw [← e2]; exact Int.mul_pos hd hd)
  have eD : g * g * disc c0 c1 c2 = (2 * x.d) * (2 * x.d) * (x.b * x.b * x.c) := by
    unfold disc
    have : g * g * (c1 * c1 - 4 * (c0 * c2)) = (g * c1) * (g * c1) - 4 * ((g * c0) * (g * c2)) := by grind
    rw [this, ← e0, ← e1, ← e2]
    grind
  have hD0 : 0 < g * g * disc c0 c1 c2 := by
    rw [eD]
    exact Int.mul_pos (Int.mul_pos (by omega) (by omega)) (Int.mul_pos (sq_pos hb) hc)
  refine ⟨h2, mul_pos_cancel (Int.mul_pos hg hg) hD0, fun s hs => ?_, g, hg, e1.symm, e2.symm, eD⟩
  rw [← hs] at eD
  refine nonsq_ne (A := g * s) (B := 2 * x.d * x.b) hn (Int.mul_ne_zero (by omega) hb) ?_
  have a1 : g * s * (g * s) = g * g * (s * s) := by grind
  have a2 : 2 * x.d * x.b * (2 * x.d * x.b) * x.c = 2 * x.d * (2 * x.d) * (x.b * x.b * x.c) := by grind
  rw [a1, a2]
  exact eD
theorem key_cut (hx : SuOk k x) (hb : x.b ≠ 0) (q : QKey x c0 c1 c2) (n m : Int) (hm : 0 < m) : cS x n m = kcut [c0, c1, c2] (if 0 < x.b then 2 else 1) n m := by
  obtain ⟨h2, hD, hn, g, hg, e1, e2, eD⟩ := qkey_facts hx hb q
  have hd := hx.d0
  have hc := hx.c0
  have eU : g * (-c1 * m - n * (2 * c2)) = 2 * x.d * (x.a * m - n * x.d) := by
    have : g * (-c1 * m - n * (2 * c2)) = -(g * c1) * m - 2 * n * (g * c2) := by grind
    rw [this, e1, e2]
    grind
  have eV : g * g * (disc c0 c1 c2 * (m * m)) = 2 * x.d * (2 * x.d) * (x.b * x.b * x.c * (m * m)) := by
    rw [← Int.mul_assoc, eD]
    grind
  by_cases hb0 : 0 < x.b
  · rw [if_pos hb0, cS_P hb0 hc n m hm]
    show _ = cP (-c1) (disc c0 c1 c2) (2 * c2) n m
    unfold cP
    rw [← pl_scale (k := 2 * x.d) (by omega), ← eU, ← eV, pl_scale hg]
  · rw [if_neg hb0, cS_M (by omega) hc n m hm]
    show _ = cM (-c1) (disc c0 c1 c2) (2 * c2) n m
    unfold cM
    have e3 : n * x.d - x.a * m = -(x.a * m - n * x.d) := by omega
    have e4 : n * (2 * c2) - -c1 * m = -(-c1 * m - n * (2 * c2)) := by omega
    rw [e3, e4, ← pl_scale (k := 2 * x.d) (by omega), ← pl_scale (k := g) (u := -(-c1 * m - n * (2 * c2))) hg, Int.mul_neg, Int.mul_neg, ← eU, ← eV]
end
theorem skey_keyd {x : Su} {d : D} (hx : SuOk 230 x) (k : SKey x d) (hB : ∀ ms i, d = .tup [.tup (iD ms), i] → B4 ms) : KeyD (cS x) d := by
  cases k with
  | lin h =>
    refine .sh (.lin hx.d0) (hB _ _ rfl) fun n m _ => ?_
    rw [cS_Q h]
    show _ = cQ (- -x.a) x.d n m
    rw [Int.neg_neg]
  | quad h q =>
    obtain ⟨h2, hD, hn, _⟩ := qkey_facts hx h q
    refine .sh (.quad h2 hD hn ?_) (hB _ _ rfl) fun n m hm => key_cut hx h q n m hm
    split
    · exact .inr rfl
    · exact .inl rfl
theorem prim3 {r0 r1 r2 c0 c1 c2 G : Int} (hG : 0 < G) (hd : G = (Int.gcd (Int.gcd r0 r1 : Int) r2 : Int)) (e0 : r0 = G * c0) (e1 : r1 = G * c1) (e2 : r2 = G * c2) : Prim [c0, c1, c2] := by
  intro g ms hg e
  match ms, e with
  | [a, b, c], e =>
    have e : [_, _, _] = [g * a, g * b, g * c] := e
    obtain ⟨f0, e⟩ := List.cons.inj e
    obtain ⟨f1, e⟩ := List.cons.inj e
    obtain ⟨f2, _⟩ := List.cons.inj e
    have h0 : G * g ∣ r0 := ⟨a, by rw [e0, f0, Int.mul_assoc]⟩
    have h1 : G * g ∣ r1 := ⟨b, by rw [e1, f1, Int.mul_assoc]⟩
    have h2 : G * g ∣ r2 := ⟨c, by rw [e2, f2, Int.mul_assoc]⟩
    have h3 : G * g ∣ (Int.gcd (Int.gcd r0 r1 : Int) r2 : Int) := Int.dvd_coe_gcd (Int.dvd_coe_gcd h0 h1) h2
    rw [← hd] at h3
    obtain ⟨t, ht⟩ := h3
    have h4 : G * (g * t) = G * 1 := by rw [← Int.mul_assoc, ← ht, Int.mul_one]
    have h5 := Int.eq_of_mul_eq_mul_left (show G ≠ 0 by omega) h4
    exact Int.eq_one_of_dvd_one (Int.le_of_lt hg) ⟨t, h5.symm⟩
  | [], e => simp at e
  | [_], e => simp at e
  | [_, _], e => simp at e
  | _ :: _ :: _ :: _ :: _, e => simp at e
theorem sem_law_surd_key (ds : List D) (M : Mu) (Q : DK) (E : DXK) (h : sp_law_surd_key ds M Q E) : t_law_surd_key (dEnd Q) (dstart 4 ds) M := by
  obtain ⟨x, rfl, hx, h⟩ := h
  have hx' := hx
  obtain ⟨ba, bb, bc, bd, d0, _, _⟩ := hx
  unfold t_law_surd_key suD
  walk_at "go"
  refine r_if ?_
  walk_at "sm"
  refine ⟨fun z => ?_, fun z => ?_⟩
  · have z := of_decide_eq_true z
    walk_at "sm"
    refine Wq.now (h _ (skey_keyd hx' (.lin z) fun ms i e => ?_) (.lin z))
    have e1 : iD ms = iD [-x.a, x.d] := by
      injection e with e
      injection e with e _
      injection e with e
      exact e.symm
    have e2 : ms = [-x.a, x.d] := by
      unfold iD at e1
      exact List.map_inj_right (fun a b h => by injection h) |>.mp e1
    subst e2
    refine ⟨by simp, fun c hc => ?_⟩
    simp only [List.mem_cons, List.not_mem_nil, or_false] at hc
    rcases hc with rfl | rfl
    · exact bt_up (bt_neg ba) (by decide)
    · exact bt_up bd (by decide)
  have z := of_decide_eq_false z
  have b2 : Bt 2 (-2 : Int) := bt_lit 2 (by decide)
  walk_at "sm"
  have hr0 : Bt 700 (x.a * x.a - x.b * x.b * x.c) := bt_up (bt_sub1 (k := 690) (bt_up (bt_mul ba ba) (by decide)) (bt_up (bt_mul (bt_mul bb bb) bc) (by decide))) (by decide)
  have hr1 : Bt 700 (-2 * x.a * x.d) := bt_up (bt_mul (bt_mul b2 ba) bd) (by decide)
  have hr2 : Bt 700 (x.d * x.d) := bt_up (bt_mul bd bd) (by decide)
  have hd2 : 0 < x.d * x.d := Int.mul_pos d0 d0
  refine ⟨_, _, rfl, bt_up hr0 (by decide), bt_up hr1 (by decide), ?_⟩
  walk_at "sm"
  have hg1 : Bt 8000 (Int.gcd (x.a * x.a - x.b * x.b * x.c) (-2 * x.a * x.d) : Int) := by
    by_cases hz : -2 * x.a * x.d = 0
    · rw [hz, Int.gcd_zero_right]
      exact bt_up (bt_abs hr0) (by decide)
    · exact bt_up (gcd_bt hr1 hz) (by decide)
  refine ⟨_, _, rfl, hg1, bt_up hr2 (by decide), ?_⟩
  have hG := gcd_pos (a := (Int.gcd (x.a * x.a - x.b * x.b * x.c) (-2 * x.a * x.d) : Int)) (b := x.d * x.d) (by omega)
  have hGb := gcd_bt (a := (Int.gcd (x.a * x.a - x.b * x.b * x.c) (-2 * x.a * x.d) : Int)) hr2 (by omega)
  have hGd : (Int.gcd (Int.gcd (x.a * x.a - x.b * x.b * x.c) (-2 * x.a * x.d) : Int) (x.d * x.d) : Int) ∣ x.d * x.d := Int.gcd_dvd_right ..
  have hG0 : (Int.gcd (Int.gcd (x.a * x.a - x.b * x.b * x.c) (-2 * x.a * x.d) : Int) (x.d * x.d) : Int) ∣ (x.a * x.a - x.b * x.b * x.c) := Int.dvd_trans (Int.gcd_dvd_left ..) (Int.gcd_dvd_left ..)
  have hG1 : (Int.gcd (Int.gcd (x.a * x.a - x.b * x.b * x.c) (-2 * x.a * x.d) : Int) (x.d * x.d) : Int) ∣ (-2 * x.a * x.d) := Int.dvd_trans (Int.gcd_dvd_left ..) (Int.gcd_dvd_right ..)
  obtain ⟨G, hGe⟩ : ∃ G, G = (Int.gcd (Int.gcd (x.a * x.a - x.b * x.b * x.c) (-2 * x.a * x.d) : Int) (x.d * x.d) : Int) := ⟨_, rfl⟩
  rw [← hGe] at hG hGb hGd hG0 hG1 ⊢
  walk_at "st"
  have hrow : [D.int (x.a * x.a - x.b * x.b * x.c), D.int (-2 * x.a * x.d), D.int (x.d * x.d)] = iD (rowL x) := rfl
  rw [hrow]
  have hrb : ∀ c ∈ rowL x, Bt 700 c := by
    intro c hc
    simp only [rowL, List.mem_cons, List.not_mem_nil, or_false] at hc
    rcases hc with rfl | rfl | rfl
    · exact hr0
    · exact hr1
    · exact hr2
  refine lc_ints (fun c => c.fdiv G) (rowL x) trivial (by simp [rowL]) (fun c hc R hR => ?_) ?_
  · simp only [dwipe, List.set]
    walk_at "st"
    exact ⟨cd_ok (by omega) hGb (by decide), hR⟩
  walk_at "st"
  obtain ⟨u, hu⟩ := hG0
  obtain ⟨v, hv⟩ := hG1
  obtain ⟨w, hw⟩ := hGd
  have eL : (rowL x).map (fun c => c.fdiv G) = [u, v, w] := by
    show [_, _, _] = [u, v, w]
    rw [hu, hv, hw]
    show [(G * u).fdiv G, (G * v).fdiv G, (G * w).fdiv G] = _
    rw [Int.mul_fdiv_cancel_left _ (by omega), Int.mul_fdiv_cancel_left _ (by omega), Int.mul_fdiv_cancel_left _ (by omega)]
  have hB : B4 [u, v, w] := by
    rw [← eL]
    refine ⟨by simp [rowL], fun c hc => ?_⟩
    obtain ⟨y, hy, rfl⟩ := List.mem_map.mp hc
    exact bt_fdiv (hrb y hy)
  have q : QKey x u v w := by
    refine ⟨⟨G, hG, ?_⟩, prim3 hG hGe hu hv hw⟩
    show [_, _, _] = _
    rw [hu, hv, hw]
  rw [eL]
  have key : ∀ i : Int, i = (if 0 < x.b then 2 else 1) → Q (.tup [.tup (iD [u, v, w]), .int i]) M := by
    rintro i rfl
    refine h _ (skey_keyd hx' (.quad z q) fun ms i e => ?_) (.quad z q)
    have e1 : iD ms = iD [u, v, w] := by
      injection e with e
      injection e with e _
      injection e with e
      exact e.symm
    have e2 : ms = [u, v, w] := by
      unfold iD at e1
      exact List.map_inj_right (fun a b h => by injection h) |>.mp e1
    subst e2
    exact hB
  refine r_dif ?_
  walk_at "sm"
  refine ⟨fun z2 => ?_, fun z2 => ?_⟩
  · walk_at "st"
    exact Wq.now (key 2 (by rw [if_pos (of_decide_eq_true z2)]))
  · walk_at "st"
    exact Wq.now (key 1 (by rw [if_neg (of_decide_eq_false z2)]))
theorem sem_law_wide (ds : List D) (M : Mu) (Q : DK) (E : DXK) (h : sp_law_wide ds M Q E) : t_law_wide (dEnd Q) (dstart 3 ds) M := by
  obtain ⟨a, o, k, small, great, rfl, hM, hS, s0, sg', g0, h⟩ := h
  have b2 : Bt 2 (2 : Int) := bt_lit 2 (by decide)
  have hgb : Bt 105 great := by unfold Bt; have : (2 : Int) ^ 105 = ((2 ^ 105 : Nat) : Int) := by decide +kernel
                                omega
  have hsb : Bt 105 small := by unfold Bt at *; omega
  have big : (2 : Int) * 2 ^ 105 + 1 < 2 ^ 1000 := by decide +kernel
  have vb : ∀ {r s : Int}, Bt 105 s → 0 ≤ r → r < 2 * s + 1 → Bt 106 (r - s) := fun h1 h2 h3 => by
    unfold Bt at *; rw [Nat.pow_succ]; omega
  unfold t_law_wide
  walk_at "go"
  refine r_if ?_
  walk_at "st"
  refine ⟨a, 8, o, k + 1, rfl, hM, hS, by decide, by decide, fun r o1 _ _ hS1 => ?_⟩
  walk_at "st"
  refine ⟨fun _ => ?_, fun _ => ?_⟩
  · walk_at "st"
    refine ⟨cm_ok b2 hgb (by decide), ?_⟩
    walk_at "st"
    refine ⟨a, _, o1, k, rfl, mset_same, hS1, by omega, by omega, fun r2 o2 r0 r1 hS2 => ?_⟩
    rw [mset_mset]
    walk_at "st"
    exact Wq.now (h _ o2 (vb hgb r0 r1) (by omega) (by omega) hS2)
  · walk_at "st"
    refine ⟨cm_ok b2 hsb (by decide), ?_⟩
    walk_at "st"
    refine ⟨a, _, o1, k, rfl, mset_same, hS1, by omega, by omega, fun r2 o2 r0 r1 hS2 => ?_⟩
    rw [mset_mset]
    walk_at "st"
    exact Wq.now (h _ o2 (vb hsb r0 r1) (by omega) (by omega) hS2)
theorem sem_law_drawn_surd (ds : List D) (M : Mu) (Q : DK) (E : DXK) (h : sp_law_drawn_surd ds M Q E) : t_law_drawn_surd (dEnd Q) (dstart 6 ds) M := by
  obtain ⟨a, o, k, roots, great, rfl, hM, hS, g9, g0, h⟩ := h
  unfold t_law_drawn_surd
  walk_at "go"
  refine ⟨a, 6, o, k + 5, rfl, hM, hS, by decide, by decide, fun d o1 d0 d1 hS1 => ?_⟩
  walk_at "st"
  refine ⟨a, o1, k + 3, 9, great, rfl, mset_same, hS1, by decide, g9, by omega, fun v o2 hv v0 v1 hS2 => ?_⟩
  have hvb : Bt 69 v := by unfold Bt; omega
  rw [mset_mset]
  walk_at "st"
  refine via (P := fun d' M' => ∃ (b : Int) (o' : DO), d' = .int b ∧ Bt 3 b ∧ M' = mset M a o' ∧ Src (k + 1) o') (fun Q' hQ' => ?_) ?_
  · refine r_dif ?_
    walk_at "st"
    refine ⟨a, 4, o2, k + 2, rfl, mset_same, hS2, by decide, by decide, fun r o3 _ _ hS3 => ?_⟩
    rw [mset_mset]
    walk_at "st"
    refine ⟨fun _ => ?_, fun _ => ?_⟩
    · walk_at "st"
      exact hQ' _ _ ⟨0, o3, rfl, bt_lit 3 (by decide), rfl, hS3.less (by omega)⟩
    · walk_at "st"
      refine ⟨a, 5, o3, k + 1, rfl, mset_same, hS3, by decide, by decide, fun r o4 r0 r1 hS4 => ?_⟩
      rw [mset_mset]
      obtain ⟨j, rfl⟩ := Int.eq_ofNat_of_zero_le r0
      obtain ⟨b, hb, hb3⟩ : ∃ b : Int, ([D.int 1, D.int (-1), D.int 2, D.int (-3), D.int 5] : List D)[j]? = some (.int b) ∧ Bt 3 b := by
        have hj : j < 5 := by omega
        match j, hj with
        | 0, _ => exact ⟨1, rfl, bt_lit 3 (by decide)⟩
        | 1, _ => exact ⟨-1, rfl, bt_lit 3 (by decide)⟩
        | 2, _ => exact ⟨2, rfl, bt_lit 3 (by decide)⟩
        | 3, _ => exact ⟨-3, rfl, bt_lit 3 (by decide)⟩
        | 4, _ => exact ⟨5, rfl, bt_lit 3 (by decide)⟩
      refine r_idxL (atI_nat hb) ?_
      exact hQ' _ _ ⟨b, o4, rfl, hb3, rfl, hS4⟩
  rintro _ _ ⟨b, o', rfl, hb, rfl, hS'⟩
  walk_at "st"
  refine ⟨a, 18, o', k, rfl, mset_same, hS', by decide, by decide, fun c o5 c0 c1 hS5 => ?_⟩
  rw [mset_mset]
  walk_at "st"
  have hd3 : Bt 69 (1 + d) := by unfold Bt; omega
  have hc3 : Bt 69 (2 + c) := by unfold Bt; omega
  exact ⟨v, b, 2 + c, 1 + d, 69, rfl, hvb, bt_up hb (by decide), hc3, hd3, by decide, by decide, by omega, by omega, fun x hx _ => Wq.now (h x o5 hx hS5)⟩
end SU

set_option exponentiation.threshold 5000
namespace K15
open PySem PySem.Spec PyProof.Rows L2 TL DL SU
local macro_rules | `(tactic| walk_at "st1") => `(tactic| first
  | with_reducible refine r_sq ?_ | with_reducible refine r_nx ?_ | with_reducible refine r_rt ?_ | with_reducible refine r_rtN ?_ | with_reducible refine r_ex ?_ | with_reducible refine r_as ?_ | with_reducible refine r_bk ?_ | with_reducible refine r_ct ?_
  | ((with_reducible apply r_var); exact rfl) | with_reducible refine r_c ?_ | with_reducible refine r_op ?_ | with_reducible refine r_un ?_ | with_reducible refine r_neg ?_
  | ((with_reducible refine r_dgN rfl ?_); (try simp only [List.set]))
  | with_reducible refine r_dgSub ?_ | with_reducible refine r_dgT rfl ?_ | with_reducible refine r_dga0 ?_ | with_reducible refine r_dga1 ?_ | with_reducible refine r_auS ?_ | ((with_reducible apply r_au); exact rfl)
  | with_reducible refine r_par ?_ | ((with_reducible refine r_kPar rfl ?_); (try simp only [List.set]))
  | with_reducible refine r_addI ?_ | with_reducible refine r_addS ?_ | with_reducible refine r_addT ?_ | with_reducible refine r_addL ?_ | with_reducible refine r_subI ?_ | with_reducible refine r_mulI ?_ | with_reducible refine r_fdiv ?_ | with_reducible refine r_mod ?_ | with_reducible refine r_pow ?_ | with_reducible refine r_shl ?_
  | with_reducible refine r_eqI ?_ | with_reducible refine r_eqS ?_ | with_reducible refine r_eqB ?_ | with_reducible refine r_neI ?_ | with_reducible refine r_neS ?_ | with_reducible refine r_neB ?_ | with_reducible refine r_ltI ?_ | with_reducible refine r_gtI ?_ | with_reducible refine r_leI ?_ | with_reducible refine r_geI ?_ | with_reducible refine r_isN ?_ | with_reducible refine r_notN ?_ | with_reducible refine r_inS ?_
  | with_reducible refine r_test ?_ | with_reducible refine r_kB ?_ | with_reducible refine r_tru ?_ | with_reducible refine r_kTb ?_ | with_reducible refine r_kTi ?_ | with_reducible refine r_kTn ?_ | with_reducible refine r_kTl ?_ | with_reducible refine r_kTt ?_ | with_reducible refine r_kTs ?_ | with_reducible refine r_not ?_ | with_reducible refine r_notV ?_ | with_reducible refine r_yes ?_
  | with_reducible refine r_nil ?_ | with_reducible refine r_cons ?_ | with_reducible refine r_tup ?_ | with_reducible refine r_lst ?_ | with_reducible refine r_newF ?_ | with_reducible refine r_cb ?_
  | with_reducible refine r_lenS ?_ | with_reducible refine r_lenL ?_ | with_reducible refine r_lenT ?_ | with_reducible refine r_lenSrc ?_ | with_reducible refine r_abs ?_ | with_reducible refine r_min2 ?_ | with_reducible refine r_max2 ?_ | with_reducible refine r_intI ?_ | with_reducible refine r_str ?_ | with_reducible refine r_tupT ?_ | with_reducible refine r_tupL ?_ | with_reducible refine r_divmod ?_
  | with_reducible refine r_sl ?_ | with_reducible refine r_noP ?_ | with_reducible refine r_part ?_ | with_reducible refine r_kP ?_ | with_reducible refine r_slS ?_ | with_reducible refine r_slT ?_ | with_reducible refine r_slL ?_ | with_reducible refine r_slSrc ?_
  | with_reducible refine r_bm ?_ | with_reducible refine r_tyS ?_ | with_reducible refine r_starts ?_ | with_reducible refine r_count ?_ | with_reducible refine r_call ?_ | with_reducible refine r_for ?_ | with_reducible refine r_seq ?_ | with_reducible refine r_kIt ?_ | with_reducible refine r_kIl ?_ | with_reducible refine r_kIs ?_ | with_reducible refine r_kIsrc ?_ | with_reducible refine r_r1 ?_ | with_reducible refine r_r2 ?_ | with_reducible refine r_lc ?_
  | with_reducible refine lit0 ?_ | with_reducible refine lit1 ?_ | with_reducible refine lit2 ?_ | with_reducible refine lit3 ?_ | with_reducible refine lit4 ?_ | with_reducible refine lit5 ?_ | with_reducible refine lit6 ?_ | with_reducible refine lit7 ?_
  | with_reducible refine r_callX ?_ | with_reducible refine r_callE ?_ | with_reducible refine r_try ?_ | with_reducible refine r_isE ?_ | with_reducible refine r_fld ?_ | with_reducible refine r_excK ?_ | with_reducible refine r_raise ?_
  | with_reducible refine r_subB ?_ | with_reducible refine r_r3 ?_ | with_reducible refine r_rev ?_ | with_reducible refine r_kRv ?_
  | fail)
local macro_rules | `(tactic| walk_at "st") => `(tactic| repeat (first | walk_at "st1" | dsimp only))
local macro_rules | `(tactic| walk_at "go") => `(tactic| (simp only [dstart, dEnd, List.map_cons, List.map_nil, List.length_cons, List.length_nil, Nat.reduceAdd, Nat.reduceSub, Nat.zero_add, List.replicate, List.cons_append, List.nil_append]; walk_at "st"))

local macro_rules | `(tactic| walk_at "bt") => `(tactic| first | with_reducible assumption | ((with_reducible apply bt_mul) <;> walk_at "bt") | ((with_reducible apply bt_sub) <;> walk_at "bt") | ((with_reducible apply bt_add) <;> walk_at "bt") | ((with_reducible apply bt_neg) <;> walk_at "bt") | ((with_reducible apply bt_abs) <;> walk_at "bt") | ((with_reducible apply bt_fdiv) <;> walk_at "bt") | exact bt_lit 64 (by decide +kernel))
local macro_rules | `(tactic| walk_at "cm") => `(tactic| ((with_reducible refine And.intro ?_ ?_); (focus ((with_reducible apply cm_ok) <;> first | decide | walk_at "bt"))))
local macro_rules | `(tactic| walk_at "sm") => `(tactic| repeat (first | walk_at "st1" | ((with_reducible apply r_idxT); exact rfl) | ((with_reducible apply r_idxL); exact rfl) | dsimp only | walk_at "cm"))

/-! ### the radicals -/
def PrimeP (π : Int) : Prop := 2 ≤ π ∧ ∀ x y : Int, π ∣ x * y → π ∣ x ∨ π ∣ y
theorem prime_of {n : Nat} (h2 : 2 ≤ n) (h : ∀ a b : Fin n, (a.val * b.val) % n = 0 → a.val = 0 ∨ b.val = 0) : PrimeP (n : Int) := by
  refine ⟨by omega, fun x y hd => ?_⟩
  have hn : (0 : Int) < n := by omega
  have a0 := Int.emod_nonneg x (show (n : Int) ≠ 0 by omega)
  have a1 := Int.emod_lt_of_pos x hn
  have b0 := Int.emod_nonneg y (show (n : Int) ≠ 0 by omega)
  have b1 := Int.emod_lt_of_pos y hn
  have e := Int.emod_eq_zero_of_dvd hd
  rw [Int.mul_emod] at e
  have hx : x % n = ((x % n).toNat : Int) := by omega
  have hy : y % n = ((y % n).toNat : Int) := by omega
  rw [hx, hy] at e
  have e2 : ((x % n).toNat * (y % n).toNat) % n = 0 := by
    have : ((((x % n).toNat * (y % n).toNat) % n : Nat) : Int) = 0 := by rw [Int.natCast_emod, Int.natCast_mul]; exact e
    omega
  rcases h ⟨(x % n).toNat, by omega⟩ ⟨(y % n).toNat, by omega⟩ e2 with h1 | h1
  · left
    have h1 : (x % n).toNat = 0 := h1
    exact Int.dvd_of_emod_eq_zero (by omega)
  · right
    have h1 : (y % n).toNat = 0 := h1
    exact Int.dvd_of_emod_eq_zero (by omega)
theorem prime_mem {π : Int} (h : π ∈ ([2, 3, 5, 7] : List Int)) : PrimeP π := by
  simp only [List.mem_cons, List.not_mem_nil, or_false] at h
  rcases h with rfl | rfl | rfl | rfl
  · exact prime_of (n := 2) (by decide) (by decide)
  · exact prime_of (n := 3) (by decide) (by decide)
  · exact prime_of (n := 5) (by decide) (by decide)
  · exact prime_of (n := 7) (by decide) (by decide)
theorem prime_pow {π : Int} (h : PrimeP π) {x : Int} : ∀ k : Nat, π ∣ x ^ k → π ∣ x
  | 0, hd => by
    rw [Int.pow_zero] at hd
    have := Int.le_of_dvd (by decide) hd
    have := h.1
    omega
  | k + 1, hd => by
    rw [Int.pow_succ] at hd
    rcases h.2 _ _ hd with h1 | h1
    · exact prime_pow h k h1
    · exact h1
theorem no_root {π s T : Int} {k : Nat} (hp : PrimeP π) (hk : 2 ≤ k) (hs : ¬ π ∣ s) (hT : ¬ π ∣ T) : ∀ (N : Nat) (n m : Int), m.natAbs ≤ N → T * n ^ k = π * s * m ^ k → m = 0
  | 0, n, m, hN, _ => by omega
  | N + 1, n, m, hN, e => by
    by_cases hm : m = 0
    · exact hm
    · exfalso
      have hp0 : π ≠ 0 := by have := hp.1; omega
      have h1 : π ∣ T * n ^ k := ⟨s * m ^ k, by rw [e, Int.mul_assoc]⟩
      have h2 : π ∣ n := by
        rcases hp.2 _ _ h1 with h | h
        · exact absurd h hT
        · exact prime_pow hp k h
      obtain ⟨n', rfl⟩ := h2
      obtain ⟨j, rfl⟩ : ∃ j, k = j + 1 := ⟨k - 1, by omega⟩
      have e2 : T * π ^ j * n' ^ (j + 1) = s * m ^ (j + 1) := by
        refine Int.eq_of_mul_eq_mul_left hp0 ?_
        rw [Int.mul_pow, Int.pow_succ π] at e
        have a1 : π * (T * π ^ j * n' ^ (j + 1)) = T * (π ^ j * π * n' ^ (j + 1)) := by grind
        have a2 : π * (s * m ^ (j + 1)) = π * s * m ^ (j + 1) := by grind
        rw [a1, a2]
        exact e
      obtain ⟨i, rfl⟩ : ∃ i, j = i + 1 := ⟨j - 1, by omega⟩
      have h3 : π ∣ s * m ^ (i + 1 + 1) := ⟨T * π ^ i * n' ^ (i + 1 + 1), by rw [← e2, Int.pow_succ π]; grind⟩
      have h4 : π ∣ m := by
        rcases hp.2 _ _ h3 with h | h
        · exact absurd h hs
        · exact prime_pow hp _ h
      obtain ⟨m', rfl⟩ := h4
      have e3 : T * n' ^ (i + 1 + 1) = π * s * m' ^ (i + 1 + 1) := by
        have hpi : π ^ (i + 1) ≠ 0 := Int.pow_ne_zero hp0
        refine Int.eq_of_mul_eq_mul_left hpi ?_
        rw [Int.mul_pow, Int.pow_succ π (i + 1)] at e2
        have a1 : π ^ (i + 1) * (T * n' ^ (i + 1 + 1)) = T * π ^ (i + 1) * n' ^ (i + 1 + 1) := by grind
        have a2 : π ^ (i + 1) * (π * s * m' ^ (i + 1 + 1)) = s * (π ^ (i + 1) * π * m' ^ (i + 1 + 1)) := by grind
        rw [a1, a2]
        exact e2
      have hlt : m'.natAbs < (π * m').natAbs := by
        rw [Int.natAbs_mul]
        have hm' : m'.natAbs ≠ 0 := by
          intro z
          have : m' = 0 := by omega
          subst this
          simp at hm
        have := Nat.mul_le_mul_right m'.natAbs (show 2 ≤ π.natAbs by have := hp.1; omega)
        omega
      have := no_root hp hk hs hT N n' m' (by omega) e3
      subst this
      simp at hm
def radB (S T : Int) (k : Nat) : Bool := decide (Int.gcd S T = 1) && (upM (radL S T k) 200 5).isSome
def pis : List Int := [2, 3, 5, 7]
def mus : List Int := [1, 11, 10403]
def dens : List Int := [1, 13, 169, 10001]
def sides : List Int := [1, -1]
def ks : List Nat := [3, 5, 7]
theorem rad_all : (pis.all fun π => mus.all fun u => dens.all fun T => ks.all fun k => sides.all fun s => radB (s * (π * u)) T k) = true := by decide +kernel
theorem nodiv : (pis.all fun π => mus.all fun u => dens.all fun T => sides.all fun s => decide ((s * u) % π ≠ 0) && decide (T % π ≠ 0)) = true := by decide +kernel
theorem prim_rad {S T : Int} {k : Nat} (hk : k = 3 ∨ k = 5 ∨ k = 7) (h : Int.gcd S T = 1) : Prim (radL S T k) := by
  intro g ms hg e
  have hmem : ∀ c ∈ radL S T k, g ∣ c := fun c hc => by
    rw [e] at hc
    obtain ⟨x, _, rfl⟩ := List.mem_map.mp hc
    exact ⟨x, rfl⟩
  have h1 : g ∣ -S := hmem _ (by rcases hk with rfl | rfl | rfl <;> simp [radL])
  have h2 : g ∣ T := hmem _ (by rcases hk with rfl | rfl | rfl <;> simp [radL])
  have h3 : g ∣ (Int.gcd S T : Int) := Int.dvd_coe_gcd (Int.dvd_neg.mp h1) h2
  rw [h] at h3
  exact Int.eq_one_of_dvd_one (Int.le_of_lt hg) h3
theorem rad_ok {π u T s : Int} {k : Nat} (hπ : π ∈ pis) (hu : u ∈ mus) (hT : T ∈ dens) (hk : k ∈ ks) (hs : s ∈ sides) : RadK (s * (π * u)) T k ∧ 0 < π * u ∧ Bt 20 (π * u) ∧ 0 < T ∧ Bt 20 T ∧ (k = 3 ∨ k = 5 ∨ k = 7) ∧ (s = 1 ∨ s = -1) := by
  have hall := List.all_eq_true.mp (List.all_eq_true.mp (List.all_eq_true.mp (List.all_eq_true.mp (List.all_eq_true.mp rad_all π hπ) u hu) T hT) k hk) s hs
  have hnd := List.all_eq_true.mp (List.all_eq_true.mp (List.all_eq_true.mp (List.all_eq_true.mp nodiv π hπ) u hu) T hT) s hs
  unfold radB at hall
  rw [Bool.and_eq_true] at hall hnd
  have hg := of_decide_eq_true hall.1
  have hup := hall.2
  have hk' : k = 3 ∨ k = 5 ∨ k = 7 := by simpa [ks] using hk
  have hs' : s = 1 ∨ s = -1 := by simpa [sides] using hs
  have hπ' : π = 2 ∨ π = 3 ∨ π = 5 ∨ π = 7 := by simpa [pis] using hπ
  have hu' : u = 1 ∨ u = 11 ∨ u = 10403 := by simpa [mus] using hu
  have hT' : T = 1 ∨ T = 13 ∨ T = 169 ∨ T = 10001 := by simpa [dens] using hT
  have hq0 : 0 < π * u := Int.mul_pos (by omega) (by omega)
  have hqb : Bt 20 (π * u) := bt_up (bt_mul (a := 3) (b := 14) (by unfold Bt; omega) (by unfold Bt; omega)) (by decide)
  have hTb : Bt 20 T := by unfold Bt; omega
  have hok : RdOk (s * (π * u)) T k := ⟨by omega, Int.mul_ne_zero (by omega) (by omega), hk'⟩
  have hSb : Bt 22 (s * (π * u)) := bt_up (bt_mul (a := 1) (by unfold Bt; omega) hqb) (by decide)
  refine ⟨⟨hok, ?_, prim_rad hk' hg, ?_, ?_⟩, hq0, hqb, by omega, hTb, hk', hs'⟩
  · have z0 : Bt 700 (0 : Int) := bt_up (bt_lit 0 (by decide)) (by decide)
    have h1 : Bt 700 (-(s * (π * u))) := bt_up (bt_neg hSb) (by decide)
    have h2 : Bt 700 T := bt_up hTb (by decide)
    rcases hk' with rfl | rfl | rfl
    · exact ⟨by simp [radL], fun c hc => by
        simp only [radL, List.mem_cons, List.not_mem_nil, or_false] at hc
        rcases hc with rfl | rfl | rfl | rfl <;> assumption⟩
    · exact ⟨by simp [radL], fun c hc => by
        simp only [radL, List.mem_cons, List.not_mem_nil, or_false] at hc
        rcases hc with rfl | rfl | rfl | rfl | rfl | rfl <;> assumption⟩
    · exact ⟨by simp [radL], fun c hc => by
        simp only [radL, List.mem_cons, List.not_mem_nil, or_false] at hc
        rcases hc with rfl | rfl | rfl | rfl | rfl | rfl | rfl | rfl <;> assumption⟩
  · intro n m hm h0
    rw [hom_rad hok] at h0
    have e : T * n ^ k = π * (s * u) * m ^ k := by
      have : s * (π * u) = π * (s * u) := by grind
      rw [this] at h0
      omega
    have := no_root (prime_mem hπ) (by omega) (fun hd => of_decide_eq_true hnd.1 (Int.emod_eq_zero_of_dvd hd)) (fun hd => of_decide_eq_true hnd.2 (Int.emod_eq_zero_of_dvd hd)) _ n m (Nat.le_refl _) e
    omega
  · exact Option.isSome_iff_exists.mp hup
end K15

set_option exponentiation.threshold 5000
namespace K15
open PySem PySem.Spec PyProof.Rows L2 TL DL SU
local macro_rules | `(tactic| walk_at "st1") => `(tactic| first
  | with_reducible refine r_sq ?_ | with_reducible refine r_nx ?_ | with_reducible refine r_rt ?_ | with_reducible refine r_rtN ?_ | with_reducible refine r_ex ?_ | with_reducible refine r_as ?_ | with_reducible refine r_bk ?_ | with_reducible refine r_ct ?_
  | ((with_reducible apply r_var); exact rfl) | with_reducible refine r_c ?_ | with_reducible refine r_op ?_ | with_reducible refine r_un ?_ | with_reducible refine r_neg ?_
  | ((with_reducible refine r_dgN rfl ?_); (try simp only [List.set]))
  | with_reducible refine r_dgSub ?_ | with_reducible refine r_dgT rfl ?_ | with_reducible refine r_dga0 ?_ | with_reducible refine r_dga1 ?_ | with_reducible refine r_auS ?_ | ((with_reducible apply r_au); exact rfl)
  | with_reducible refine r_par ?_ | ((with_reducible refine r_kPar rfl ?_); (try simp only [List.set]))
  | with_reducible refine r_addI ?_ | with_reducible refine r_addS ?_ | with_reducible refine r_addT ?_ | with_reducible refine r_addL ?_ | with_reducible refine r_subI ?_ | with_reducible refine r_mulI ?_ | with_reducible refine r_fdiv ?_ | with_reducible refine r_mod ?_ | with_reducible refine r_pow ?_ | with_reducible refine r_shl ?_
  | with_reducible refine r_eqI ?_ | with_reducible refine r_eqS ?_ | with_reducible refine r_eqB ?_ | with_reducible refine r_neI ?_ | with_reducible refine r_neS ?_ | with_reducible refine r_neB ?_ | with_reducible refine r_ltI ?_ | with_reducible refine r_gtI ?_ | with_reducible refine r_leI ?_ | with_reducible refine r_geI ?_ | with_reducible refine r_isN ?_ | with_reducible refine r_notN ?_ | with_reducible refine r_inS ?_
  | with_reducible refine r_test ?_ | with_reducible refine r_kB ?_ | with_reducible refine r_tru ?_ | with_reducible refine r_kTb ?_ | with_reducible refine r_kTi ?_ | with_reducible refine r_kTn ?_ | with_reducible refine r_kTl ?_ | with_reducible refine r_kTt ?_ | with_reducible refine r_kTs ?_ | with_reducible refine r_not ?_ | with_reducible refine r_notV ?_ | with_reducible refine r_yes ?_
  | with_reducible refine r_nil ?_ | with_reducible refine r_cons ?_ | with_reducible refine r_tup ?_ | with_reducible refine r_lst ?_ | with_reducible refine r_newF ?_ | with_reducible refine r_cb ?_
  | with_reducible refine r_lenS ?_ | with_reducible refine r_lenL ?_ | with_reducible refine r_lenT ?_ | with_reducible refine r_lenSrc ?_ | with_reducible refine r_abs ?_ | with_reducible refine r_min2 ?_ | with_reducible refine r_max2 ?_ | with_reducible refine r_intI ?_ | with_reducible refine r_str ?_ | with_reducible refine r_tupT ?_ | with_reducible refine r_tupL ?_ | with_reducible refine r_divmod ?_
  | with_reducible refine r_sl ?_ | with_reducible refine r_noP ?_ | with_reducible refine r_part ?_ | with_reducible refine r_kP ?_ | with_reducible refine r_slS ?_ | with_reducible refine r_slT ?_ | with_reducible refine r_slL ?_ | with_reducible refine r_slSrc ?_
  | with_reducible refine r_bm ?_ | with_reducible refine r_tyS ?_ | with_reducible refine r_starts ?_ | with_reducible refine r_count ?_ | with_reducible refine r_call ?_ | with_reducible refine r_for ?_ | with_reducible refine r_seq ?_ | with_reducible refine r_kIt ?_ | with_reducible refine r_kIl ?_ | with_reducible refine r_kIs ?_ | with_reducible refine r_kIsrc ?_ | with_reducible refine r_r1 ?_ | with_reducible refine r_r2 ?_ | with_reducible refine r_lc ?_
  | with_reducible refine lit0 ?_ | with_reducible refine lit1 ?_ | with_reducible refine lit2 ?_ | with_reducible refine lit3 ?_ | with_reducible refine lit4 ?_ | with_reducible refine lit5 ?_ | with_reducible refine lit6 ?_ | with_reducible refine lit7 ?_
  | with_reducible refine r_callX ?_ | with_reducible refine r_callE ?_ | with_reducible refine r_try ?_ | with_reducible refine r_isE ?_ | with_reducible refine r_fld ?_ | with_reducible refine r_excK ?_ | with_reducible refine r_raise ?_
  | with_reducible refine r_subB ?_ | with_reducible refine r_r3 ?_ | with_reducible refine r_rev ?_ | with_reducible refine r_kRv ?_
  | fail)
local macro_rules | `(tactic| walk_at "st") => `(tactic| repeat (first | walk_at "st1" | dsimp only))
local macro_rules | `(tactic| walk_at "go") => `(tactic| (simp only [dstart, dEnd, List.map_cons, List.map_nil, List.length_cons, List.length_nil, Nat.reduceAdd, Nat.reduceSub, Nat.zero_add, List.replicate, List.cons_append, List.nil_append]; walk_at "st"))

local macro_rules | `(tactic| walk_at "bt") => `(tactic| first | with_reducible assumption | ((with_reducible apply bt_mul) <;> walk_at "bt") | ((with_reducible apply bt_sub) <;> walk_at "bt") | ((with_reducible apply bt_add) <;> walk_at "bt") | ((with_reducible apply bt_neg) <;> walk_at "bt") | ((with_reducible apply bt_abs) <;> walk_at "bt") | ((with_reducible apply bt_fdiv) <;> walk_at "bt") | exact bt_lit 64 (by decide +kernel))
local macro_rules | `(tactic| walk_at "cm") => `(tactic| ((with_reducible refine And.intro ?_ ?_); (focus ((with_reducible apply cm_ok) <;> first | decide | walk_at "bt"))))
local macro_rules | `(tactic| walk_at "sm") => `(tactic| repeat (first | walk_at "st1" | ((with_reducible apply r_idxT); exact rfl) | ((with_reducible apply r_idxL); exact rfl) | dsimp only | walk_at "cm"))

def surdW : List Nat := [115, 117, 114, 100]
def powerW : List Nat := [112, 111, 119, 101, 114]
structure RadP (q0 T : Int) (k : Nat) (s : Int) : Prop where
  ok : RadK (s * q0) T k
  q00 : 0 < q0
  qb : Bt 20 q0
  T0 : 0 < T
  Tb : Bt 20 T
  hk : k = 3 ∨ k = 5 ∨ k = 7
  hs : s = 1 ∨ s = -1
def radD (q0 T : Int) (k : Nat) (s : Int) : D := .tup [.str powerW, .tup [.tup (iD (radL (s * q0) T k)), .int 1], .int (k : Int), frD q0 T, .int s]
def srdD (x : Su) : D := .tup [.str surdW, suD x]
inductive Th (φ : Int → Int → Int) : D → Prop
  | surd {x : Su} (h : SuOk 139 x) (e : φ = cS x) : Th φ (srdD x)
  | rad {q0 T s : Int} {k : Nat} (h : RadP q0 T k s) (e : φ = cR (s * q0) T k) : Th φ (radD q0 T k s)
theorem Th.cut {φ : Int → Int → Int} {d : D} (h : Th φ d) : Cut φ := by
  cases h with
  | surd h e => rw [e]; exact h.cut
  | rad h e => rw [e]; exact cutR h.T0 h.hk
/-- what the key tells -/
inductive KInfo : D → D → Prop
  | lin {x : Su} (h : x.b = 0) : KInfo (srdD x) (.tup [.tup (iD [-x.a, x.d]), .int 1])
  | far {d key : D} (h : ∀ c0 c1 i, key ≠ .tup [.tup (iD [c0, c1]), i]) (h2 : ∀ x, d = srdD x → x.b ≠ 0) : KInfo d key
def sp_law_radical : DSp := fun ds M Q _ => ∃ a o k, ds = [.ref a] ∧ M a = some o ∧ Src (k + 5) o ∧ ∀ q0 T j s o', RadP q0 T j s → Src k o' → Q (radD q0 T j s) (mset M a o')
def sp_law_root_floor : DSp := fun ds M Q _ => ∃ (q0 T : Int) (k : Nat) (s n : Int), ds = [radD q0 T k s, .int n] ∧ RadP q0 T k s ∧ 0 < n ∧ Bt 600 n ∧ ∀ f, 0 ≤ f → T * f ^ k ≤ q0 * n ^ k → q0 * n ^ k < T * (f + 1) ^ k → Q (.int f) M
def sp_law_thing : DSp := fun ds M Q _ => ∃ a o k, ds = [.ref a] ∧ M a = some o ∧ Src (k + 7) o ∧ ∀ φ d o', Th φ d → Src k o' → Q d (mset M a o')
def sp_law_thing_floor : DSp := fun ds M Q _ => ∃ (φ : Int → Int → Int) (d : D) (n : Int), ds = [d, .int n] ∧ Th φ d ∧ 0 < n ∧ Bt 600 n ∧ ∀ f, Fl φ n f → Q (.int f) M
def sp_law_key_of : DSp := fun ds M Q _ => ∃ (φ : Int → Int → Int) (d : D), ds = [d] ∧ Th φ d ∧ ∀ key, KeyD φ key → KInfo d key → Q key M
def sp_law_against : DSp := fun ds M Q _ => ∃ (φ : Int → Int → Int) (d : D) (n m : Int), ds = [d, frD n m] ∧ Th φ d ∧ 0 < m ∧ Bt 4200 n ∧ Bt 700 m ∧ Q (.int (φ n m)) M
def sp_law_is_fraction : DSp := fun ds M Q _ => ∃ (n m : Int), ds = [frD n m] ∧ 0 < m ∧ Int.gcd n m = 1 ∧ Bt 5000 n ∧ Bt 5000 m ∧ Q (.bl true) M
def sp_law_near : DSp := fun ds M Q _ => ∃ (φ : Int → Int → Int) (d : D) (p q : Int), ds = [d, frD p q] ∧ Th φ d ∧ 0 < p ∧ 0 < q ∧ Bt 200 p ∧ Bt 200 q ∧ Q (.bl true) M
def sp_law : DSp := fun ds M Q _ => ∃ ns, ds = [.src ns] ∧ Q (.bl true) M
def t_law_radical : DTS := (dSq (dAs (dOp dIdx (dLst false (dCons (dC (.int 2)) (dCons (dC (.int 3)) (dCons (dC (.int 5)) (dCons (dC (.int 7)) dNil))))) (dCall sp_law_pick [] dX0 (dCons (dVar 0) (dCons (dC (.int 4)) dNil)))) (dgN 1)) (dSq (dAs (dOp dIdx (dLst false (dCons (dC (.int 3)) (dCons (dC (.int 5)) (dCons (dC (.int 7)) dNil)))) (dCall sp_law_pick [] dX0 (dCons (dVar 0) (dCons (dC (.int 3)) dNil)))) (dgN 2)) (dSq (dAs (dTup (dCons (dOp (dMul false) (dVar 1) (dOp dIdx (dLst false (dCons (dC (.int 1)) (dCons (dC (.int 11)) (dCons (dC (.int 10403)) dNil)))) (dCall sp_law_pick [] dX0 (dCons (dVar 0) (dCons (dC (.int 3)) dNil))))) (dCons (dOp dIdx (dLst false (dCons (dC (.int 1)) (dCons (dC (.int 13)) (dCons (dC (.int 169)) (dCons (dC (.int 10001)) dNil))))) (dCall sp_law_pick [] dX0 (dCons (dVar 0) (dCons (dC (.int 4)) dNil)))) dNil))) (dgN 3)) (dSq (dAs (dOp dSub (dC (.int 1)) (dOp (dMul false) (dC (.int 2)) (dCall sp_law_pick [] dX0 (dCons (dVar 0) (dCons (dC (.int 2)) dNil))))) (dgN 4)) (dRt (dTup (dCons (dC (.str [112, 111, 119, 101, 114])) (dCons (dTup (dCons (dOp (dAdd false) (dOp (dAdd false) (dTup (dCons (dOp (dMul false) (dUn dNeg (dVar 4)) (dOp dIdx (dVar 3) (dC (.int 0)))) dNil)) (dOp dMulT (dTup (dCons (dC (.int 0)) dNil)) (dOp dSub (dVar 2) (dC (.int 1))))) (dTup (dCons (dOp dIdx (dVar 3) (dC (.int 1))) dNil))) (dCons (dC (.int 1)) dNil))) (dCons (dVar 2) (dCons (dVar 3) (dCons (dVar 4) dNil)))))))))))
def t_law_root_floor : DTS := (dSq (dAs (dC (.int 0)) (dgN 2)) (dSq (dAs (dOp (dMul false) (dVar 1) (dOp (dAdd false) (dOp dIdx (dOp dIdx (dVar 0) (dC (.int 3))) (dC (.int 0))) (dC (.int 1)))) (dgN 3)) (dSq (dWhile (dTest (dOp dGt (dOp dSub (dVar 3) (dVar 2)) (dC (.int 1)))) (dSq (dAs (dOp dFdiv (dOp (dAdd false) (dVar 2) (dVar 3)) (dC (.int 2))) (dgN 4)) (dIfS (dTest (dOp dLe (dOp (dMul false) (dCall sp_law_power [] dX0 (dCons (dVar 4) (dCons (dOp dIdx (dVar 0) (dC (.int 2))) dNil))) (dOp dIdx (dOp dIdx (dVar 0) (dC (.int 3))) (dC (.int 1)))) (dOp (dMul false) (dOp dIdx (dOp dIdx (dVar 0) (dC (.int 3))) (dC (.int 0))) (dCall sp_law_power [] dX0 (dCons (dVar 1) (dCons (dOp dIdx (dVar 0) (dC (.int 2))) dNil)))))) (dAs (dVar 4) (dgN 2)) (dAs (dVar 4) (dgN 3))))) (dRt (dVar 2)))))
def t_law_thing : DTS := (dSq (dIfS (dTest (dOp dEq (dCall sp_law_pick [] dX0 (dCons (dVar 0) (dCons (dC (.int 4)) dNil))) (dC (.int 0)))) (dRt (dCall sp_law_radical [] dX0 (dCons (dVar 0) dNil))) dNx) (dRt (dTup (dCons (dC (.str [115, 117, 114, 100])) (dCons (dCall sp_law_drawn_surd [] dX0 (dCons (dVar 0) (dCons (dC (.int 1)) (dCons (dOp dPow (dC (.int 10)) (dC (.int 20))) dNil)))) dNil)))))
def t_law_thing_floor : DTS := (dSq (dIfS (dTest (dOp dEq (dOp dIdx (dVar 0) (dC (.int 0))) (dC (.str [115, 117, 114, 100])))) (dRt (dCall sp_law_surd_floor [] dX0 (dCons (dOp dIdx (dVar 0) (dC (.int 1))) (dCons (dVar 1) dNil)))) dNx) (dSq (dAs (dCall sp_law_root_floor [] dX0 (dCons (dVar 0) (dCons (dVar 1) dNil))) (dgN 2)) (dRt (dIf (dTest (dOp dGt (dOp dIdx (dVar 0) (dC (.int 4))) (dC (.int 0)))) (dVar 2) (dOp dSub (dUn dNeg (dVar 2)) (dC (.int 1)))))))
def t_law_key_of : DTS := (dRt (dIf (dTest (dOp dEq (dOp dIdx (dVar 0) (dC (.int 0))) (dC (.str [115, 117, 114, 100])))) (dCall sp_law_surd_key [] dX0 (dCons (dOp dIdx (dVar 0) (dC (.int 1))) dNil)) (dOp dIdx (dVar 0) (dC (.int 1)))))
def t_law_against : DTS := (dSq (dIfS (dTest (dOp dEq (dOp dIdx (dVar 0) (dC (.int 0))) (dC (.str [115, 117, 114, 100])))) (dRt (dCall sp_law_surd_order [] dX0 (dCons (dOp dIdx (dVar 0) (dC (.int 1))) (dCons (dTup (dCons (dOp dIdx (dVar 1) (dC (.int 0))) (dCons (dC (.int 0)) (dCons (dC (.int 0)) (dCons (dOp dIdx (dVar 1) (dC (.int 1))) dNil))))) dNil)))) dNx) (dSq (dIfS (dTest (dOp dLe (dOp (dMul false) (dOp dIdx (dVar 0) (dC (.int 4))) (dOp dIdx (dVar 1) (dC (.int 0)))) (dC (.int 0)))) (dRt (dOp dIdx (dVar 0) (dC (.int 4)))) dNx) (dSq (dAs (dCB dAbs (dCons (dOp dIdx (dVar 1) (dC (.int 0))) dNil)) (dgN 2)) (dSq (dAs (dOp (dMul false) (dOp dIdx (dOp dIdx (dVar 0) (dC (.int 3))) (dC (.int 0))) (dCall sp_law_power [] dX0 (dCons (dOp dIdx (dVar 1) (dC (.int 1))) (dCons (dOp dIdx (dVar 0) (dC (.int 2))) dNil)))) (dgN 3)) (dRt (dOp (dMul false) (dOp dIdx (dVar 0) (dC (.int 4))) (dCall sp_law_sign [] dX0 (dCons (dOp dSub (dVar 3) (dOp (dMul false) (dCall sp_law_power [] dX0 (dCons (dVar 2) (dCons (dOp dIdx (dVar 0) (dC (.int 2))) dNil))) (dOp dIdx (dOp dIdx (dVar 0) (dC (.int 3))) (dC (.int 1))))) dNil))))))))
def t_law_is_fraction : DTS := (dSq (dIfS (dOr (dNot (dTru (dCB dIsi (dCons (dVar 0) (dCons (dC (.ty "tuple")) dNil))))) (dTest (dOp dNe (dCB dLen (dCons (dVar 0) dNil)) (dC (.int 2))))) (dRt (dC (.bl false))) dNx) (dSq (dFor (diSeq (dVar 0)) (dgN 1) (dIfS (dOr (dNot (dTru (dCB dIsi (dCons (dVar 1) (dCons (dC (.ty "int")) dNil))))) (dTru (dCB dIsi (dCons (dVar 1) (dCons (dC (.ty "bool")) dNil))))) (dRt (dC (.bl false))) dNx)) (dRt (dAndV (dOp dGt (dOp dIdx (dVar 0) (dC (.int 1))) (dC (.int 0))) (dOp dEq (dCall sp_law_common [] dX0 (dCons (dOp dIdx (dVar 0) (dC (.int 0))) (dCons (dOp dIdx (dVar 0) (dC (.int 1))) dNil))) (dC (.int 1)))))))
def t_law_near : DTS := (dSq (dAs (dCall sp_near [] dX0 (dCons (dCall sp_law_key_of [] dX0 (dCons (dVar 0) dNil)) (dCons (dVar 1) dNil))) (dgN 2)) (dSq (dIfS (dOr (dNot (dTru (dCB dIsi (dCons (dVar 2) (dCons (dC (.ty "tuple")) dNil))))) (dOr (dTest (dOp dNe (dCB dLen (dCons (dVar 2) dNil)) (dC (.int 2)))) (dOr (dNot (dTru (dCall sp_law_is_fraction [] dX0 (dCons (dOp dIdx (dVar 2) (dC (.int 0))) dNil)))) (dNot (dTru (dCall sp_law_is_fraction [] dX0 (dCons (dOp dIdx (dVar 2) (dC (.int 1))) dNil))))))) (dRt (dC (.bl false))) dNx) (dSq (dAs (dVar 2) (dgT [(dgN 3), (dgN 4)])) (dSq (dIfS (dAnd (dTest (dOp dEq (dOp dIdx (dVar 0) (dC (.int 0))) (dC (.str [115, 117, 114, 100])))) (dTest (dOp dEq (dOp dIdx (dOp dIdx (dVar 0) (dC (.int 1))) (dC (.int 1))) (dC (.int 0))))) (dRt (dCall sp_law_same [] dX0 (dCons (dVar 2) (dCons (dTup (dCons (dTup (dCons (dOp dIdx (dOp dIdx (dVar 0) (dC (.int 1))) (dC (.int 0))) (dCons (dOp dIdx (dOp dIdx (dVar 0) (dC (.int 1))) (dC (.int 3))) dNil))) (dCons (dTup (dCons (dOp dIdx (dOp dIdx (dVar 0) (dC (.int 1))) (dC (.int 0))) (dCons (dOp dIdx (dOp dIdx (dVar 0) (dC (.int 1))) (dC (.int 3))) dNil))) dNil))) dNil)))) dNx) (dSq (dIfS (dOr (dTest (dOp dLt (dCall sp_law_against [] dX0 (dCons (dVar 0) (dCons (dVar 3) dNil))) (dC (.int 0)))) (dTest (dOp dGt (dCall sp_law_against [] dX0 (dCons (dVar 0) (dCons (dVar 4) dNil))) (dC (.int 0))))) (dRt (dC (.bl false))) dNx) (dRt (dOp dLe (dOp (dMul false) (dOp dSub (dOp (dMul false) (dOp dIdx (dVar 4) (dC (.int 0))) (dOp dIdx (dVar 3) (dC (.int 1)))) (dOp (dMul false) (dOp dIdx (dVar 3) (dC (.int 0))) (dOp dIdx (dVar 4) (dC (.int 1))))) (dOp dIdx (dVar 1) (dC (.int 1)))) (dOp (dMul false) (dOp (dMul false) (dOp dIdx (dVar 1) (dC (.int 0))) (dOp dIdx (dVar 3) (dC (.int 1)))) (dOp dIdx (dVar 4) (dC (.int 1)))))))))))
def t_law : DTS := (dSq (dAs (dCall sp_law_source [] dX0 (dCons (dVar 0) (dCons (dC (.int 0)) dNil))) (dgN 1)) (dSq (dAs (dCall sp_law_thing [] dX0 (dCons (dVar 1) dNil)) (dgN 2)) (dSq (dAs (dCall sp_law_key_of [] dX0 (dCons (dVar 2) dNil)) (dgN 3)) (dSq (dAs (dOp (dAdd false) (dC (.int 2)) (dCall sp_law_pick [] dX0 (dCons (dVar 1) (dCons (dC (.int 35)) dNil)))) (dgN 4)) (dSq (dFor (diSeq (dLst false (dCons (dCall sp_law_pick [] dX0 (dCons (dVar 1) (dCons (dC (.int 31)) dNil))) (dCons (dC (.int 0)) (dCons (dC (.int 1)) dNil))))) (dgN 5) (dIfS (dNot (dTru (dCall sp_law_same [] dX0 (dCons (dCall sp_head [] dX0 (dCons (dVar 3) (dCons (dVar 4) (dCons (dVar 5) dNil)))) (dCons (dCall sp_law_thing_floor [] dX0 (dCons (dVar 2) (dCons (dCall sp_law_power [] dX0 (dCons (dVar 4) (dCons (dVar 5) dNil))) dNil))) dNil))))) (dRt (dC (.bl false))) dNx)) (dSq (dAs (dCall sp_law_ratio [] dX0 (dCons (dOp (dAdd false) (dC (.int 1)) (dCall sp_law_pick [] dX0 (dCons (dVar 1) (dCons (dC (.int 8)) dNil)))) (dCons (dOp dIdx (dLst false (dCons (dC (.int 1)) (dCons (dC (.int 1)) (dCons (dC (.int 7)) (dCons (dC (.int 1000)) (dCons (dOp dPow (dC (.int 10)) (dC (.int 9))) dNil)))))) (dCall sp_law_pick [] dX0 (dCons (dVar 1) (dCons (dC (.int 5)) dNil)))) dNil))) (dgN 6)) (dSq (dAs (dCall sp_law_ratio [] dX0 (dCons (dOp (dAdd false) (dC (.int 1)) (dCall sp_law_pick [] dX0 (dCons (dVar 1) (dCons (dC (.int 9)) dNil)))) (dCons (dOp (dAdd false) (dC (.int 1)) (dCall sp_law_pick [] dX0 (dCons (dVar 1) (dCons (dOp dPow (dC (.int 10)) (dC (.int 30))) dNil)))) dNil))) (dgN 7)) (dRt (dAndV (dCall sp_law_near [] dX0 (dCons (dVar 2) (dCons (dVar 6) dNil))) (dCall sp_law_near [] dX0 (dCons (dVar 2) (dCons (dVar 7) dNil))))))))))))
theorem pick_mem {xs : List Int} {r : Int} (r0 : 0 ≤ r) (r1 : r < xs.length) : ∃ x ∈ xs, atI (xs.map D.int) r = some (.int x) := by
  obtain ⟨j, rfl⟩ := Int.eq_ofNat_of_zero_le r0
  have hj : j < xs.length := by omega
  exact ⟨xs[j], List.getElem_mem hj, atI_nat (by rw [List.getElem?_map, List.getElem?_eq_getElem hj]; rfl)⟩
theorem sem_law_radical (ds : List D) (M : Mu) (Q : DK) (E : DXK) (h : sp_law_radical ds M Q E) : t_law_radical (dEnd Q) (dstart 5 ds) M := by
  obtain ⟨a, o, k, rfl, hM, hS, h⟩ := h
  unfold t_law_radical
  walk_at "go"
  refine ⟨a, 4, o, k + 4, rfl, hM, hS, by decide, by decide, fun r1 o1 a1 b1 hS1 => ?_⟩
  obtain ⟨π, hπ, e1⟩ := pick_mem (xs := pis) a1 b1
  refine r_idxL e1 ?_
  walk_at "st"
  refine ⟨a, 3, o1, k + 3, rfl, mset_same, hS1, by decide, by decide, fun r2 o2 a2 b2 hS2 => ?_⟩
  rw [mset_mset]
  obtain ⟨kk, hk, e2⟩ : ∃ kk ∈ ks, atI ([D.int 3, D.int 5, D.int 7] : List D) r2 = some (.int (kk : Int)) := by
    obtain ⟨x, hx, e⟩ := pick_mem (xs := [3, 5, 7]) a2 b2
    simp only [List.mem_cons, List.not_mem_nil, or_false] at hx
    rcases hx with rfl | rfl | rfl
    · exact ⟨3, by decide, e⟩
    · exact ⟨5, by decide, e⟩
    · exact ⟨7, by decide, e⟩
  refine r_idxL e2 ?_
  walk_at "st"
  refine ⟨a, 3, o2, k + 2, rfl, mset_same, hS2, by decide, by decide, fun r3 o3 a3 b3 hS3 => ?_⟩
  rw [mset_mset]
  obtain ⟨u, hu, e3⟩ := pick_mem (xs := mus) a3 b3
  refine r_idxL e3 ?_
  have bπ : Bt 3 π := by
    have : π = 2 ∨ π = 3 ∨ π = 5 ∨ π = 7 := by simpa [pis] using hπ
    unfold Bt; omega
  have bu : Bt 14 u := by
    have : u = 1 ∨ u = 11 ∨ u = 10403 := by simpa [mus] using hu
    unfold Bt; omega
  walk_at "st"
  refine ⟨cm_ok bπ bu (by decide), ?_⟩
  walk_at "st"
  refine ⟨a, 4, o3, k + 1, rfl, mset_same, hS3, by decide, by decide, fun r4 o4 a4 b4 hS4 => ?_⟩
  rw [mset_mset]
  obtain ⟨T, hT, e4⟩ := pick_mem (xs := dens) a4 b4
  refine r_idxL e4 ?_
  walk_at "st"
  refine ⟨a, 2, o4, k, rfl, mset_same, hS4, by decide, by decide, fun r5 o5 a5 b5 hS5 => ?_⟩
  rw [mset_mset]
  walk_at "st"
  refine ⟨cm_ok (bt_lit 2 (by decide)) (show Bt 2 r5 by unfold Bt; omega) (by decide), ?_⟩
  obtain ⟨s, hs, es⟩ : ∃ s ∈ sides, 1 - 2 * r5 = s := by
    have : r5 = 0 ∨ r5 = 1 := by omega
    rcases this with rfl | rfl
    · exact ⟨1, by decide, rfl⟩
    · exact ⟨-1, by decide, rfl⟩
  obtain ⟨hR, q0, qb, T0, Tb, hk', hs'⟩ := rad_ok hπ hu hT hk hs
  walk_at "st"
  rw [es]
  have bs : Bt 1 s := by unfold Bt; omega
  refine r_idxT (d := .int (π * u)) atI_zero ?_
  walk_at "st"
  refine ⟨cm_ok (bt_neg bs) qb (by decide), ?_⟩
  walk_at "st"
  refine r_mulT (by simp) (by omega) (by omega) (by simp) ?_
  refine r_addT ⟨sz1000 (by simp; omega), ?_⟩
  walk_at "st"
  refine r_idxT (d := .int T) atI_one ?_
  walk_at "st"
  refine ⟨sz1000 (by simp; omega), ?_⟩
  walk_at "st"
  have fin := h (π * u) T kk s o5 ⟨hR, q0, qb, T0, Tb, hk', hs'⟩ hS5
  have eL : ([D.int (-s * (π * u))] ++ (List.replicate ((kk : Int) - 1).toNat [D.int 0]).flatten) ++ [D.int T] = iD (radL (s * (π * u)) T kk) := by
    rw [Int.neg_mul]
    rcases hk' with rfl | rfl | rfl <;> rfl
  rw [eL]
  exact Wq.now fin
theorem sem_law_root_floor (ds : List D) (M : Mu) (Q : DK) (E : DXK) (h : sp_law_root_floor ds M Q E) : t_law_root_floor (dEnd Q) (dstart 5 ds) M := by
  obtain ⟨q0, T, k, s, n, rfl, hR, n0, hn, h⟩ := h
  obtain ⟨_, q00, qb, T0, Tb, hk, _⟩ := hR
  have hk64 : k ≤ 7 := by omega
  have b1 : Bt 1 (1 : Int) := bt_lit 1 (by decide)
  have hO : Odd' k := hk
  have hk0 : k ≠ 0 := by omega
  have bpow : ∀ {x : Int} {j : Nat}, Bt j x → j ≤ 1000 → Bt 7001 (x ^ k) := fun hx hj => bt_up (bt_pow hx k) (by have := Nat.mul_le_mul hj hk64; omega)
  unfold t_law_root_floor radD frD
  walk_at "go"
  walk_at "sm"
  have hH : Bt 622 (n * (q0 + 1)) := bt_up (bt_mul hn (bt_add qb b1)) (by decide)
  have hH0 : 0 < n * (q0 + 1) := Int.mul_pos n0 (by omega)
  have hHp : q0 * n ^ k < T * (n * (q0 + 1)) ^ k := by
    rw [Int.mul_pow]
    have p1 : 0 < n ^ k := Int.pow_pos n0
    have p2 := pow_ge (b := q0 + 1) (by omega) k (by omega)
    have h1 : q0 * n ^ k < (q0 + 1) ^ k * n ^ k := Int.mul_lt_mul_of_pos_right (by omega) p1
    have h2 : 0 < n ^ k * (q0 + 1) ^ k := Int.mul_pos p1 (by omega)
    have h3 := le_mul_self (c := n ^ k * (q0 + 1) ^ k) T0 (by omega)
    have e : (q0 + 1) ^ k * n ^ k = n ^ k * (q0 + 1) ^ k := Int.mul_comm ..
    omega
  generalize n * (q0 + 1) = H at hH hH0 hHp ⊢
  refine r_while (fun m δ M' => ∃ (l u : Int) (s4 : Option D), m = (u - l).toNat ∧ 0 ≤ l ∧ l < u ∧ u ≤ H ∧ T * l ^ k ≤ q0 * n ^ k ∧ q0 * n ^ k < T * u ^ k ∧ M' = M ∧ δ = [some (.tup [.str powerW, .tup [.tup (iD (radL (s * q0) T k)), .int 1], .int (k : Int), .tup [.int q0, .int T], .int s]), some (.int n), some (.int l), some (.int u), s4]) _ ⟨0, H, none, rfl, by decide, hH0, Int.le_refl _, ?_, hHp, rfl, rfl⟩ ?_
  · rw [Int.zero_pow hk0, Int.mul_zero]
    exact Int.mul_nonneg (by omega) (pow_nn (by omega) k)
  rintro m δ M' ⟨l, u, s4, rfl, l0, lu, uH, hl, hu, rfl, rfl⟩
  walk_at "sm"
  refine ⟨fun z => ?_, fun z => ?_⟩
  · have z := of_decide_eq_true z
    walk_at "sm"
    refine ⟨cd_ok (by decide) (bt_lit 2 (by decide)) (by decide), ?_⟩
    rw [fdiv_pos (by decide)]
    have h1 : l < (l + u) / 2 := by omega
    have h2 : (l + u) / 2 < u := by omega
    generalize (l + u) / 2 = w at h1 h2 ⊢
    have bw : Bt 622 w := bt_le hH (by omega) (by omega)
    walk_at "sm"
    refine r_if ?_
    walk_at "sm"
    refine ⟨w, k, 622, rfl, bw, by omega, by decide, ?_⟩
    have p1 := bpow bw (by decide)
    have p2 := bpow hn (by decide)
    walk_at "sm"
    refine ⟨n, k, 600, rfl, hn, by omega, by decide, ?_⟩
    walk_at "sm"
    have e : w ^ k * T = T * w ^ k := Int.mul_comm ..
    refine ⟨fun y => ?_, fun y => ?_⟩
    · have y := of_decide_eq_true y
      walk_at "sm"
      exact ⟨_, by omega, w, u, _, rfl, by omega, by omega, uH, by omega, hu, by trivial, by trivial⟩
    · have y := of_decide_eq_false y
      walk_at "sm"
      exact ⟨_, by omega, l, w, _, rfl, by omega, by omega, by omega, hl, by omega, by trivial, by trivial⟩
  · have z := of_decide_eq_false z
    have : u = l + 1 := by omega
    subst this
    walk_at "sm"
    exact Wq.now (h l l0 hl hu)
theorem sem_law_thing (ds : List D) (M : Mu) (Q : DK) (E : DXK) (h : sp_law_thing ds M Q E) : t_law_thing (dEnd Q) (dstart 1 ds) M := by
  obtain ⟨a, o, k, rfl, hM, hS, h⟩ := h
  unfold t_law_thing
  walk_at "go"
  refine r_if ?_
  walk_at "st"
  refine ⟨a, 4, o, k + 6, rfl, hM, hS, by decide, by decide, fun r1 o1 a1 b1 hS1 => ?_⟩
  walk_at "st"
  refine ⟨fun _ => ?_, fun _ => ?_⟩
  · walk_at "st"
    refine ⟨a, o1, k + 1, rfl, mset_same, hS1, fun q0 T j s o2 hR hS2 => ?_⟩
    rw [mset_mset]
    exact Wq.now (h _ _ o2 (.rad hR rfl) (hS2.less (by omega)))
  · walk_at "st"
    refine ⟨⟨by decide, by decide, by decide⟩, ?_⟩
    have g9 : (9 : Int) ≤ 10 ^ Int.toNat 20 := by decide +kernel
    have g68 : (10 : Int) ^ Int.toNat 20 < 2 ^ 68 := by decide +kernel
    walk_at "st"
    refine ⟨a, o1, k, 1, _, rfl, mset_same, hS1, g9, g68, fun x o2 hx hS2 => ?_⟩
    rw [mset_mset]
    walk_at "st"
    exact Wq.now (h _ _ o2 (.surd hx rfl) hS2)
theorem rad_floor {q0 T s n f : Int} {k : Nat} (hR : RadP q0 T k s) (n0 : 0 < n) (h1 : T * f ^ k ≤ q0 * n ^ k) (h2 : q0 * n ^ k < T * (f + 1) ^ k) : Fl (cR (s * q0) T k) n (if 0 < s then f else -f - 1) := by
  have hne := fun (m : Int) => rad_ne hR.ok (n := m) n0
  rcases hR.hs with rfl | rfl
  · rw [if_pos (by decide), Int.one_mul]
    constructor
    · show 0 ≤ sg (q0 * n ^ k - T * f ^ k)
      rw [sg_nn]; omega
    · show sg (q0 * n ^ k - T * (f + 1) ^ k) = -1
      exact sg_neg (by omega)
  · rw [if_neg (by decide)]
    have e1 : (-f - 1) ^ k = -((f + 1) ^ k) := by
      have := neg_pow_odd (f + 1) hR.hk
      rw [← this]
      congr 1
      omega
    have e2 : (-f - 1 + 1) ^ k = -(f ^ k) := by
      have := neg_pow_odd f hR.hk
      rw [← this]
      congr 1
      omega
    constructor
    · show 0 ≤ sg (-1 * q0 * n ^ k - T * (-f - 1) ^ k)
      rw [sg_nn, e1, Int.mul_neg, Int.neg_mul, Int.one_mul, Int.neg_mul]
      omega
    · have h3 : cR (-1 * q0) T k (-f - 1 + 1) n ≤ 0 := by
        show sg (-1 * q0 * n ^ k - T * (-f - 1 + 1) ^ k) ≤ 0
        rw [e2, Int.mul_neg, Int.neg_mul, Int.one_mul, Int.neg_mul]
        rcases tri (-(q0 * n ^ k) - -(T * f ^ k)) with ⟨_, e⟩ | ⟨_, e⟩ | ⟨_, e⟩ <;> omega
      rcases hne (-f - 1 + 1) with e | e <;> omega
theorem sem_law_thing_floor (ds : List D) (M : Mu) (Q : DK) (E : DXK) (h : sp_law_thing_floor ds M Q E) : t_law_thing_floor (dEnd Q) (dstart 3 ds) M := by
  obtain ⟨φ, d, n, rfl, hT, n0, hn, h⟩ := h
  unfold t_law_thing_floor
  walk_at "go"
  cases hT with
  | surd hx e =>
    rename_i x
    rw [e] at h
    unfold srdD
    refine r_if ?_
    walk_at "sm"
    refine ⟨fun _ => ?_, fun z => absurd z (by decide)⟩
    walk_at "sm"
    refine ⟨x, n, rfl, hx.up (by decide), n0, hn, fun f hf => Wq.now (h f hf)⟩
  | rad hR e =>
    rename_i q0 T s k
    rw [e] at h
    unfold radD
    refine r_if ?_
    walk_at "sm"
    refine ⟨fun z => absurd z (by decide), fun _ => ?_⟩
    walk_at "sm"
    refine ⟨q0, T, k, s, n, rfl, hR, n0, hn, fun f f0 h1 h2 => ?_⟩
    have hf := h _ (rad_floor hR n0 h1 h2)
    walk_at "sm"
    refine r_dif ?_
    walk_at "sm"
    refine ⟨fun z => ?_, fun z => ?_⟩
    · rw [if_pos (of_decide_eq_true z)] at hf
      walk_at "sm"
      exact Wq.now hf
    · rw [if_neg (of_decide_eq_false z)] at hf
      walk_at "sm"
      exact Wq.now hf
theorem key_far {ms : List Int} {i : D} (h : 3 ≤ ms.length) (c0 c1 : Int) (j : D) : D.tup [.tup (iD ms), i] ≠ .tup [.tup (iD [c0, c1]), j] := by
  intro e
  have e1 : iD ms = iD [c0, c1] := by
    injection e with e
    injection e with e _
    injection e
  have := congrArg List.length e1
  rw [iD_len, iD_len] at this
  simp at this
  omega
theorem sem_law_key_of (ds : List D) (M : Mu) (Q : DK) (E : DXK) (h : sp_law_key_of ds M Q E) : t_law_key_of (dEnd Q) (dstart 1 ds) M := by
  obtain ⟨φ, d, rfl, hT, h⟩ := h
  unfold t_law_key_of
  walk_at "go"
  cases hT with
  | surd hx e =>
    rename_i x
    rw [e] at h
    unfold srdD at h ⊢
    refine r_dif ?_
    walk_at "sm"
    refine ⟨fun _ => ?_, fun z => absurd z (by decide)⟩
    walk_at "sm"
    refine ⟨x, rfl, hx.up (by decide), fun key hk hs => ?_⟩
    refine Wq.now (h key hk ?_)
    cases hs with
    | lin hb => exact .lin hb
    | quad hb q =>
      refine .far (key_far (by simp)) fun y hy => ?_
      have : y = x := by
        have e1 : suD x = suD y := by
          injection hy with hy
          injection hy with _ hy
          injection hy
        cases x; cases y
        simp [suD] at e1
        simp [e1]
      rw [this]; exact hb
  | rad hR e =>
    rename_i q0 T s k
    rw [e] at h
    unfold radD at h ⊢
    refine r_dif ?_
    walk_at "sm"
    refine ⟨fun z => absurd z (by decide), fun _ => ?_⟩
    walk_at "sm"
    refine Wq.now (h _ (.rad hR.ok fun n m _ => rfl) (.far (key_far hR.ok.ok.sh.len.1) fun x hx => ?_))
    have := congrArg (fun d => match d with | .tup l => l.length | _ => 0) hx
    simp [srdD] at this
theorem sem_law_against (ds : List D) (M : Mu) (Q : DK) (E : DXK) (h : sp_law_against ds M Q E) : t_law_against (dEnd Q) (dstart 4 ds) M := by
  obtain ⟨φ, d, n, m, rfl, hT, m0, bn, bm, h⟩ := h
  unfold t_law_against frD
  walk_at "go"
  cases hT with
  | surd hx e =>
    rename_i x
    rw [e] at h
    unfold srdD
    refine r_if ?_
    walk_at "sm"
    refine ⟨fun _ => ?_, fun z => absurd z (by decide)⟩
    walk_at "sm"
    have z1 : Bt 1200 (0 : Int) := bt_up (bt_lit 0 (by decide)) (by decide)
    refine ⟨x, qSu n m, rfl, bt_up hx.a (by decide), bt_up hx.b (by decide), bt_up hx.c (by decide), bt_up hx.d (by decide), bt_up bn (by decide), z1, z1, bt_up bm (by decide), ?_⟩
    rw [so_left]
    exact Wq.now h
  | rad hR e =>
    rename_i q0 T s k
    rw [e] at h
    obtain ⟨hok, q00, qb, T0, Tb, hk, hs⟩ := hR
    have bs : Bt 1 s := by unfold Bt; omega
    have pm : 0 < m ^ k := Int.pow_pos m0
    have pq : 0 < q0 * m ^ k := Int.mul_pos q00 pm
    have hk7 : k ≤ 7 := by omega
    have h : Q (.int (sg (s * q0 * m ^ k - T * n ^ k))) M := h
    unfold radD frD
    refine r_if ?_
    walk_at "sm"
    refine ⟨fun z => absurd z (by decide), fun _ => ?_⟩
    walk_at "sm"
    refine r_if ?_
    walk_at "sm"
    refine ⟨fun z => ?_, fun z => ?_⟩
    · have z := of_decide_eq_true z
      have es : sg (s * q0 * m ^ k - T * n ^ k) = s := by
        rcases hs with rfl | rfl
        · have h1 : n ^ k ≤ 0 := by
            have e1 := neg_pow_odd (-n) hk
            have e2 := pow_nn (a := -n) (by omega) k
            rw [Int.neg_neg] at e1
            omega
          have h2 := Int.mul_nonpos_of_nonneg_of_nonpos (Int.le_of_lt T0) h1
          rw [Int.one_mul]
          exact sg_pos (by omega)
        · have h1 := pow_nn (a := n) (by omega) k
          have h2 := Int.mul_nonneg (Int.le_of_lt T0) h1
          rw [Int.neg_mul, Int.neg_mul, Int.one_mul]
          exact sg_neg (by omega)
      rw [es] at h
      walk_at "sm"
      exact Wq.now h
    · have z := of_decide_eq_false z
      have ban := bt_abs bn
      walk_at "sm"
      refine ⟨m, k, 700, rfl, bm, by omega, by decide, ?_⟩
      have p1 : Bt 7001 (m ^ k) := bt_up (bt_pow bm k) (by have := Nat.mul_le_mul_left 700 hk7; omega)
      have p2 : Bt 30000 ((n.natAbs : Int) ^ k) := bt_up (bt_pow ban k) (by have := Nat.mul_le_mul_left 4200 hk7; omega)
      walk_at "sm"
      refine ⟨(n.natAbs : Int), k, 4200, rfl, ban, by omega, by decide, ?_⟩
      walk_at "sm"
      refine ⟨_, rfl, ?_⟩
      walk_at "sm"
      have es : s * sg (q0 * m ^ k - (n.natAbs : Int) ^ k * T) = sg (s * q0 * m ^ k - T * n ^ k) := by
        rcases hs with rfl | rfl
        · have : (n.natAbs : Int) = n := by omega
          rw [this, Int.one_mul, Int.one_mul, Int.mul_comm (n ^ k)]
        · have e1 : (n.natAbs : Int) = -n := by omega
          rw [e1, neg_pow_odd n hk, Int.neg_mul, Int.one_mul, ← sg_op]
          congr 1
          grind
      refine ⟨?_, ?_⟩
      · rcases tri (q0 * m ^ k - (n.natAbs : Int) ^ k * T) with ⟨_, e⟩ | ⟨_, e⟩ | ⟨_, e⟩ <;> rw [e] <;> exact cm_ok bs (bt_lit 1 (by decide)) (by decide)
      · rw [es]
        exact Wq.now h
end K15

set_option exponentiation.threshold 5000
namespace K15
open PySem PySem.Spec PyProof.Rows L2 TL DL SU
local macro_rules | `(tactic| walk_at "st1") => `(tactic| first
  | with_reducible refine r_sq ?_ | with_reducible refine r_nx ?_ | with_reducible refine r_rt ?_ | with_reducible refine r_rtN ?_ | with_reducible refine r_ex ?_ | with_reducible refine r_as ?_ | with_reducible refine r_bk ?_ | with_reducible refine r_ct ?_
  | ((with_reducible apply r_var); exact rfl) | with_reducible refine r_c ?_ | with_reducible refine r_op ?_ | with_reducible refine r_un ?_ | with_reducible refine r_neg ?_
  | ((with_reducible refine r_dgN rfl ?_); (try simp only [List.set]))
  | with_reducible refine r_dgSub ?_ | with_reducible refine r_dgT rfl ?_ | with_reducible refine r_dga0 ?_ | with_reducible refine r_dga1 ?_ | with_reducible refine r_auS ?_ | ((with_reducible apply r_au); exact rfl)
  | with_reducible refine r_par ?_ | ((with_reducible refine r_kPar rfl ?_); (try simp only [List.set]))
  | with_reducible refine r_addI ?_ | with_reducible refine r_addS ?_ | with_reducible refine r_addT ?_ | with_reducible refine r_addL ?_ | with_reducible refine r_subI ?_ | with_reducible refine r_mulI ?_ | with_reducible refine r_fdiv ?_ | with_reducible refine r_mod ?_ | with_reducible refine r_pow ?_ | with_reducible refine r_shl ?_
  | with_reducible refine r_eqI ?_ | with_reducible refine r_eqS ?_ | with_reducible refine r_eqB ?_ | with_reducible refine r_neI ?_ | with_reducible refine r_neS ?_ | with_reducible refine r_neB ?_ | with_reducible refine r_ltI ?_ | with_reducible refine r_gtI ?_ | with_reducible refine r_leI ?_ | with_reducible refine r_geI ?_ | with_reducible refine r_isN ?_ | with_reducible refine r_notN ?_ | with_reducible refine r_inS ?_
  | with_reducible refine r_test ?_ | with_reducible refine r_kB ?_ | with_reducible refine r_tru ?_ | with_reducible refine r_kTb ?_ | with_reducible refine r_kTi ?_ | with_reducible refine r_kTn ?_ | with_reducible refine r_kTl ?_ | with_reducible refine r_kTt ?_ | with_reducible refine r_kTs ?_ | with_reducible refine r_not ?_ | with_reducible refine r_notV ?_ | with_reducible refine r_yes ?_
  | with_reducible refine r_nil ?_ | with_reducible refine r_cons ?_ | with_reducible refine r_tup ?_ | with_reducible refine r_lst ?_ | with_reducible refine r_newF ?_ | with_reducible refine r_cb ?_
  | with_reducible refine r_lenS ?_ | with_reducible refine r_lenL ?_ | with_reducible refine r_lenT ?_ | with_reducible refine r_lenSrc ?_ | with_reducible refine r_abs ?_ | with_reducible refine r_min2 ?_ | with_reducible refine r_max2 ?_ | with_reducible refine r_intI ?_ | with_reducible refine r_str ?_ | with_reducible refine r_tupT ?_ | with_reducible refine r_tupL ?_ | with_reducible refine r_divmod ?_
  | with_reducible refine r_sl ?_ | with_reducible refine r_noP ?_ | with_reducible refine r_part ?_ | with_reducible refine r_kP ?_ | with_reducible refine r_slS ?_ | with_reducible refine r_slT ?_ | with_reducible refine r_slL ?_ | with_reducible refine r_slSrc ?_
  | with_reducible refine r_bm ?_ | with_reducible refine r_tyS ?_ | with_reducible refine r_starts ?_ | with_reducible refine r_count ?_ | with_reducible refine r_call ?_ | with_reducible refine r_for ?_ | with_reducible refine r_seq ?_ | with_reducible refine r_kIt ?_ | with_reducible refine r_kIl ?_ | with_reducible refine r_kIs ?_ | with_reducible refine r_kIsrc ?_ | with_reducible refine r_r1 ?_ | with_reducible refine r_r2 ?_ | with_reducible refine r_lc ?_
  | with_reducible refine lit0 ?_ | with_reducible refine lit1 ?_ | with_reducible refine lit2 ?_ | with_reducible refine lit3 ?_ | with_reducible refine lit4 ?_ | with_reducible refine lit5 ?_ | with_reducible refine lit6 ?_ | with_reducible refine lit7 ?_
  | with_reducible refine r_callX ?_ | with_reducible refine r_callE ?_ | with_reducible refine r_try ?_ | with_reducible refine r_isE ?_ | with_reducible refine r_fld ?_ | with_reducible refine r_excK ?_ | with_reducible refine r_raise ?_
  | with_reducible refine r_subB ?_ | with_reducible refine r_r3 ?_ | with_reducible refine r_rev ?_ | with_reducible refine r_kRv ?_
  | fail)
local macro_rules | `(tactic| walk_at "st") => `(tactic| repeat (first | walk_at "st1" | dsimp only))
local macro_rules | `(tactic| walk_at "go") => `(tactic| (simp only [dstart, dEnd, List.map_cons, List.map_nil, List.length_cons, List.length_nil, Nat.reduceAdd, Nat.reduceSub, Nat.zero_add, List.replicate, List.cons_append, List.nil_append]; walk_at "st"))

local macro_rules | `(tactic| walk_at "bt") => `(tactic| first | with_reducible assumption | ((with_reducible apply bt_mul) <;> walk_at "bt") | ((with_reducible apply bt_sub) <;> walk_at "bt") | ((with_reducible apply bt_add) <;> walk_at "bt") | ((with_reducible apply bt_neg) <;> walk_at "bt") | ((with_reducible apply bt_abs) <;> walk_at "bt") | ((with_reducible apply bt_fdiv) <;> walk_at "bt") | exact bt_lit 64 (by decide +kernel))
local macro_rules | `(tactic| walk_at "cm") => `(tactic| ((with_reducible refine And.intro ?_ ?_); (focus ((with_reducible apply cm_ok) <;> first | decide | walk_at "bt"))))
local macro_rules | `(tactic| walk_at "sm") => `(tactic| repeat (first | walk_at "st1" | ((with_reducible apply r_idxT); exact rfl) | ((with_reducible apply r_idxL); exact rfl) | dsimp only | walk_at "cm"))

theorem sem_law_is_fraction (ds : List D) (M : Mu) (Q : DK) (E : DXK) (h : sp_law_is_fraction ds M Q E) : t_law_is_fraction (dEnd Q) (dstart 2 ds) M := by
  obtain ⟨n, m, rfl, m0, hg, bn, bm, h⟩ := h
  unfold t_law_is_fraction frD
  walk_at "go"
  refine r_if (r_or ?_)
  walk_at "st"
  refine r_isi (S := "tuple") rfl (b := true) (by decide +kernel) ?_
  walk_at "st"
  refine ⟨fun z => absurd z (by decide), fun _ => ?_⟩
  walk_at "st"
  refine ⟨fun z => absurd z (by simp), fun _ => ?_⟩
  walk_at "st"
  refine for_ix _ (fun j δ M' => ∃ s1 : Option D, M' = M ∧ δ = [some (.tup [.int n, .int m]), s1]) (fun _ _ _ _ => trivial) ?_ ?_ _ _ ⟨none, rfl, rfl⟩
  · rintro j x δ M' N hx ⟨s1, rfl, rfl⟩ hN
    obtain ⟨c, rfl⟩ : ∃ c, x = .int c := by
      have := List.mem_of_getElem? hx
      simp only [List.mem_cons, List.not_mem_nil, or_false] at this
      rcases this with rfl | rfl <;> exact ⟨_, rfl⟩
    walk_at "st"
    refine r_if (r_or ?_)
    walk_at "st"
    refine r_isi (S := "int") rfl (b := true) (by decide +kernel) ?_
    walk_at "st"
    refine ⟨fun z => absurd z (by decide), fun _ => ?_⟩
    walk_at "st"
    refine r_isi (S := "int") rfl (b := false) (by decide +kernel) ?_
    walk_at "st"
    refine ⟨fun z => absurd z (by decide), fun _ => ?_⟩
    walk_at "st"
    exact hN _ _ ⟨_, rfl, rfl⟩
  · rintro δ M' ⟨s1, rfl, rfl⟩
    walk_at "st"
    refine r_andV ?_
    walk_at "sm"
    refine ⟨fun _ => ?_, fun z => absurd m0 (of_decide_eq_false z)⟩
    walk_at "sm"
    refine ⟨n, m, rfl, bt_up bn (by decide), bt_up bm (by decide), ?_⟩
    walk_at "sm"
    rw [hg]
    exact Wq.now h
theorem sem_law_near (ds : List D) (M : Mu) (Q : DK) (E : DXK) (h : sp_law_near ds M Q E) : t_law_near (dEnd Q) (dstart 5 ds) M := by
  obtain ⟨φ, d, p, q, rfl, hT, hp, hq, bp, bq, h⟩ := h
  have hC := hT.cut
  unfold t_law_near
  walk_at "go"
  refine ⟨φ, d, rfl, hT, fun key hK hI => ?_⟩
  walk_at "st"
  refine ⟨φ, key, p, q, rfl, hK, hp, hq, bt_up bp (by decide), bt_up bq (by decide), fun c0 c1 hd => ?_, fun hd n f g a b hh a' b' n0 nq hf g0 e1 e2 c1 h0 e3 e4 c2 bf bn => ?_⟩
  · -- a fraction
    have hd : key = .tup [.tup (iD [c0, c1]), .int 1] := hd
    obtain ⟨x, rfl, hb, hc0, hc1⟩ : ∃ x : Su, d = srdD x ∧ x.b = 0 ∧ -c0 = x.a ∧ c1 = x.d := by
      cases hI with
      | @lin x hb =>
        injection hd with hd
        injection hd with hd _
        injection hd with hd
        simp [iD] at hd
        exact ⟨x, rfl, hb, by omega, by omega⟩
      | far h1 h2 => exact absurd hd (h1 c0 c1 _)
    have hx : SuOk 139 x := by
      generalize hdd : srdD x = d at hT
      cases hT with
      | surd hx e =>
        rename_i y
        have : x = y := by
          have e1 : suD x = suD y := by
            injection hdd with hdd
            injection hdd with _ hdd
            injection hdd
          cases x; cases y
          simp [suD] at e1
          simp [e1]
        rw [this]; exact hx
      | rad hR e =>
        have := congrArg (fun d => match d with | .tup l => l.length | _ => 0) hdd
        simp [srdD, radD] at this
    rw [hc0, hc1]
    have co := hx.co hb
    unfold srdD
    walk_at "st"
    refine r_if (r_or ?_)
    walk_at "st"
    refine r_isi (S := "tuple") rfl (b := true) (by decide +kernel) ?_
    walk_at "st"
    refine ⟨fun z => absurd z (by decide), fun _ => ?_⟩
    refine r_or ?_
    walk_at "st"
    refine ⟨fun z => absurd z (by simp), fun _ => ?_⟩
    refine r_or ?_
    walk_at "sm"
    have bxa : Bt 5000 x.a := bt_up hx.a (by decide)
    have bxd : Bt 5000 x.d := bt_up hx.d (by decide)
    refine ⟨x.a, x.d, rfl, hx.d0, co, bxa, bxd, ?_⟩
    walk_at "sm"
    refine ⟨fun z => absurd z (by decide), fun _ => ?_⟩
    walk_at "sm"
    refine ⟨x.a, x.d, rfl, hx.d0, co, bxa, bxd, ?_⟩
    walk_at "sm"
    refine ⟨fun z => absurd z (by decide), fun _ => ?_⟩
    walk_at "sm"
    refine r_if (r_and ?_)
    walk_at "sm"
    refine ⟨fun _ => ?_, fun z => absurd z (by decide)⟩
    walk_at "sm"
    unfold suD
    walk_at "sm"
    refine ⟨fun _ => ?_, fun z => absurd hb (of_decide_eq_false z)⟩
    walk_at "sm"
    exact same_me (Wq.now h)
  · have a0 : φ a b = φ f n := by
      have hb0 : 0 < b := mul_pos_cancel g0 (by omega)
      exact hC.hom a b f n hb0 n0 (by rw [e1, e2]; grind)
    have a1 : φ a' b' = φ (f + 1) n := by
      have hb0 : 0 < b' := mul_pos_cancel h0 (by omega)
      exact hC.hom a' b' (f + 1) n hb0 n0 (by rw [e3, e4]; grind)
    have hb : 0 < b := mul_pos_cancel g0 (by omega)
    have hb' : 0 < b' := mul_pos_cancel h0 (by omega)
    have bb : Bt 601 b := bt_le bn (by omega) (by rw [e2]; exact le_mul_self g0 (by omega))
    have bb' : Bt 601 b' := bt_le bn (by omega) (by rw [e4]; exact le_mul_self h0 (by omega))
    have quot : ∀ {g x y : Int} {k : Nat}, 0 < g → y = g * x → Bt k y → Bt k x := fun {g x y k} h1 h2 h3 => by
      have : x.natAbs ≤ y.natAbs := by
        rw [h2, Int.natAbs_mul]
        exact Nat.le_mul_of_pos_left _ (by omega)
      exact Nat.lt_of_le_of_lt this h3
    have ba : Bt 4100 a := quot g0 e1 bf
    have ba' : Bt 4101 a' := quot h0 e3 (by unfold Bt at *; omega)
    unfold frD
    walk_at "st"
    refine r_if (r_or ?_)
    walk_at "st"
    refine r_isi (S := "tuple") rfl (b := true) (by decide +kernel) ?_
    walk_at "st"
    refine ⟨fun z => absurd z (by decide), fun _ => ?_⟩
    refine r_or ?_
    walk_at "st"
    refine ⟨fun z => absurd z (by simp), fun _ => ?_⟩
    refine r_or ?_
    walk_at "sm"
    refine ⟨a, b, rfl, hb, c1, bt_up ba (by decide), bt_up bb (by decide), ?_⟩
    walk_at "sm"
    refine ⟨fun z => absurd z (by decide), fun _ => ?_⟩
    walk_at "sm"
    refine ⟨a', b', rfl, hb', c2, bt_up ba' (by decide), bt_up bb' (by decide), ?_⟩
    walk_at "sm"
    refine ⟨fun z => absurd z (by decide), fun _ => ?_⟩
    walk_at "sm"
    have rest : (dSq (dIfS (dOr (dTest (dOp dLt (dCall sp_law_against [] dX0 (dCons (dVar 0) (dCons (dVar 3) dNil))) (dC (.int 0)))) (dTest (dOp dGt (dCall sp_law_against [] dX0 (dCons (dVar 0) (dCons (dVar 4) dNil))) (dC (.int 0))))) (dRt (dC (.bl false))) dNx) (dRt (dOp dLe (dOp (dMul false) (dOp dSub (dOp (dMul false) (dOp dIdx (dVar 4) (dC (.int 0))) (dOp dIdx (dVar 3) (dC (.int 1)))) (dOp (dMul false) (dOp dIdx (dVar 3) (dC (.int 0))) (dOp dIdx (dVar 4) (dC (.int 1))))) (dOp dIdx (dVar 1) (dC (.int 1)))) (dOp (dMul false) (dOp (dMul false) (dOp dIdx (dVar 1) (dC (.int 0))) (dOp dIdx (dVar 3) (dC (.int 1)))) (dOp dIdx (dVar 4) (dC (.int 1))))))) { nx := fun x M => Wq Q D.non M, rt := Wq Q } [some d, some (.tup [.int p, .int q]), some (.tup [.tup [.int a, .int b], .tup [.int a', .int b']]), some (.tup [.int a, .int b]), some (.tup [.int a', .int b'])] M := by
      refine r_sq ?_
      refine r_if (r_or ?_)
      walk_at "sm"
      refine ⟨φ, d, a, b, rfl, hT, hb, bt_up ba (by decide), bt_up bb (by decide), ?_⟩
      walk_at "sm"
      refine ⟨fun z => absurd (of_decide_eq_true z) (by rw [a0]; have := hf.1; omega), fun _ => ?_⟩
      walk_at "sm"
      refine ⟨φ, d, a', b', rfl, hT, hb', bt_up ba' (by decide), bt_up bb' (by decide), ?_⟩
      walk_at "sm"
      refine ⟨fun z => absurd (of_decide_eq_true z) (by rw [a1]; have := hf.2; omega), fun _ => ?_⟩
      walk_at "sm"
      have fin : (a' * b - a * b') * q ≤ p * b * b' := by
        have hgh : 0 < g * hh := Int.mul_pos g0 h0
        refine mul_le_cancel hgh ?_
        have x1 : g * hh * ((a' * b - a * b') * q) = ((hh * a') * (g * b) - (g * a) * (hh * b')) * q := by grind
        have x2 : g * hh * (p * b * b') = p * (g * b) * (hh * b') := by grind
        rw [x1, x2, ← e1, ← e2, ← e3, ← e4]
        have x3 : (f + 1) * n - f * n = n := by grind
        rw [x3]
        have := Int.mul_le_mul_of_nonneg_right nq (Int.le_of_lt n0)
        have x4 : p * n * n = n * p * n := by grind
        have x5 : n * q = q * n := Int.mul_comm ..
        omega
      rw [decide_eq_true fin]
      exact Wq.now h
    cases hI with
    | @lin x hb => exact absurd rfl (hd (-x.a) x.d _)
    | far h1 h2 =>
      refine r_if (r_and ?_)
      generalize hdd : d = d' at hT rest ⊢
      cases hT with
      | @surd x hx e =>
        have hxb := h2 x hdd
        unfold srdD at rest ⊢
        walk_at "sm"
        refine ⟨fun _ => ?_, fun z => absurd z (by decide)⟩
        walk_at "sm"
        unfold suD at rest ⊢
        walk_at "sm"
        refine ⟨fun z => absurd (of_decide_eq_true z) hxb, fun _ => ?_⟩
        exact rest
      | rad hR e =>
        unfold radD at rest ⊢
        walk_at "sm"
        refine ⟨fun z => absurd z (by decide), fun _ => ⟨fun z => Bool.noConfusion z, fun _ => ?_⟩⟩
        exact rest
end K15

set_option exponentiation.threshold 5000
namespace K15
open PySem PySem.Spec PyProof.Rows L2 TL DL SU
local macro_rules | `(tactic| walk_at "st1") => `(tactic| first
  | with_reducible refine r_sq ?_ | with_reducible refine r_nx ?_ | with_reducible refine r_rt ?_ | with_reducible refine r_rtN ?_ | with_reducible refine r_ex ?_ | with_reducible refine r_as ?_ | with_reducible refine r_bk ?_ | with_reducible refine r_ct ?_
  | ((with_reducible apply r_var); exact rfl) | with_reducible refine r_c ?_ | with_reducible refine r_op ?_ | with_reducible refine r_un ?_ | with_reducible refine r_neg ?_
  | ((with_reducible refine r_dgN rfl ?_); (try simp only [List.set]))
  | with_reducible refine r_dgSub ?_ | with_reducible refine r_dgT rfl ?_ | with_reducible refine r_dga0 ?_ | with_reducible refine r_dga1 ?_ | with_reducible refine r_auS ?_ | ((with_reducible apply r_au); exact rfl)
  | with_reducible refine r_par ?_ | ((with_reducible refine r_kPar rfl ?_); (try simp only [List.set]))
  | with_reducible refine r_addI ?_ | with_reducible refine r_addS ?_ | with_reducible refine r_addT ?_ | with_reducible refine r_addL ?_ | with_reducible refine r_subI ?_ | with_reducible refine r_mulI ?_ | with_reducible refine r_fdiv ?_ | with_reducible refine r_mod ?_ | with_reducible refine r_pow ?_ | with_reducible refine r_shl ?_
  | with_reducible refine r_eqI ?_ | with_reducible refine r_eqS ?_ | with_reducible refine r_eqB ?_ | with_reducible refine r_neI ?_ | with_reducible refine r_neS ?_ | with_reducible refine r_neB ?_ | with_reducible refine r_ltI ?_ | with_reducible refine r_gtI ?_ | with_reducible refine r_leI ?_ | with_reducible refine r_geI ?_ | with_reducible refine r_isN ?_ | with_reducible refine r_notN ?_ | with_reducible refine r_inS ?_
  | with_reducible refine r_test ?_ | with_reducible refine r_kB ?_ | with_reducible refine r_tru ?_ | with_reducible refine r_kTb ?_ | with_reducible refine r_kTi ?_ | with_reducible refine r_kTn ?_ | with_reducible refine r_kTl ?_ | with_reducible refine r_kTt ?_ | with_reducible refine r_kTs ?_ | with_reducible refine r_not ?_ | with_reducible refine r_notV ?_ | with_reducible refine r_yes ?_
  | with_reducible refine r_nil ?_ | with_reducible refine r_cons ?_ | with_reducible refine r_tup ?_ | with_reducible refine r_lst ?_ | with_reducible refine r_newF ?_ | with_reducible refine r_cb ?_
  | with_reducible refine r_lenS ?_ | with_reducible refine r_lenL ?_ | with_reducible refine r_lenT ?_ | with_reducible refine r_lenSrc ?_ | with_reducible refine r_abs ?_ | with_reducible refine r_min2 ?_ | with_reducible refine r_max2 ?_ | with_reducible refine r_intI ?_ | with_reducible refine r_str ?_ | with_reducible refine r_tupT ?_ | with_reducible refine r_tupL ?_ | with_reducible refine r_divmod ?_
  | with_reducible refine r_sl ?_ | with_reducible refine r_noP ?_ | with_reducible refine r_part ?_ | with_reducible refine r_kP ?_ | with_reducible refine r_slS ?_ | with_reducible refine r_slT ?_ | with_reducible refine r_slL ?_ | with_reducible refine r_slSrc ?_
  | with_reducible refine r_bm ?_ | with_reducible refine r_tyS ?_ | with_reducible refine r_starts ?_ | with_reducible refine r_count ?_ | with_reducible refine r_call ?_ | with_reducible refine r_for ?_ | with_reducible refine r_seq ?_ | with_reducible refine r_kIt ?_ | with_reducible refine r_kIl ?_ | with_reducible refine r_kIs ?_ | with_reducible refine r_kIsrc ?_ | with_reducible refine r_r1 ?_ | with_reducible refine r_r2 ?_ | with_reducible refine r_lc ?_
  | with_reducible refine lit0 ?_ | with_reducible refine lit1 ?_ | with_reducible refine lit2 ?_ | with_reducible refine lit3 ?_ | with_reducible refine lit4 ?_ | with_reducible refine lit5 ?_ | with_reducible refine lit6 ?_ | with_reducible refine lit7 ?_
  | with_reducible refine r_callX ?_ | with_reducible refine r_callE ?_ | with_reducible refine r_try ?_ | with_reducible refine r_isE ?_ | with_reducible refine r_fld ?_ | with_reducible refine r_excK ?_ | with_reducible refine r_raise ?_
  | with_reducible refine r_subB ?_ | with_reducible refine r_r3 ?_ | with_reducible refine r_rev ?_ | with_reducible refine r_kRv ?_
  | fail)
local macro_rules | `(tactic| walk_at "st") => `(tactic| repeat (first | walk_at "st1" | dsimp only))
local macro_rules | `(tactic| walk_at "go") => `(tactic| (simp only [dstart, dEnd, List.map_cons, List.map_nil, List.length_cons, List.length_nil, Nat.reduceAdd, Nat.reduceSub, Nat.zero_add, List.replicate, List.cons_append, List.nil_append]; walk_at "st"))

local macro_rules | `(tactic| walk_at "bt") => `(tactic| first | with_reducible assumption | ((with_reducible apply bt_mul) <;> walk_at "bt") | ((with_reducible apply bt_sub) <;> walk_at "bt") | ((with_reducible apply bt_add) <;> walk_at "bt") | ((with_reducible apply bt_neg) <;> walk_at "bt") | ((with_reducible apply bt_abs) <;> walk_at "bt") | ((with_reducible apply bt_fdiv) <;> walk_at "bt") | exact bt_lit 64 (by decide +kernel))
local macro_rules | `(tactic| walk_at "cm") => `(tactic| ((with_reducible refine And.intro ?_ ?_); (focus ((with_reducible apply cm_ok) <;> first | decide | walk_at "bt"))))
local macro_rules | `(tactic| walk_at "sm") => `(tactic| repeat (first | walk_at "st1" | ((with_reducible apply r_idxT); exact rfl) | ((with_reducible apply r_idxL); exact rfl) | dsimp only | walk_at "cm"))

theorem sem_law (ds : List D) (M : Mu) (Q : DK) (E : DXK) (h : sp_law ds M Q E) : t_law (dEnd Q) (dstart 8 ds) M := by
  obtain ⟨ns, rfl, h⟩ := h
  unfold t_law
  walk_at "go"
  refine ⟨ns, 0, rfl, by decide, by decide, fun a o ha hS => ?_⟩
  replace hS := hS.less (j := 50) (by decide)
  walk_at "st"
  refine ⟨a, o, 43, rfl, mset_same, hS, fun φ d o1 hT hS1 => ?_⟩
  rw [mset_mset]
  walk_at "st"
  refine ⟨φ, d, rfl, hT, fun key hK hI => ?_⟩
  walk_at "st"
  refine ⟨a, 35, o1, 42, rfl, mset_same, hS1, by decide, by decide, fun r1 o2 a1 b1 hS2 => ?_⟩
  rw [mset_mset]
  have b0 : 0 < 2 + r1 := by omega
  have bb : Bt 6 (2 + r1) := by unfold Bt; omega
  walk_at "st"
  generalize 2 + r1 = b at b0 bb ⊢
  refine ⟨a, 31, o2, 41, rfl, mset_same, hS2, by decide, by decide, fun r2 o3 a2 b2 hS3 => ?_⟩
  rw [mset_mset]
  walk_at "st"
  refine for_ix _ (fun j δ M' => ∃ s5 : Option D, M' = mset M a o3 ∧ δ = [some (.src ns), some (.ref a), some d, some key, some (.int b), s5, none, none]) (fun _ _ _ _ => trivial) ?_ ?_ _ _ ⟨none, rfl, rfl⟩
  · rintro j x δ M' N hx ⟨s5, rfl, rfl⟩ hN
    obtain ⟨e, rfl, he⟩ : ∃ e : Nat, x = .int (e : Int) ∧ e ≤ 64 := by
      have := List.mem_of_getElem? hx
      simp only [List.mem_cons, List.not_mem_nil, or_false] at this
      rcases this with rfl | rfl | rfl
      · exact ⟨r2.toNat, by rw [show ((r2.toNat : Nat) : Int) = r2 by omega], by omega⟩
      · exact ⟨0, rfl, by decide⟩
      · exact ⟨1, rfl, by decide⟩
    walk_at "st"
    refine r_if ?_
    walk_at "st"
    refine ⟨φ, key, b, e, rfl, hK, b0, bb, he, fun f hf => ?_⟩
    walk_at "st"
    refine ⟨b, e, 6, rfl, bb, he, by decide, ?_⟩
    walk_at "st"
    refine ⟨φ, d, _, rfl, hT, Int.pow_pos b0, bt_up (bt_pow bb e) (by omega), fun f' hf' => ?_⟩
    have := hT.cut.fl_one (Int.pow_pos b0) hf hf'
    subst this
    walk_at "st"
    refine same_me ?_
    walk_at "st"
    refine ⟨fun z => Bool.noConfusion z, fun _ => ?_⟩
    walk_at "st"
    exact hN _ _ ⟨_, rfl, rfl⟩
  rintro δ M' ⟨s5, rfl, rfl⟩
  have fr : ∀ {p q : Int}, 0 < p → 0 < q → Bt 110 p → Bt 110 q → ∀ g n m : Int, 0 < g → p = g * n → q = g * m → 0 < n ∧ 0 < m ∧ Bt 200 n ∧ Bt 200 m := fun {p q} hp hq bp bq g n m hg e1 e2 => by
    have n0 : 0 < n := mul_pos_cancel hg (by omega)
    have m0 : 0 < m := mul_pos_cancel hg (by omega)
    exact ⟨n0, m0, bt_up (bt_le bp (by omega) (by rw [e1]; exact le_mul_self hg (by omega))) (by decide), bt_up (bt_le bq (by omega) (by rw [e2]; exact le_mul_self hg (by omega))) (by decide)⟩
  walk_at "st"
  refine ⟨a, 8, o3, 40, rfl, mset_same, hS3, by decide, by decide, fun r3 o4 a3 b3 hS4 => ?_⟩
  rw [mset_mset]
  walk_at "st"
  refine ⟨⟨by decide, by decide, by decide⟩, ?_⟩
  walk_at "st"
  refine ⟨a, 5, o4, 39, rfl, mset_same, hS4, by decide, by decide, fun r4 o5 a4 b4 hS5 => ?_⟩
  rw [mset_mset]
  obtain ⟨x, hx, ex⟩ := pick_mem (xs := [1, 1, 7, 1000, 10 ^ Int.toNat 9]) a4 b4
  have hxx : 0 < x ∧ Bt 110 x := by
    simp only [List.mem_cons, List.not_mem_nil, or_false] at hx
    rcases hx with rfl | rfl | rfl | rfl | rfl <;> exact ⟨by decide, bt_lit 110 (by decide +kernel)⟩
  refine r_idxL ex ?_
  walk_at "st"
  have b110 : Bt 110 (1 + r3) := bt_up (a := 6) (by unfold Bt; omega) (by decide)
  refine ⟨1 + r3, x, rfl, hxx.1, bt_up b110 (by decide), bt_up hxx.2 (by decide), fun g p1 q1 hg e1 e2 _ => ?_⟩
  obtain ⟨p10, q10, bp1, bq1⟩ := fr (by omega) hxx.1 b110 hxx.2 g p1 q1 hg e1 e2
  walk_at "st"
  refine ⟨a, 9, o5, 38, rfl, mset_same, hS5, by decide, by decide, fun r5 o6 a5 b5 hS6 => ?_⟩
  rw [mset_mset]
  walk_at "st"
  refine ⟨⟨by decide, by decide, by decide⟩, ?_⟩
  walk_at "st"
  have h30 : (10 : Int) ^ Int.toNat 30 < 2 ^ 100 := by decide +kernel
  have h30' : (0 : Int) < 10 ^ Int.toNat 30 := by decide +kernel
  generalize (10 : Int) ^ Int.toNat 30 = W at h30 h30' ⊢
  refine ⟨a, W, o6, 37, rfl, mset_same, hS6, h30', Int.lt_trans h30 (by decide +kernel), fun r6 o7 a6 b6 hS7 => ?_⟩
  rw [mset_mset]
  walk_at "st"
  have c110 : Bt 110 (1 + r5) := bt_up (a := 6) (by unfold Bt; omega) (by decide)
  have d110 : Bt 110 (1 + r6) := by unfold Bt; omega
  refine ⟨1 + r5, 1 + r6, rfl, by omega, bt_up c110 (by decide), bt_up d110 (by decide), fun g2 p2 q2 hg2 e3 e4 _ => ?_⟩
  obtain ⟨p20, q20, bp2, bq2⟩ := fr (by omega) (by omega) c110 d110 g2 p2 q2 hg2 e3 e4
  walk_at "st"
  refine r_andV ?_
  walk_at "st"
  refine ⟨φ, d, p1, q1, rfl, hT, p10, q10, bp1, bq1, ?_⟩
  walk_at "st"
  refine ⟨fun _ => ?_, fun z => absurd z (by decide)⟩
  walk_at "st"
  refine ⟨φ, d, p2, q2, rfl, hT, p20, q20, bp2, bq2, ?_⟩
  exact Wq.drop (sub_new ha) h
end K15

set_option maxHeartbeats 0
namespace K15
open PySem PySem.Spec PyProof.Rows L2 TL DL SU
abbrev s_gcd_of : Stmt := top 4
abbrev N_gcd_of : List Str := ["a", "b"]
theorem sc_gcd_of : FnScope N_gcd_of ["a", "b"] (defScope s_gcd_of) := ⟨rfl, rfl, rfl, by decide +kernel, rfl, by decide +kernel, by decide +kernel⟩
abbrev s_ratio : Stmt := top 5
abbrev N_ratio : List Str := ["n", "d", "shared"]
theorem sc_ratio : FnScope N_ratio ["n", "d"] (defScope s_ratio) := ⟨rfl, rfl, rfl, by decide +kernel, rfl, by decide +kernel, by decide +kernel⟩
abbrev s_less_q : Stmt := top 6
abbrev N_less_q : List Str := ["a", "b"]
theorem sc_less_q : FnScope N_less_q ["a", "b"] (defScope s_less_q) := ⟨rfl, rfl, rfl, by decide +kernel, rfl, by decide +kernel, by decide +kernel⟩
abbrev s_middle_q : Stmt := top 7
abbrev N_middle_q : List Str := ["a", "b"]
theorem sc_middle_q : FnScope N_middle_q ["a", "b"] (defScope s_middle_q) := ⟨rfl, rfl, rfl, by decide +kernel, rfl, by decide +kernel, by decide +kernel⟩
abbrev s_power_of : Stmt := top 8
abbrev N_power_of : List Str := ["base", "exponent", "found", "odd"]
theorem sc_power_of : FnScope N_power_of ["base", "exponent"] (defScope s_power_of) := ⟨rfl, rfl, rfl, by decide +kernel, rfl, by decide +kernel, by decide +kernel⟩
abbrev s_trimmed : Stmt := top 10
abbrev N_trimmed : List Str := ["coefficients", "many"]
theorem sc_trimmed : FnScope N_trimmed ["coefficients"] (defScope s_trimmed) := ⟨rfl, rfl, rfl, by decide +kernel, rfl, by decide +kernel, by decide +kernel⟩
abbrev s_content : Stmt := top 11
abbrev N_content : List Str := ["p", "found", "c"]
theorem sc_content : FnScope N_content ["p"] (defScope s_content) := ⟨rfl, rfl, rfl, by decide +kernel, rfl, by decide +kernel, by decide +kernel⟩
abbrev s_primitive : Stmt := top 12
abbrev N_primitive : List Str := ["p", "shared", "c"]
theorem sc_primitive : FnScope N_primitive ["p"] (defScope s_primitive) := ⟨rfl, rfl, rfl, by decide +kernel, rfl, by decide +kernel, by decide +kernel⟩
abbrev s_homogeneous : Stmt := top 13
abbrev N_homogeneous : List Str := ["p", "q", "n", "d", "total", "weight", "c"]
theorem sc_homogeneous : FnScope N_homogeneous ["p", "q"] (defScope s_homogeneous) := ⟨rfl, rfl, rfl, by decide +kernel, rfl, by decide +kernel, by decide +kernel⟩
abbrev s_sign : Stmt := top 14
abbrev N_sign : List Str := ["p", "q", "total"]
theorem sc_sign : FnScope N_sign ["p", "q"] (defScope s_sign) := ⟨rfl, rfl, rfl, by decide +kernel, rfl, by decide +kernel, by decide +kernel⟩
abbrev s_derived : Stmt := top 15
abbrev N_derived : List Str := ["p", "at"]
theorem sc_derived : FnScope N_derived ["p"] (defScope s_derived) := ⟨rfl, rfl, rfl, by decide +kernel, rfl, by decide +kernel, by decide +kernel⟩
abbrev s_remainder : Stmt := top 16
abbrev N_remainder : List Str := ["p", "d", "rest", "head", "by", "top", "shift", "at", "shared", "c"]
theorem sc_remainder : FnScope N_remainder ["p", "d"] (defScope s_remainder) := ⟨rfl, rfl, rfl, by decide +kernel, rfl, by decide +kernel, by decide +kernel⟩
abbrev s_quotient : Stmt := top 17
abbrev N_quotient : List Str := ["p", "d", "rest", "found", "shift", "part", "left", "at", "c"]
theorem sc_quotient : FnScope N_quotient ["p", "d"] (defScope s_quotient) := ⟨rfl, rfl, rfl, by decide +kernel, rfl, by decide +kernel, by decide +kernel⟩
abbrev s_common : Stmt := top 18
abbrev N_common : List Str := ["p", "d"]
theorem sc_common : FnScope N_common ["p", "d"] (defScope s_common) := ⟨rfl, rfl, rfl, by decide +kernel, rfl, by decide +kernel, by decide +kernel⟩
abbrev s_free : Stmt := top 19
abbrev N_free : List Str := ["p", "whole", "shared"]
theorem sc_free : FnScope N_free ["p"] (defScope s_free) := ⟨rfl, rfl, rfl, by decide +kernel, rfl, by decide +kernel, by decide +kernel⟩
abbrev s_reduced : Stmt := top 21
abbrev N_reduced : List Str := ["p", "prime", "found", "c"]
theorem sc_reduced : FnScope N_reduced ["p", "prime"] (defScope s_reduced) := ⟨rfl, rfl, rfl, by decide +kernel, rfl, by decide +kernel, by decide +kernel⟩
abbrev s_inverse : Stmt := top 22
abbrev N_inverse : List Str := ["a", "prime", "found", "base", "left", "odd"]
theorem sc_inverse : FnScope N_inverse ["a", "prime"] (defScope s_inverse) := ⟨rfl, rfl, rfl, by decide +kernel, rfl, by decide +kernel, by decide +kernel⟩
abbrev s_monic_m : Stmt := top 23
abbrev N_monic_m : List Str := ["a", "prime", "by", "c"]
theorem sc_monic_m : FnScope N_monic_m ["a", "prime"] (defScope s_monic_m) := ⟨rfl, rfl, rfl, by decide +kernel, rfl, by decide +kernel, by decide +kernel⟩
abbrev s_divided_m : Stmt := top 24
abbrev N_divided_m : List Str := ["a", "b", "prime", "rest", "by", "many", "found", "shift", "part", "at"]
theorem sc_divided_m : FnScope N_divided_m ["a", "b", "prime"] (defScope s_divided_m) := ⟨rfl, rfl, rfl, by decide +kernel, rfl, by decide +kernel, by decide +kernel⟩
abbrev s_rest_m : Stmt := top 25
abbrev N_rest_m : List Str := ["a", "b", "prime"]
theorem sc_rest_m : FnScope N_rest_m ["a", "b", "prime"] (defScope s_rest_m) := ⟨rfl, rfl, rfl, by decide +kernel, rfl, by decide +kernel, by decide +kernel⟩
abbrev s_common_m : Stmt := top 26
abbrev N_common_m : List Str := ["a", "b", "prime"]
theorem sc_common_m : FnScope N_common_m ["a", "b", "prime"] (defScope s_common_m) := ⟨rfl, rfl, rfl, by decide +kernel, rfl, by decide +kernel, by decide +kernel⟩
abbrev s_derived_m : Stmt := top 27
abbrev N_derived_m : List Str := ["a", "prime", "at"]
theorem sc_derived_m : FnScope N_derived_m ["a", "prime"] (defScope s_derived_m) := ⟨rfl, rfl, rfl, by decide +kernel, rfl, by decide +kernel, by decide +kernel⟩
abbrev s_is_prime : Stmt := top 28
abbrev N_is_prime : List Str := ["n", "at"]
theorem sc_is_prime : FnScope N_is_prime ["n"] (defScope s_is_prime) := ⟨rfl, rfl, rfl, by decide +kernel, rfl, by decide +kernel, by decide +kernel⟩
abbrev s_usable : Stmt := top 29
abbrev N_usable : List Str := ["f", "prime", "plain"]
theorem sc_usable : FnScope N_usable ["f", "prime"] (defScope s_usable) := ⟨rfl, rfl, rfl, by decide +kernel, rfl, by decide +kernel, by decide +kernel⟩
abbrev s_usable_prime : Stmt := top 30
abbrev N_usable_prime : List Str := ["f", "prime", "found"]
theorem sc_usable_prime : FnScope N_usable_prime ["f", "prime"] (defScope s_usable_prime) := ⟨rfl, rfl, rfl, by decide +kernel, rfl, by decide +kernel, by decide +kernel⟩
abbrev s_value_m : Stmt := top 31
abbrev N_value_m : List Str := ["f", "x", "n", "found", "c"]
theorem sc_value_m : FnScope N_value_m ["f", "x", "n"] (defScope s_value_m) := ⟨rfl, rfl, rfl, by decide +kernel, rfl, by decide +kernel, by decide +kernel⟩
abbrev s_lifted_root : Stmt := top 33
abbrev N_lifted_root : List Str := ["f", "root", "prime", "least", "slope", "weight", "power"]
theorem sc_lifted_root : FnScope N_lifted_root ["f", "root", "prime", "least"] (defScope s_lifted_root) := ⟨rfl, rfl, rfl, by decide +kernel, rfl, by decide +kernel, by decide +kernel⟩
abbrev s_fraction_roots : Stmt := top 34
abbrev N_fraction_roots : List Str := ["f", "head", "prime", "least", "found", "residue", "root", "power", "top", "q", "c"]
theorem sc_fraction_roots : FnScope N_fraction_roots ["f"] (defScope s_fraction_roots) := ⟨rfl, rfl, rfl, by decide +kernel, rfl, by decide +kernel, by decide +kernel⟩
abbrev s_chain_of : Stmt := top 36
abbrev N_chain_of : List Str := ["p", "chain", "c"]
theorem sc_chain_of : FnScope N_chain_of ["p"] (defScope s_chain_of) := ⟨rfl, rfl, rfl, by decide +kernel, rfl, by decide +kernel, by decide +kernel⟩
abbrev s_changes : Stmt := top 37
abbrev N_changes : List Str := ["signs", "found", "last", "one"]
theorem sc_changes : FnScope N_changes ["signs"] (defScope s_changes) := ⟨rfl, rfl, rfl, by decide +kernel, rfl, by decide +kernel, by decide +kernel⟩
abbrev s_changes_at : Stmt := top 38
abbrev N_changes_at : List Str := ["chain", "q", "p"]
theorem sc_changes_at : FnScope N_changes_at ["chain", "q"] (defScope s_changes_at) := ⟨rfl, rfl, rfl, by decide +kernel, rfl, by decide +kernel, by decide +kernel⟩
abbrev s_bound_of : Stmt := top 39
abbrev N_bound_of : List Str := ["p", "head", "size", "bound", "c"]
theorem sc_bound_of : FnScope N_bound_of ["p"] (defScope s_bound_of) := ⟨rfl, rfl, rfl, by decide +kernel, rfl, by decide +kernel, by decide +kernel⟩
abbrev s_between : Stmt := top 40
abbrev N_between : List Str := ["p", "low", "high", "found"]
theorem sc_between : FnScope N_between ["p", "low", "high"] (defScope s_between) := ⟨rfl, rfl, rfl, by decide +kernel, rfl, by decide +kernel, by decide +kernel⟩
abbrev s_parted : Stmt := top 41
abbrev N_parted : List Str := ["p", "chain", "bound", "low", "high", "left", "found", "first", "last", "at", "here"]
theorem sc_parted : FnScope N_parted ["p"] (defScope s_parted) := ⟨rfl, rfl, rfl, by decide +kernel, rfl, by decide +kernel, by decide +kernel⟩
abbrev s_span_round : Stmt := top 42
abbrev N_span_round : List Str := ["low", "high", "exact", "q"]
theorem sc_span_round : FnScope N_span_round ["low", "high", "exact"] (defScope s_span_round) := ⟨rfl, rfl, rfl, by decide +kernel, rfl, by decide +kernel, by decide +kernel⟩
abbrev s_spans : Stmt := top 43
abbrev N_spans : List Str := ["p", "plain", "exact", "low", "high"]
theorem sc_spans : FnScope N_spans ["p"] (defScope s_spans) := ⟨rfl, rfl, rfl, by decide +kernel, rfl, by decide +kernel, by decide +kernel⟩
abbrev s_square_floor : Stmt := top 45
abbrev N_square_floor : List Str := ["n", "root", "better"]
theorem sc_square_floor : FnScope N_square_floor ["n"] (defScope s_square_floor) := ⟨rfl, rfl, rfl, by decide +kernel, rfl, by decide +kernel, by decide +kernel⟩
abbrev s_fraction_of : Stmt := top 46
abbrev N_fraction_of : List Str := ["key"]
theorem sc_fraction_of : FnScope N_fraction_of ["key"] (defScope s_fraction_of) := ⟨rfl, rfl, rfl, by decide +kernel, rfl, by decide +kernel, by decide +kernel⟩
abbrev s_sign_at : Stmt := top 47
abbrev N_sign_at : List Str := ["p", "n", "d", "total", "scale", "coefficient"]
theorem sc_sign_at : FnScope N_sign_at ["p", "n", "d"] (defScope s_sign_at) := ⟨rfl, rfl, rfl, by decide +kernel, rfl, by decide +kernel, by decide +kernel⟩
abbrev s_probe_of : Stmt := top 48
abbrev N_probe_of : List Str := ["key", "p", "place", "low", "high"]
theorem sc_probe_of : FnScope N_probe_of ["key"] (defScope s_probe_of) := ⟨rfl, rfl, rfl, by decide +kernel, rfl, by decide +kernel, by decide +kernel⟩
abbrev s_side_of : Stmt := top 49
abbrev N_side_of : List Str := ["probe", "n", "d", "p", "place", "low", "high", "sign", "cross"]
theorem sc_side_of : FnScope N_side_of ["probe", "n", "d"] (defScope s_side_of) := ⟨rfl, rfl, rfl, by decide +kernel, rfl, by decide +kernel, by decide +kernel⟩
abbrev s_grid_of : Stmt := top 50
abbrev N_grid_of : List Str := ["probe", "n", "p", "place", "low", "high", "sign", "root", "under", "over", "half"]
theorem sc_grid_of : FnScope N_grid_of ["probe", "n"] (defScope s_grid_of) := ⟨rfl, rfl, rfl, by decide +kernel, rfl, by decide +kernel, by decide +kernel⟩
abbrev s_near : Stmt := top 51
abbrev N_near : List Str := ["key", "width", "whole", "n", "step"]
theorem sc_near : FnScope N_near ["key", "width"] (defScope s_near) := ⟨rfl, rfl, rfl, by decide +kernel, rfl, by decide +kernel, by decide +kernel⟩
abbrev s_head : Stmt := top 53
abbrev N_head : List Str := ["key", "base", "place"]
theorem sc_head : FnScope N_head ["key", "base", "place"] (defScope s_head) := ⟨rfl, rfl, rfl, by decide +kernel, rfl, by decide +kernel, by decide +kernel⟩
abbrev s_law_source : Stmt := top 55
abbrev N_law_source : List Str := ["script", "at", "cell", "size", "small", "one"]
theorem sc_law_source : FnScope N_law_source ["script", "at"] (defScope s_law_source) := ⟨rfl, rfl, rfl, by decide +kernel, rfl, by decide +kernel, by decide +kernel⟩
abbrev s_law_pick : Stmt := top 56
abbrev N_law_pick : List Str := ["source", "many", "found"]
theorem sc_law_pick : FnScope N_law_pick ["source", "many"] (defScope s_law_pick) := ⟨rfl, rfl, rfl, by decide +kernel, rfl, by decide +kernel, by decide +kernel⟩
abbrev s_law_same : Stmt := top 57
abbrev N_law_same : List Str := ["answer", "due", "at"]
theorem sc_law_same : FnScope N_law_same ["answer", "due"] (defScope s_law_same) := ⟨rfl, rfl, rfl, by decide +kernel, rfl, by decide +kernel, by decide +kernel⟩
abbrev s_law_power : Stmt := top 58
abbrev N_law_power : List Str := ["base", "many", "found", "turn"]
theorem sc_law_power : FnScope N_law_power ["base", "many"] (defScope s_law_power) := ⟨rfl, rfl, rfl, by decide +kernel, rfl, by decide +kernel, by decide +kernel⟩
abbrev s_law_common : Stmt := top 59
abbrev N_law_common : List Str := ["a", "b", "left"]
theorem sc_law_common : FnScope N_law_common ["a", "b"] (defScope s_law_common) := ⟨rfl, rfl, rfl, by decide +kernel, rfl, by decide +kernel, by decide +kernel⟩
abbrev s_law_ratio : Stmt := top 60
abbrev N_law_ratio : List Str := ["p", "q", "shared"]
theorem sc_law_ratio : FnScope N_law_ratio ["p", "q"] (defScope s_law_ratio) := ⟨rfl, rfl, rfl, by decide +kernel, rfl, by decide +kernel, by decide +kernel⟩
abbrev s_law_isqrt : Stmt := top 61
abbrev N_law_isqrt : List Str := ["n", "root", "better"]
theorem sc_law_isqrt : FnScope N_law_isqrt ["n"] (defScope s_law_isqrt) := ⟨rfl, rfl, rfl, by decide +kernel, rfl, by decide +kernel, by decide +kernel⟩
abbrev s_law_surd : Stmt := top 62
abbrev N_law_surd : List Str := ["a", "b", "c", "d", "root", "shared"]
theorem sc_law_surd : FnScope N_law_surd ["a", "b", "c", "d"] (defScope s_law_surd) := ⟨rfl, rfl, rfl, by decide +kernel, rfl, by decide +kernel, by decide +kernel⟩
abbrev s_law_sign : Stmt := top 63
abbrev N_law_sign : List Str := ["n"]
theorem sc_law_sign : FnScope N_law_sign ["n"] (defScope s_law_sign) := ⟨rfl, rfl, rfl, by decide +kernel, rfl, by decide +kernel, by decide +kernel⟩
abbrev s_law_sign_two : Stmt := top 64
abbrev N_law_sign_two : List Str := ["a", "b", "c"]
theorem sc_law_sign_two : FnScope N_law_sign_two ["a", "b", "c"] (defScope s_law_sign_two) := ⟨rfl, rfl, rfl, by decide +kernel, rfl, by decide +kernel, by decide +kernel⟩
abbrev s_law_sign_three : Stmt := top 65
abbrev N_law_sign_three : List Str := ["a", "b", "c", "d", "e", "first", "last"]
theorem sc_law_sign_three : FnScope N_law_sign_three ["a", "b", "c", "d", "e"] (defScope s_law_sign_three) := ⟨rfl, rfl, rfl, by decide +kernel, rfl, by decide +kernel, by decide +kernel⟩
abbrev s_law_surd_order : Stmt := top 66
abbrev N_law_surd_order : List Str := ["x", "y"]
theorem sc_law_surd_order : FnScope N_law_surd_order ["x", "y"] (defScope s_law_surd_order) := ⟨rfl, rfl, rfl, by decide +kernel, rfl, by decide +kernel, by decide +kernel⟩
abbrev s_law_surd_floor : Stmt := top 67
abbrev N_law_surd_floor : List Str := ["x", "n", "root"]
theorem sc_law_surd_floor : FnScope N_law_surd_floor ["x", "n"] (defScope s_law_surd_floor) := ⟨rfl, rfl, rfl, by decide +kernel, rfl, by decide +kernel, by decide +kernel⟩
abbrev s_law_surd_key : Stmt := top 68
abbrev N_law_surd_key : List Str := ["x", "row", "shared", "one"]
theorem sc_law_surd_key : FnScope N_law_surd_key ["x"] (defScope s_law_surd_key) := ⟨rfl, rfl, rfl, by decide +kernel, rfl, by decide +kernel, by decide +kernel⟩
abbrev s_law_wide : Stmt := top 69
abbrev N_law_wide : List Str := ["source", "small", "great"]
theorem sc_law_wide : FnScope N_law_wide ["source", "small", "great"] (defScope s_law_wide) := ⟨rfl, rfl, rfl, by decide +kernel, rfl, by decide +kernel, by decide +kernel⟩
abbrev s_law_drawn_surd : Stmt := top 70
abbrev N_law_drawn_surd : List Str := ["source", "roots", "great", "d", "a", "b"]
theorem sc_law_drawn_surd : FnScope N_law_drawn_surd ["source", "roots", "great"] (defScope s_law_drawn_surd) := ⟨rfl, rfl, rfl, by decide +kernel, rfl, by decide +kernel, by decide +kernel⟩
abbrev s_law_radical : Stmt := top 71
abbrev N_law_radical : List Str := ["source", "prime", "n", "q", "side"]
theorem sc_law_radical : FnScope N_law_radical ["source"] (defScope s_law_radical) := ⟨rfl, rfl, rfl, by decide +kernel, rfl, by decide +kernel, by decide +kernel⟩
abbrev s_law_root_floor : Stmt := top 72
abbrev N_law_root_floor : List Str := ["one", "n", "low", "high", "half"]
theorem sc_law_root_floor : FnScope N_law_root_floor ["one", "n"] (defScope s_law_root_floor) := ⟨rfl, rfl, rfl, by decide +kernel, rfl, by decide +kernel, by decide +kernel⟩
abbrev s_law_thing : Stmt := top 73
abbrev N_law_thing : List Str := ["source"]
theorem sc_law_thing : FnScope N_law_thing ["source"] (defScope s_law_thing) := ⟨rfl, rfl, rfl, by decide +kernel, rfl, by decide +kernel, by decide +kernel⟩
abbrev s_law_thing_floor : Stmt := top 74
abbrev N_law_thing_floor : List Str := ["one", "n", "found"]
theorem sc_law_thing_floor : FnScope N_law_thing_floor ["one", "n"] (defScope s_law_thing_floor) := ⟨rfl, rfl, rfl, by decide +kernel, rfl, by decide +kernel, by decide +kernel⟩
abbrev s_law_key_of : Stmt := top 75
abbrev N_law_key_of : List Str := ["one"]
theorem sc_law_key_of : FnScope N_law_key_of ["one"] (defScope s_law_key_of) := ⟨rfl, rfl, rfl, by decide +kernel, rfl, by decide +kernel, by decide +kernel⟩
abbrev s_law_against : Stmt := top 76
abbrev N_law_against : List Str := ["one", "q", "size", "left"]
theorem sc_law_against : FnScope N_law_against ["one", "q"] (defScope s_law_against) := ⟨rfl, rfl, rfl, by decide +kernel, rfl, by decide +kernel, by decide +kernel⟩
abbrev s_law_is_fraction : Stmt := top 77
abbrev N_law_is_fraction : List Str := ["q", "one"]
theorem sc_law_is_fraction : FnScope N_law_is_fraction ["q"] (defScope s_law_is_fraction) := ⟨rfl, rfl, rfl, by decide +kernel, rfl, by decide +kernel, by decide +kernel⟩
abbrev s_law_near : Stmt := top 78
abbrev N_law_near : List Str := ["one", "width", "told", "low", "high"]
theorem sc_law_near : FnScope N_law_near ["one", "width"] (defScope s_law_near) := ⟨rfl, rfl, rfl, by decide +kernel, rfl, by decide +kernel, by decide +kernel⟩
abbrev s_law : Stmt := top 79
abbrev N_law : List Str := ["script", "source", "one", "key", "base", "place", "wide", "tight"]
theorem sc_law : FnScope N_law ["script"] (defScope s_law) := ⟨rfl, rfl, rfl, by decide +kernel, rfl, by decide +kernel, by decide +kernel⟩
section
variable [Ghost] {P : Program} {w : World} {K : PySem.W.Frag} {mg : Str → Option Value} {base : Heap} {k : Nat} {f : Addr} {cdv : Value} {A : Around} {outer : List Env} {s : Shared} {H : Hp} {E : XK}
theorem body_gcd_of (b_abs : mg "abs" = none) (hr : Room k (A.deeper (envOfC "gcd_of" (defScope s_gcd_of) s.heap.objs.size f cdv))) :
    DSs (cxOf CX0 P w K mg base N_gcd_of "gcd_of" (defScope s_gcd_of) f cdv A outer s H E).nox (defBody s_gcd_of) t_gcd_of :=
  (dss_cons (ds_while PassesOwn.never (dt_ne hr.units (de_var 1) de_int) (dss_one (ds_par (i := 0) (j := 1) rfl sc_gcd_of.nd (da_cons (de_var 1) (da_cons (de_mod (de_var 0) (de_var 1)) da_nil))))) (dss_one (ds_ret (de_callB call_abs rel_abs (by rfl) b_abs (by decide +kernel) (da_cons (de_var 0) da_nil)))))
theorem body_ratio (C_gcd_of : Cal P w K mg base k "gcd_of" ["a", "b"] sp_gcd_of) (hr : Room k (A.deeper (envOfC "ratio" (defScope s_ratio) s.heap.objs.size f cdv))) :
    DSs (cxOf CX0 P w K mg base N_ratio "ratio" (defScope s_ratio) f cdv A outer s H E).nox (defBody s_ratio) t_ratio :=
  (dss_cons (ds_set (i := 2) sc_ratio.nd (de_cal C_gcd_of hr (da_cons (de_var 0) (da_cons (de_var 1) da_nil)))) (dss_cons (ds_if (dt_lt (de_var 1) de_int) (dss_one (ds_set (i := 2) sc_ratio.nd (de_neg (de_var 2)))) dss_nil) (dss_one (ds_ret (de_tup (da_cons (de_fdiv (de_var 0) (de_var 2)) (da_cons (de_fdiv (de_var 1) (de_var 2)) da_nil)))))))
theorem body_less_q  (hr : Room k (A.deeper (envOfC "less_q" (defScope s_less_q) s.heap.objs.size f cdv))) :
    DSs (cxOf CX0 P w K mg base N_less_q "less_q" (defScope s_less_q) f cdv A outer s H E).nox (defBody s_less_q) t_less_q :=
  (dss_one (ds_ret (de_lt (de_mul false (de_idx (de_var 0) de_int) (de_idx (de_var 1) de_int)) (de_mul false (de_idx (de_var 1) de_int) (de_idx (de_var 0) de_int)))))
theorem body_middle_q (C_ratio : Cal P w K mg base k "ratio" ["n", "d"] sp_ratio) (hr : Room k (A.deeper (envOfC "middle_q" (defScope s_middle_q) s.heap.objs.size f cdv))) :
    DSs (cxOf CX0 P w K mg base N_middle_q "middle_q" (defScope s_middle_q) f cdv A outer s H E).nox (defBody s_middle_q) t_middle_q :=
  (dss_one (ds_ret (de_cal C_ratio hr (da_cons (de_add false (de_mul false (de_idx (de_var 0) de_int) (de_idx (de_var 1) de_int)) (de_mul false (de_idx (de_var 1) de_int) (de_idx (de_var 0) de_int))) (da_cons (de_mul false (de_mul false de_int (de_idx (de_var 0) de_int)) (de_idx (de_var 1) de_int)) da_nil)))))
theorem body_power_of (b_divmod : mg "divmod" = none) (hr : Room k (A.deeper (envOfC "power_of" (defScope s_power_of) s.heap.objs.size f cdv))) :
    DSs (cxOf CX0 P w K mg base N_power_of "power_of" (defScope s_power_of) f cdv A outer s H E).nox (defBody s_power_of) t_power_of :=
  (dss_cons (ds_set (i := 2) sc_power_of.nd de_int) (dss_cons (ds_while PassesOwn.never (dt_gt (de_var 1) de_int) (dss_cons (ds_asg (vs := [1, 3]) (pg_tup rfl (pgs_cons (pg_name (i := 1) sc_power_of.nd rfl (by first | exact Or.inl rfl | exact Or.inr rfl)) (pgs_cons (pg_name (i := 3) sc_power_of.nd rfl (by first | exact Or.inl rfl | exact Or.inr rfl)) pgs_nil))) (relg_tup 2 rfl (relgs_cons (relg_name 1) (relgs_cons (relg_name 3) relgs_nil))) (de_callB call_divmodW rel_divmod (by rfl) b_divmod (by decide +kernel) (da_cons (de_var 1) (da_cons de_int da_nil)))) (dss_cons (ds_if (dt_eq hr.units (de_var 3) de_int) (dss_one (ds_set (i := 2) sc_power_of.nd (de_mul false (de_var 2) (de_var 0)))) dss_nil) (dss_one (ds_set (i := 0) sc_power_of.nd (de_mul false (de_var 0) (de_var 0))))))) (dss_one (ds_ret (de_var 2)))))
theorem body_trimmed (b_len : mg "len" = none) (b_tuple : mg "tuple" = none) (hr : Room k (A.deeper (envOfC "trimmed" (defScope s_trimmed) s.heap.objs.size f cdv))) :
    DSs (cxOf CX0 P w K mg base N_trimmed "trimmed" (defScope s_trimmed) f cdv A outer s H E).nox (defBody s_trimmed) t_trimmed :=
  (dss_cons (ds_set (i := 1) sc_trimmed.nd (de_callB call_len rel_len (by rfl) b_len (by decide +kernel) (da_cons (de_var 0) da_nil))) (dss_cons (ds_while PassesOwn.never (PW.pt (dw_and (dt_gt (de_var 1) de_int) (dw_and1 (dt_eq hr.units (de_idx (de_var 0) (de_sub (de_var 1) de_int)) de_int)))) (dss_one (ds_aug (i := 1) sc_trimmed.nd pip_sub rel_sub de_int))) (dss_one (ds_ret (de_callTy call_tuple_of rel_tupOf (by rfl) b_tuple (by decide +kernel) (da_cons (de_slice false (de_var 0) do_none (do_some (de_var 1))) da_nil))))))
theorem body_content (C_gcd_of : Cal P w K mg base k "gcd_of" ["a", "b"] sp_gcd_of) (hr : Room k (A.deeper (envOfC "content" (defScope s_content) s.heap.objs.size f cdv))) :
    DSs (cxOf CX0 P w K mg base N_content "content" (defScope s_content) f cdv A outer s H E).nox (defBody s_content) t_content :=
  (dss_cons (ds_set (i := 1) sc_content.nd de_int) (dss_cons (ds_for (vs := [2]) PassesOwn.never rfl (di_seq (de_var 0)) (pg_name (i := 2) sc_content.nd rfl (by first | exact Or.inl rfl | exact Or.inr rfl)) (relg_name 2) (dss_cons (ds_set (i := 1) sc_content.nd (de_cal C_gcd_of hr (da_cons (de_var 1) (da_cons (de_var 2) da_nil)))) (dss_one (ds_if (dt_eq hr.units (de_var 1) de_int) (dss_one (ds_ret de_int)) dss_nil)))) (dss_one (ds_ret (de_var 1)))))
theorem body_primitive (C_content : Cal P w K mg base k "content" ["p"] sp_content) (b_len : mg "len" = none) (b_tuple : mg "tuple" = none) (hr : Room k (A.deeper (envOfC "primitive" (defScope s_primitive) s.heap.objs.size f cdv))) :
    DSs (cxOf CX0 P w K mg base N_primitive "primitive" (defScope s_primitive) f cdv A outer s H E).nox (defBody s_primitive) t_primitive :=
  (dss_cons (ds_if (dt_eq hr.units (de_callB call_len rel_len (by rfl) b_len (by decide +kernel) (da_cons (de_var 0) da_nil)) de_int) (dss_one ds_never) dss_nil) (dss_cons (ds_set (i := 1) sc_primitive.nd (de_cal C_content hr (da_cons (de_var 0) da_nil))) (dss_cons (ds_if (dt_lt (de_idx (de_var 0) (de_neg de_int)) de_int) (dss_one (ds_set (i := 1) sc_primitive.nd (de_neg (de_var 1)))) dss_nil) (dss_one (ds_ret (de_callTy call_tuple_of rel_tupOf (by rfl) b_tuple (by decide +kernel) (da_cons (de_lc (own := [("c", 2)]) false rfl sc_primitive.nd (di_seq (de_var 0)) (blkOk_by (own := [("c", 2)]) (N := N_primitive) (sc := defScope s_primitive) (by decide +kernel)) (relg_name 2) (fun _ _ _ _ _ => (pg_name (i := 2) sc_primitive.nd rfl (by first | exact Or.inl rfl | exact Or.inr rfl))) (fun _ _ _ _ _ => dps_nil) (fun _ _ _ _ _ => (de_fdiv (de_var 2) (de_var 1)))) da_nil)))))))
theorem body_homogeneous (b_reversed : mg "reversed" = none) (hr : Room k (A.deeper (envOfC "homogeneous" (defScope s_homogeneous) s.heap.objs.size f cdv))) :
    DSs (cxOf CX0 P w K mg base N_homogeneous "homogeneous" (defScope s_homogeneous) f cdv A outer s H E).nox (defBody s_homogeneous) t_homogeneous :=
  (dss_cons (ds_asg (vs := [2, 3]) (pg_tup rfl (pgs_cons (pg_name (i := 2) sc_homogeneous.nd rfl (by first | exact Or.inl rfl | exact Or.inr rfl)) (pgs_cons (pg_name (i := 3) sc_homogeneous.nd rfl (by first | exact Or.inl rfl | exact Or.inr rfl)) pgs_nil))) (relg_tup 2 rfl (relgs_cons (relg_name 2) (relgs_cons (relg_name 3) relgs_nil))) (de_var 1)) (dss_cons (ds_set (i := 4) sc_homogeneous.nd de_int) (dss_cons (ds_set (i := 5) sc_homogeneous.nd de_int) (dss_cons (ds_for (vs := [6]) PassesOwn.never rfl (di_rev (by rfl) b_reversed (de_var 0)) (pg_name (i := 6) sc_homogeneous.nd rfl (by first | exact Or.inl rfl | exact Or.inr rfl)) (relg_name 6) (dss_cons (ds_set (i := 4) sc_homogeneous.nd (de_add false (de_mul false (de_var 4) (de_var 2)) (de_mul false (de_var 6) (de_var 5)))) (dss_one (ds_set (i := 5) sc_homogeneous.nd (de_mul false (de_var 5) (de_var 3)))))) (dss_one (ds_ret (de_var 4)))))))
theorem body_sign (C_homogeneous : Cal P w K mg base k "homogeneous" ["p", "q"] sp_homogeneous) (hr : Room k (A.deeper (envOfC "sign" (defScope s_sign) s.heap.objs.size f cdv))) :
    DSs (cxOf CX0 P w K mg base N_sign "sign" (defScope s_sign) f cdv A outer s H E).nox (defBody s_sign) t_sign :=
  (dss_cons (ds_set (i := 2) sc_sign.nd (de_cal C_homogeneous hr (da_cons (de_var 0) (da_cons (de_var 1) da_nil)))) (dss_one (ds_ret (de_subB (de_gt (de_var 2) de_int) (de_lt (de_var 2) de_int)))))
theorem body_derived (C_trimmed : Cal P w K mg base k "trimmed" ["coefficients"] sp_trimmed) (b_range : mg "range" = none) (b_len : mg "len" = none) (hr : Room k (A.deeper (envOfC "derived" (defScope s_derived) s.heap.objs.size f cdv))) :
    DSs (cxOf CX0 P w K mg base N_derived "derived" (defScope s_derived) f cdv A outer s H E).nox (defBody s_derived) t_derived :=
  (dss_one (ds_ret (de_cal C_trimmed hr (da_cons (de_lc (own := [("at", 1)]) false rfl sc_derived.nd (di_r2 (by rfl) b_range (da_cons de_int (da_cons (de_callB call_len rel_len (by rfl) b_len (by decide +kernel) (da_cons (de_var 0) da_nil)) da_nil))) (blkOk_by (own := [("at", 1)]) (N := N_derived) (sc := defScope s_derived) (by decide +kernel)) (relg_name 1) (fun _ _ _ _ _ => (pg_name (i := 1) sc_derived.nd rfl (by first | exact Or.inl rfl | exact Or.inr rfl))) (fun _ _ _ _ _ => dps_nil) (fun _ _ _ _ _ => (de_mul false (de_idx (de_var 0) (de_var 1)) (de_var 1)))) da_nil))))
theorem body_remainder (C_trimmed : Cal P w K mg base k "trimmed" ["coefficients"] sp_trimmed) (C_content : Cal P w K mg base k "content" ["p"] sp_content) (b_list : mg "list" = none) (b_abs : mg "abs" = none) (b_len : mg "len" = none) (b_range : mg "range" = none) (b_tuple : mg "tuple" = none) (hr : Room k (A.deeper (envOfC "remainder" (defScope s_remainder) s.heap.objs.size f cdv))) :
    DSs (cxOf CX0 P w K mg base N_remainder "remainder" (defScope s_remainder) f cdv A outer s H E).nox (defBody s_remainder) t_remainder :=
  (dss_cons (ds_set (i := 2) sc_remainder.nd (de_callTy call_list_of rel_listOf (by rfl) b_list (by decide +kernel) (da_cons (de_var 0) da_nil))) (dss_cons (ds_set (i := 3) sc_remainder.nd (de_idx (de_var 1) (de_neg de_int))) (dss_cons (ds_set (i := 4) sc_remainder.nd (de_callB call_abs rel_abs (by rfl) b_abs (by decide +kernel) (da_cons (de_var 3) da_nil))) (dss_cons (ds_while PassesOwn.never (dt_ge (de_callB call_len rel_len (by rfl) b_len (by decide +kernel) (da_cons (de_var 2) da_nil)) (de_callB call_len rel_len (by rfl) b_len (by decide +kernel) (da_cons (de_var 1) da_nil))) (dss_cons (ds_set (i := 5) sc_remainder.nd (de_ifx (dt_gt (de_var 3) de_int) (de_idx (de_var 2) (de_neg de_int)) (de_neg (de_idx (de_var 2) (de_neg de_int))))) (dss_cons (ds_set (i := 6) sc_remainder.nd (de_sub (de_callB call_len rel_len (by rfl) b_len (by decide +kernel) (da_cons (de_var 2) da_nil)) (de_callB call_len rel_len (by rfl) b_len (by decide +kernel) (da_cons (de_var 1) da_nil)))) (dss_cons (ds_setLc (i := 2) (own := [("c", 9)]) true rfl sc_remainder.nd (di_seq (de_var 2)) (blkOk_by (own := [("c", 9)]) (N := N_remainder) (sc := defScope s_remainder) (by decide +kernel)) (relg_name 9) (fun _ _ _ _ _ => (pg_name (i := 9) sc_remainder.nd rfl (by first | exact Or.inl rfl | exact Or.inr rfl))) (fun _ _ _ _ _ => dps_nil) (fun _ _ _ _ _ => (de_mul false (de_var 9) (de_var 4))) (sw_true rfl rfl rfl (by decide +kernel))) (dss_cons (ds_for (vs := [7]) PassesOwn.never rfl (di_r1 (by rfl) b_range (da_cons (de_callB call_len rel_len (by rfl) b_len (by decide +kernel) (da_cons (de_var 1) da_nil)) da_nil)) (pg_name (i := 7) sc_remainder.nd rfl (by first | exact Or.inl rfl | exact Or.inr rfl)) (relg_name 7) (dss_one (ds_setIx (de_var 2) (de_add false (de_var 6) (de_var 7)) (de_sub (de_idx (de_var 2) (de_add false (de_var 6) (de_var 7))) (de_mul false (de_var 5) (de_idx (de_var 1) (de_var 7))))))) (dss_one (ds_set (i := 2) sc_remainder.nd (de_callTy call_list_of rel_listOf (by rfl) b_list (by decide +kernel) (da_cons (de_cal C_trimmed hr (da_cons (de_var 2) da_nil)) da_nil))))))))) (dss_cons (ds_set (i := 8) sc_remainder.nd (de_cal C_content hr (da_cons (de_var 2) da_nil))) (dss_one (ds_ret (de_callTy call_tuple_of rel_tupOf (by rfl) b_tuple (by decide +kernel) (da_cons (de_lc (own := [("c", 9)]) false rfl sc_remainder.nd (di_seq (de_var 2)) (blkOk_by (own := [("c", 9)]) (N := N_remainder) (sc := defScope s_remainder) (by decide +kernel)) (relg_name 9) (fun _ _ _ _ _ => (pg_name (i := 9) sc_remainder.nd rfl (by first | exact Or.inl rfl | exact Or.inr rfl))) (fun _ _ _ _ _ => dps_nil) (fun _ _ _ _ _ => (de_fdiv (de_var 9) (de_var 8)))) da_nil)))))))))
theorem body_quotient (b_len : mg "len" = none) (b_list : mg "list" = none) (b_range : mg "range" = none) (b_divmod : mg "divmod" = none) (b_any : mg "any" = none) (b_tuple : mg "tuple" = none) (hr : Room k (A.deeper (envOfC "quotient" (defScope s_quotient) s.heap.objs.size f cdv))) :
    DSs (cxOf CX0 P w K mg base N_quotient "quotient" (defScope s_quotient) f cdv A outer s H E).nox (defBody s_quotient) t_quotient :=
  (dss_cons (ds_if (dt_lt (de_callB call_len rel_len (by rfl) b_len (by decide +kernel) (da_cons (de_var 0) da_nil)) (de_callB call_len rel_len (by rfl) b_len (by decide +kernel) (da_cons (de_var 1) da_nil))) (dss_one (ds_ret (de_ifx (dt_eq hr.units (de_callB call_len rel_len (by rfl) b_len (by decide +kernel) (da_cons (de_var 0) da_nil)) de_int) (de_tup da_nil) de_non))) dss_nil) (dss_cons (ds_set (i := 2) sc_quotient.nd (de_callTy call_list_of rel_listOf (by rfl) b_list (by decide +kernel) (da_cons (de_var 0) da_nil))) (dss_cons (ds_set (i := 3) sc_quotient.nd (de_mul true (de_lst false (da_cons de_int da_nil)) (de_add false (de_sub (de_callB call_len rel_len (by rfl) b_len (by decide +kernel) (da_cons (de_var 0) da_nil)) (de_callB call_len rel_len (by rfl) b_len (by decide +kernel) (da_cons (de_var 1) da_nil))) de_int))) (dss_cons (ds_for (vs := [4]) PassesOwn.never rfl (di_r3 (by rfl) b_range (da_cons (de_sub (de_callB call_len rel_len (by rfl) b_len (by decide +kernel) (da_cons (de_var 0) da_nil)) (de_callB call_len rel_len (by rfl) b_len (by decide +kernel) (da_cons (de_var 1) da_nil))) (da_cons (de_neg de_int) (da_cons (de_neg de_int) da_nil)))) (pg_name (i := 4) sc_quotient.nd rfl (by first | exact Or.inl rfl | exact Or.inr rfl)) (relg_name 4) (dss_cons (ds_asg (vs := [5, 6]) (pg_tup rfl (pgs_cons (pg_name (i := 5) sc_quotient.nd rfl (by first | exact Or.inl rfl | exact Or.inr rfl)) (pgs_cons (pg_name (i := 6) sc_quotient.nd rfl (by first | exact Or.inl rfl | exact Or.inr rfl)) pgs_nil))) (relg_tup 2 rfl (relgs_cons (relg_name 5) (relgs_cons (relg_name 6) relgs_nil))) (de_callB call_divmodW rel_divmod (by rfl) b_divmod (by decide +kernel) (da_cons (de_idx (de_var 2) (de_sub (de_add false (de_var 4) (de_callB call_len rel_len (by rfl) b_len (by decide +kernel) (da_cons (de_var 1) da_nil))) de_int)) (da_cons (de_idx (de_var 1) (de_neg de_int)) da_nil)))) (dss_cons (ds_if (dt_ne hr.units (de_var 6) de_int) (dss_one (ds_ret de_non)) dss_nil) (dss_cons (ds_setIx (de_var 3) (de_var 4) (de_var 5)) (dss_one (ds_if (dt_ne hr.units (de_var 5) de_int) (dss_one (ds_for (vs := [7]) PassesOwn.never rfl (di_r1 (by rfl) b_range (da_cons (de_callB call_len rel_len (by rfl) b_len (by decide +kernel) (da_cons (de_var 1) da_nil)) da_nil)) (pg_name (i := 7) sc_quotient.nd rfl (by first | exact Or.inl rfl | exact Or.inr rfl)) (relg_name 7) (dss_one (ds_setIx (de_var 2) (de_add false (de_var 4) (de_var 7)) (de_sub (de_idx (de_var 2) (de_add false (de_var 4) (de_var 7))) (de_mul false (de_var 5) (de_idx (de_var 1) (de_var 7)))))))) dss_nil)))))) (dss_one (ds_ret (de_ifx (dt_not (dt_tru (de_callB (cr_any rfl) rel_any (by rfl) b_any (by decide +kernel) (da_cons (de_lc (own := [("c", 8)]) false rfl sc_quotient.nd (di_seq (de_var 2)) (blkOk_by (own := [("c", 8)]) (N := N_quotient) (sc := defScope s_quotient) (by decide +kernel)) (relg_name 8) (fun _ _ _ _ _ => (pg_name (i := 8) sc_quotient.nd rfl (by first | exact Or.inl rfl | exact Or.inr rfl))) (fun _ _ _ _ _ => dps_nil) (fun _ _ _ _ _ => (de_ne hr.units (de_var 8) de_int))) da_nil)))) (de_callTy call_tuple_of rel_tupOf (by rfl) b_tuple (by decide +kernel) (da_cons (de_var 3) da_nil)) de_non)))))))
theorem body_common (C_remainder : Cal P w K mg base k "remainder" ["p", "d"] sp_remainder) (C_primitive : Cal P w K mg base k "primitive" ["p"] sp_primitive) (b_len : mg "len" = none) (hr : Room k (A.deeper (envOfC "common" (defScope s_common) s.heap.objs.size f cdv))) :
    DSs (cxOf CX0 P w K mg base N_common "common" (defScope s_common) f cdv A outer s H E).nox (defBody s_common) t_common :=
  (dss_cons (ds_if (PW.pt (dw_and (dt_eq hr.units (de_callB call_len rel_len (by rfl) b_len (by decide +kernel) (da_cons (de_var 0) da_nil)) de_int) (dw_and1 (dt_eq hr.units (de_callB call_len rel_len (by rfl) b_len (by decide +kernel) (da_cons (de_var 1) da_nil)) de_int)))) (dss_one ds_never) dss_nil) (dss_cons (ds_while PassesOwn.never (dt_gt (de_callB call_len rel_len (by rfl) b_len (by decide +kernel) (da_cons (de_var 1) da_nil)) de_int) (dss_one (ds_par (i := 0) (j := 1) rfl sc_common.nd (da_cons (de_var 1) (da_cons (de_cal C_remainder hr (da_cons (de_var 0) (da_cons (de_var 1) da_nil))) da_nil))))) (dss_one (ds_ret (de_cal C_primitive hr (da_cons (de_var 0) da_nil))))))
theorem body_free (C_primitive : Cal P w K mg base k "primitive" ["p"] sp_primitive) (C_derived : Cal P w K mg base k "derived" ["p"] sp_derived) (C_common : Cal P w K mg base k "common" ["p", "d"] sp_common) (C_quotient : Cal P w K mg base k "quotient" ["p", "d"] sp_quotient) (hr : Room k (A.deeper (envOfC "free" (defScope s_free) s.heap.objs.size f cdv))) :
    DSs (cxOf CX0 P w K mg base N_free "free" (defScope s_free) f cdv A outer s H E).nox (defBody s_free) t_free :=
  (dss_cons (ds_set (i := 1) sc_free.nd (de_cal C_primitive hr (da_cons (de_var 0) da_nil))) (dss_cons (ds_set (i := 2) sc_free.nd (de_cal C_common hr (da_cons (de_var 1) (da_cons (de_cal C_derived hr (da_cons (de_var 1) da_nil)) da_nil)))) (dss_one (ds_ret (de_cal C_quotient hr (da_cons (de_var 1) (da_cons (de_var 2) da_nil)))))))
theorem body_reduced (b_int : mg "int" = none) (b_len : mg "len" = none) (hr : Room k (A.deeper (envOfC "reduced" (defScope s_reduced) s.heap.objs.size f cdv))) :
    DSs (cxOf CX0 P w K mg base N_reduced "reduced" (defScope s_reduced) f cdv A outer s H E).nox (defBody s_reduced) t_reduced :=
  (dss_cons (ds_setLc (i := 2) (own := [("c", 3)]) true rfl sc_reduced.nd (di_seq (de_var 0)) (blkOk_by (own := [("c", 3)]) (N := N_reduced) (sc := defScope s_reduced) (by decide +kernel)) (relg_name 3) (fun _ _ _ _ _ => (pg_name (i := 3) sc_reduced.nd rfl (by first | exact Or.inl rfl | exact Or.inr rfl))) (fun _ _ _ _ _ => dps_nil) (fun _ _ _ _ _ => (de_mod (de_callTy call_intAll rel_int (by rfl) b_int (by decide +kernel) (da_cons (de_var 3) da_nil)) (de_var 1))) (sw_true rfl rfl rfl (by decide +kernel))) (dss_cons (ds_while PassesOwn.never (PW.pt (dw_and (dt_gt (de_callB call_len rel_len (by rfl) b_len (by decide +kernel) (da_cons (de_var 2) da_nil)) de_int) (dw_and1 (dt_eq hr.units (de_idx (de_var 2) (de_neg de_int)) de_int)))) (dss_one (ds_expr (de_bm0 tyV_list rel_pop PySem.F.plainAttrs_list PySem.F.slot_list_pop PySem.F.type_list_pop mt_pop (de_var 2))))) (dss_one (ds_ret (de_var 2)))))
theorem body_inverse (b_int : mg "int" = none) (b_divmod : mg "divmod" = none) (hr : Room k (A.deeper (envOfC "inverse" (defScope s_inverse) s.heap.objs.size f cdv))) :
    DSs (cxOf CX0 P w K mg base N_inverse "inverse" (defScope s_inverse) f cdv A outer s H E).nox (defBody s_inverse) t_inverse :=
  (dss_cons (ds_set (i := 2) sc_inverse.nd de_int) (dss_cons (ds_set (i := 3) sc_inverse.nd (de_mod (de_callTy call_intAll rel_int (by rfl) b_int (by decide +kernel) (da_cons (de_var 0) da_nil)) (de_var 1))) (dss_cons (ds_set (i := 4) sc_inverse.nd (de_sub (de_var 1) de_int)) (dss_cons (ds_while PassesOwn.never (dt_gt (de_var 4) de_int) (dss_cons (ds_asg (vs := [4, 5]) (pg_tup rfl (pgs_cons (pg_name (i := 4) sc_inverse.nd rfl (by first | exact Or.inl rfl | exact Or.inr rfl)) (pgs_cons (pg_name (i := 5) sc_inverse.nd rfl (by first | exact Or.inl rfl | exact Or.inr rfl)) pgs_nil))) (relg_tup 2 rfl (relgs_cons (relg_name 4) (relgs_cons (relg_name 5) relgs_nil))) (de_callB call_divmodW rel_divmod (by rfl) b_divmod (by decide +kernel) (da_cons (de_var 4) (da_cons de_int da_nil)))) (dss_cons (ds_if (dt_eq hr.units (de_var 5) de_int) (dss_one (ds_set (i := 2) sc_inverse.nd (de_mod (de_mul false (de_var 2) (de_var 3)) (de_var 1)))) dss_nil) (dss_one (ds_set (i := 3) sc_inverse.nd (de_mod (de_mul false (de_var 3) (de_var 3)) (de_var 1))))))) (dss_one (ds_ret (de_var 2)))))))
theorem body_monic_m (C_inverse : Cal P w K mg base k "inverse" ["a", "prime"] sp_inverse) (b_len : mg "len" = none) (hr : Room k (A.deeper (envOfC "monic_m" (defScope s_monic_m) s.heap.objs.size f cdv))) :
    DSs (cxOf CX0 P w K mg base N_monic_m "monic_m" (defScope s_monic_m) f cdv A outer s H E).nox (defBody s_monic_m) t_monic_m :=
  (dss_cons (ds_if (dt_eq hr.units (de_callB call_len rel_len (by rfl) b_len (by decide +kernel) (da_cons (de_var 0) da_nil)) de_int) (dss_one (ds_ret (de_lst false da_nil))) dss_nil) (dss_cons (ds_set (i := 2) sc_monic_m.nd (de_cal C_inverse hr (da_cons (de_idx (de_var 0) (de_neg de_int)) (da_cons (de_var 1) da_nil)))) (dss_one (ds_ret (de_lc (own := [("c", 3)]) false rfl sc_monic_m.nd (di_seq (de_var 0)) (blkOk_by (own := [("c", 3)]) (N := N_monic_m) (sc := defScope s_monic_m) (by decide +kernel)) (relg_name 3) (fun _ _ _ _ _ => (pg_name (i := 3) sc_monic_m.nd rfl (by first | exact Or.inl rfl | exact Or.inr rfl))) (fun _ _ _ _ _ => dps_nil) (fun _ _ _ _ _ => (de_mod (de_mul false (de_var 3) (de_var 2)) (de_var 1))))))))
theorem body_divided_m (C_inverse : Cal P w K mg base k "inverse" ["a", "prime"] sp_inverse) (C_reduced : Cal P w K mg base k "reduced" ["p", "prime"] sp_reduced) (b_list : mg "list" = none) (b_len : mg "len" = none) (b_max : mg "max" = none) (b_range : mg "range" = none) (hr : Room k (A.deeper (envOfC "divided_m" (defScope s_divided_m) s.heap.objs.size f cdv))) :
    DSs (cxOf CX0 P w K mg base N_divided_m "divided_m" (defScope s_divided_m) f cdv A outer s H E).nox (defBody s_divided_m) t_divided_m :=
  (dss_cons (ds_set (i := 3) sc_divided_m.nd (de_callTy call_list_of rel_listOf (by rfl) b_list (by decide +kernel) (da_cons (de_var 0) da_nil))) (dss_cons (ds_set (i := 4) sc_divided_m.nd (de_ifx (dt_eq hr.units (de_idx (de_var 1) (de_neg de_int)) de_int) de_int (de_cal C_inverse hr (da_cons (de_idx (de_var 1) (de_neg de_int)) (da_cons (de_var 2) da_nil))))) (dss_cons (ds_set (i := 5) sc_divided_m.nd (de_add false (de_sub (de_callB call_len rel_len (by rfl) b_len (by decide +kernel) (da_cons (de_var 0) da_nil)) (de_callB call_len rel_len (by rfl) b_len (by decide +kernel) (da_cons (de_var 1) da_nil))) de_int)) (dss_cons (ds_set (i := 6) sc_divided_m.nd (de_mul true (de_lst false (da_cons de_int da_nil)) (de_callB (call_max2 rfl) rel_max2 (by rfl) b_max (by decide +kernel) (da_cons de_int (da_cons (de_var 5) da_nil))))) (dss_cons (ds_for (vs := [7]) PassesOwn.never rfl (di_r3 (by rfl) b_range (da_cons (de_sub (de_var 5) de_int) (da_cons (de_neg de_int) (da_cons (de_neg de_int) da_nil)))) (pg_name (i := 7) sc_divided_m.nd rfl (by first | exact Or.inl rfl | exact Or.inr rfl)) (relg_name 7) (dss_cons (ds_set (i := 8) sc_divided_m.nd (de_mod (de_mul false (de_idx (de_var 3) (de_sub (de_add false (de_var 7) (de_callB call_len rel_len (by rfl) b_len (by decide +kernel) (da_cons (de_var 1) da_nil))) de_int)) (de_var 4)) (de_var 2))) (dss_cons (ds_setIx (de_var 6) (de_var 7) (de_var 8)) (dss_one (ds_if (dt_ne hr.units (de_var 8) de_int) (dss_one (ds_for (vs := [9]) PassesOwn.never rfl (di_r1 (by rfl) b_range (da_cons (de_callB call_len rel_len (by rfl) b_len (by decide +kernel) (da_cons (de_var 1) da_nil)) da_nil)) (pg_name (i := 9) sc_divided_m.nd rfl (by first | exact Or.inl rfl | exact Or.inr rfl)) (relg_name 9) (dss_one (ds_setIx (de_var 3) (de_add false (de_var 7) (de_var 9)) (de_mod (de_sub (de_idx (de_var 3) (de_add false (de_var 7) (de_var 9))) (de_mul false (de_var 8) (de_idx (de_var 1) (de_var 9)))) (de_var 2)))))) dss_nil))))) (dss_one (ds_ret (de_tup (da_cons (de_cal C_reduced hr (da_cons (de_var 6) (da_cons (de_var 2) da_nil))) (da_cons (de_cal C_reduced hr (da_cons (de_var 3) (da_cons (de_var 2) da_nil))) da_nil))))))))))
theorem body_rest_m (C_divided_m : Cal P w K mg base k "divided_m" ["a", "b", "prime"] sp_divided_m) (hr : Room k (A.deeper (envOfC "rest_m" (defScope s_rest_m) s.heap.objs.size f cdv))) :
    DSs (cxOf CX0 P w K mg base N_rest_m "rest_m" (defScope s_rest_m) f cdv A outer s H E).nox (defBody s_rest_m) t_rest_m :=
  (dss_one (ds_ret (de_idx (de_cal C_divided_m hr (da_cons (de_var 0) (da_cons (de_var 1) (da_cons (de_var 2) da_nil)))) de_int)))
theorem body_common_m (C_rest_m : Cal P w K mg base k "rest_m" ["a", "b", "prime"] sp_rest_m) (C_monic_m : Cal P w K mg base k "monic_m" ["a", "prime"] sp_monic_m) (b_len : mg "len" = none) (hr : Room k (A.deeper (envOfC "common_m" (defScope s_common_m) s.heap.objs.size f cdv))) :
    DSs (cxOf CX0 P w K mg base N_common_m "common_m" (defScope s_common_m) f cdv A outer s H E).nox (defBody s_common_m) t_common_m :=
  (dss_cons (ds_while PassesOwn.never (dt_gt (de_callB call_len rel_len (by rfl) b_len (by decide +kernel) (da_cons (de_var 1) da_nil)) de_int) (dss_one (ds_par (i := 0) (j := 1) rfl sc_common_m.nd (da_cons (de_var 1) (da_cons (de_cal C_rest_m hr (da_cons (de_var 0) (da_cons (de_var 1) (da_cons (de_var 2) da_nil)))) da_nil))))) (dss_one (ds_ret (de_cal C_monic_m hr (da_cons (de_var 0) (da_cons (de_var 2) da_nil))))))
theorem body_derived_m (C_reduced : Cal P w K mg base k "reduced" ["p", "prime"] sp_reduced) (b_range : mg "range" = none) (b_len : mg "len" = none) (hr : Room k (A.deeper (envOfC "derived_m" (defScope s_derived_m) s.heap.objs.size f cdv))) :
    DSs (cxOf CX0 P w K mg base N_derived_m "derived_m" (defScope s_derived_m) f cdv A outer s H E).nox (defBody s_derived_m) t_derived_m :=
  (dss_one (ds_ret (de_cal C_reduced hr (da_cons (de_lc (own := [("at", 2)]) false rfl sc_derived_m.nd (di_r2 (by rfl) b_range (da_cons de_int (da_cons (de_callB call_len rel_len (by rfl) b_len (by decide +kernel) (da_cons (de_var 0) da_nil)) da_nil))) (blkOk_by (own := [("at", 2)]) (N := N_derived_m) (sc := defScope s_derived_m) (by decide +kernel)) (relg_name 2) (fun _ _ _ _ _ => (pg_name (i := 2) sc_derived_m.nd rfl (by first | exact Or.inl rfl | exact Or.inr rfl))) (fun _ _ _ _ _ => dps_nil) (fun _ _ _ _ _ => (de_mul false (de_idx (de_var 0) (de_var 2)) (de_var 2)))) (da_cons (de_var 1) da_nil)))))
theorem body_is_prime  (hr : Room k (A.deeper (envOfC "is_prime" (defScope s_is_prime) s.heap.objs.size f cdv))) :
    DSs (cxOf CX0 P w K mg base N_is_prime "is_prime" (defScope s_is_prime) f cdv A outer s H E).nox (defBody s_is_prime) t_is_prime :=
  (dss_cons (ds_set (i := 1) sc_is_prime.nd de_int) (dss_cons (ds_while PassesOwn.never (dt_le (de_mul false (de_var 1) (de_var 1)) (de_var 0)) (dss_cons (ds_if (dt_eq hr.units (de_mod (de_var 0) (de_var 1)) de_int) (dss_one (ds_ret de_bl)) dss_nil) (dss_one (ds_aug (i := 1) sc_is_prime.nd pip_add rel_iadd de_int)))) (dss_one (ds_ret de_bl))))
theorem body_usable (C_reduced : Cal P w K mg base k "reduced" ["p", "prime"] sp_reduced) (C_derived_m : Cal P w K mg base k "derived_m" ["a", "prime"] sp_derived_m) (C_common_m : Cal P w K mg base k "common_m" ["a", "b", "prime"] sp_common_m) (b_len : mg "len" = none) (hr : Room k (A.deeper (envOfC "usable" (defScope s_usable) s.heap.objs.size f cdv))) :
    DSs (cxOf CX0 P w K mg base N_usable "usable" (defScope s_usable) f cdv A outer s H E).nox (defBody s_usable) t_usable :=
  (dss_cons (ds_if (dt_eq hr.units (de_mod (de_idx (de_var 0) (de_neg de_int)) (de_var 1)) de_int) (dss_one (ds_ret de_bl)) dss_nil) (dss_cons (ds_set (i := 2) sc_usable.nd (de_cal C_reduced hr (da_cons (de_var 0) (da_cons (de_var 1) da_nil)))) (dss_one (ds_ret (de_eq hr.units (de_callB call_len rel_len (by rfl) b_len (by decide +kernel) (da_cons (de_cal C_common_m hr (da_cons (de_var 2) (da_cons (de_cal C_derived_m hr (da_cons (de_var 2) (da_cons (de_var 1) da_nil))) (da_cons (de_var 1) da_nil)))) da_nil)) de_int)))))
theorem body_usable_prime (C_is_prime : Cal P w K mg base k "is_prime" ["n"] sp_is_prime) (C_usable : Cal P w K mg base k "usable" ["f", "prime"] sp_usable) (hr : Room k (A.deeper (envOfC "usable_prime" (defScope s_usable_prime) s.heap.objs.size f cdv))) :
    DSs (cxOf CX0 P w K mg base N_usable_prime "usable_prime" (defScope s_usable_prime) f cdv A outer s H E).nox (defBody s_usable_prime) t_usable_prime :=
  (dss_cons (ds_set (i := 2) sc_usable_prime.nd (de_add false (de_var 1) de_int)) (dss_cons (ds_while PassesOwn.never (dt_not (PW.pt (dw_and (dt_tru (de_cal C_is_prime hr (da_cons (de_var 2) da_nil))) (dw_and1 (dt_tru (de_cal C_usable hr (da_cons (de_var 0) (da_cons (de_var 2) da_nil)))))))) (dss_one (ds_aug (i := 2) sc_usable_prime.nd pip_add rel_iadd de_int))) (dss_one (ds_ret (de_var 2)))))
theorem body_value_m (b_reversed : mg "reversed" = none) (hr : Room k (A.deeper (envOfC "value_m" (defScope s_value_m) s.heap.objs.size f cdv))) :
    DSs (cxOf CX0 P w K mg base N_value_m "value_m" (defScope s_value_m) f cdv A outer s H E).nox (defBody s_value_m) t_value_m :=
  (dss_cons (ds_set (i := 3) sc_value_m.nd de_int) (dss_cons (ds_for (vs := [4]) PassesOwn.never rfl (di_rev (by rfl) b_reversed (de_var 0)) (pg_name (i := 4) sc_value_m.nd rfl (by first | exact Or.inl rfl | exact Or.inr rfl)) (relg_name 4) (dss_one (ds_set (i := 3) sc_value_m.nd (de_mod (de_add false (de_mul false (de_var 3) (de_var 1)) (de_var 4)) (de_var 2))))) (dss_one (ds_ret (de_var 3)))))
theorem body_lifted_root (C_derived : Cal P w K mg base k "derived" ["p"] sp_derived) (C_value_m : Cal P w K mg base k "value_m" ["f", "x", "n"] sp_value_m) (C_inverse : Cal P w K mg base k "inverse" ["a", "prime"] sp_inverse) (hr : Room k (A.deeper (envOfC "lifted_root" (defScope s_lifted_root) s.heap.objs.size f cdv))) :
    DSs (cxOf CX0 P w K mg base N_lifted_root "lifted_root" (defScope s_lifted_root) f cdv A outer s H E).nox (defBody s_lifted_root) t_lifted_root :=
  (dss_cons (ds_set (i := 4) sc_lifted_root.nd (de_cal C_derived hr (da_cons (de_var 0) da_nil))) (dss_cons (ds_set (i := 5) sc_lifted_root.nd (de_cal C_inverse hr (da_cons (de_cal C_value_m hr (da_cons (de_var 4) (da_cons (de_var 1) (da_cons (de_var 2) da_nil)))) (da_cons (de_var 2) da_nil)))) (dss_cons (ds_set (i := 6) sc_lifted_root.nd (de_var 2)) (dss_cons (ds_while PassesOwn.never (dt_le (de_var 6) (de_var 3)) (dss_cons (ds_set (i := 6) sc_lifted_root.nd (de_mul false (de_var 6) (de_var 6))) (dss_cons (ds_set (i := 1) sc_lifted_root.nd (de_mod (de_sub (de_var 1) (de_mul false (de_cal C_value_m hr (da_cons (de_var 0) (da_cons (de_var 1) (da_cons (de_var 6) da_nil)))) (de_var 5))) (de_var 6))) (dss_one (ds_set (i := 5) sc_lifted_root.nd (de_mod (de_mul false (de_var 5) (de_sub de_int (de_mul false (de_cal C_value_m hr (da_cons (de_var 4) (da_cons (de_var 1) (da_cons (de_var 6) da_nil)))) (de_var 5)))) (de_var 6))))))) (dss_one (ds_ret (de_tup (da_cons (de_var 1) (da_cons (de_var 6) da_nil)))))))))
theorem body_fraction_roots (C_ratio : Cal P w K mg base k "ratio" ["n", "d"] sp_ratio) (C_usable_prime : Cal P w K mg base k "usable_prime" ["f", "prime"] sp_usable_prime) (C_value_m : Cal P w K mg base k "value_m" ["f", "x", "n"] sp_value_m) (C_lifted_root : Cal P w K mg base k "lifted_root" ["f", "root", "prime", "least"] sp_lifted_root) (C_sign : Cal P w K mg base k "sign" ["p", "q"] sp_sign) (b_len : mg "len" = none) (b_abs : mg "abs" = none) (b_max : mg "max" = none) (b_range : mg "range" = none) (hr : Room k (A.deeper (envOfC "fraction_roots" (defScope s_fraction_roots) s.heap.objs.size f cdv))) :
    DSs (cxOf CX0 P w K mg base N_fraction_roots "fraction_roots" (defScope s_fraction_roots) f cdv A outer s H E).nox (defBody s_fraction_roots) t_fraction_roots :=
  (dss_cons (ds_set (i := 1) sc_fraction_roots.nd (de_idx (de_var 0) (de_neg de_int))) (dss_cons (ds_if (dt_eq hr.units (de_callB call_len rel_len (by rfl) b_len (by decide +kernel) (da_cons (de_var 0) da_nil)) de_int) (dss_one (ds_ret (de_lst false (da_cons (de_cal C_ratio hr (da_cons (de_neg (de_idx (de_var 0) de_int)) (da_cons (de_var 1) da_nil))) da_nil)))) dss_nil) (dss_cons (ds_set (i := 2) sc_fraction_roots.nd (de_cal C_usable_prime hr (da_cons (de_var 0) (da_cons de_int da_nil)))) (dss_cons (ds_set (i := 3) sc_fraction_roots.nd (de_mul false de_int (de_add false (de_var 1) (de_callB (cr_max rfl) rel_maxL (by rfl) b_max (by decide +kernel) (da_cons (de_lc (own := [("c", 10)]) false rfl sc_fraction_roots.nd (di_seq (de_var 0)) (blkOk_by (own := [("c", 10)]) (N := N_fraction_roots) (sc := defScope s_fraction_roots) (by decide +kernel)) (relg_name 10) (fun _ _ _ _ _ => (pg_name (i := 10) sc_fraction_roots.nd rfl (by first | exact Or.inl rfl | exact Or.inr rfl))) (fun _ _ _ _ _ => dps_nil) (fun _ _ _ _ _ => (de_callB call_abs rel_abs (by rfl) b_abs (by decide +kernel) (da_cons (de_var 10) da_nil)))) da_nil))))) (dss_cons (ds_set (i := 4) sc_fraction_roots.nd (de_lst true da_nil)) (dss_cons (ds_for (vs := [5]) PassesOwn.never rfl (di_r1 (by rfl) b_range (da_cons (de_var 2) da_nil)) (pg_name (i := 5) sc_fraction_roots.nd rfl (by first | exact Or.inl rfl | exact Or.inr rfl)) (relg_name 5) (dss_one (ds_if (dt_eq hr.units (de_cal C_value_m hr (da_cons (de_var 0) (da_cons (de_var 5) (da_cons (de_var 2) da_nil)))) de_int) (dss_cons (ds_asg (vs := [6, 7]) (pg_tup rfl (pgs_cons (pg_name (i := 6) sc_fraction_roots.nd rfl (by first | exact Or.inl rfl | exact Or.inr rfl)) (pgs_cons (pg_name (i := 7) sc_fraction_roots.nd rfl (by first | exact Or.inl rfl | exact Or.inr rfl)) pgs_nil))) (relg_tup 2 rfl (relgs_cons (relg_name 6) (relgs_cons (relg_name 7) relgs_nil))) (de_cal C_lifted_root hr (da_cons (de_var 0) (da_cons (de_var 5) (da_cons (de_var 2) (da_cons (de_var 3) da_nil)))))) (dss_cons (ds_set (i := 8) sc_fraction_roots.nd (de_mod (de_mul false (de_var 1) (de_var 6)) (de_var 7))) (dss_cons (ds_set (i := 9) sc_fraction_roots.nd (de_cal C_ratio hr (da_cons (de_ifx (dt_gt (de_mul false de_int (de_var 8)) (de_var 7)) (de_sub (de_var 8) (de_var 7)) (de_var 8)) (da_cons (de_var 1) da_nil)))) (dss_one (ds_if (dt_eq hr.units (de_cal C_sign hr (da_cons (de_var 0) (da_cons (de_var 9) da_nil))) de_int) (dss_one (ds_expr (de_bm tyV_list rel_append PySem.F.plainAttrs_list PySem.F.slot_list_append PySem.F.type_list_append mt_append (de_var 4) (da_cons (de_var 9) da_nil)))) dss_nil))))) dss_nil))) (dss_one (ds_ret (de_var 4)))))))))
theorem body_chain_of (C_derived : Cal P w K mg base k "derived" ["p"] sp_derived) (C_remainder : Cal P w K mg base k "remainder" ["p", "d"] sp_remainder) (b_len : mg "len" = none) (b_tuple : mg "tuple" = none) (hr : Room k (A.deeper (envOfC "chain_of" (defScope s_chain_of) s.heap.objs.size f cdv))) :
    DSs (cxOf CX0 P w K mg base N_chain_of "chain_of" (defScope s_chain_of) f cdv A outer s H E).nox (defBody s_chain_of) t_chain_of :=
  (dss_cons (ds_set (i := 1) sc_chain_of.nd (de_lst true (da_cons (de_var 0) (da_cons (de_cal C_derived hr (da_cons (de_var 0) da_nil)) da_nil)))) (dss_cons (ds_while PassesOwn.never (dt_gt (de_callB call_len rel_len (by rfl) b_len (by decide +kernel) (da_cons (de_idx (de_var 1) (de_neg de_int)) da_nil)) de_int) (dss_one (ds_expr (de_bm tyV_list rel_append PySem.F.plainAttrs_list PySem.F.slot_list_append PySem.F.type_list_append mt_append (de_var 1) (da_cons (de_callTy call_tuple_of rel_tupOf (by rfl) b_tuple (by decide +kernel) (da_cons (de_lc (own := [("c", 2)]) false rfl sc_chain_of.nd (di_seq (de_cal C_remainder hr (da_cons (de_idx (de_var 1) (de_neg de_int)) (da_cons (de_idx (de_var 1) (de_neg de_int)) da_nil)))) (blkOk_by (own := [("c", 2)]) (N := N_chain_of) (sc := defScope s_chain_of) (by decide +kernel)) (relg_name 2) (fun _ _ _ _ _ => (pg_name (i := 2) sc_chain_of.nd rfl (by first | exact Or.inl rfl | exact Or.inr rfl))) (fun _ _ _ _ _ => dps_nil) (fun _ _ _ _ _ => (de_neg (de_var 2)))) da_nil)) da_nil))))) (dss_one (ds_ret (de_slice false (de_var 1) do_none (do_some (de_neg de_int)))))))
theorem body_changes  (hr : Room k (A.deeper (envOfC "changes" (defScope s_changes) s.heap.objs.size f cdv))) :
    DSs (cxOf CX0 P w K mg base N_changes "changes" (defScope s_changes) f cdv A outer s H E).nox (defBody s_changes) t_changes :=
  (dss_cons (ds_set (i := 1) sc_changes.nd de_int) (dss_cons (ds_set (i := 2) sc_changes.nd de_int) (dss_cons (ds_for (vs := [3]) PassesOwn.never rfl (di_seq (de_var 0)) (pg_name (i := 3) sc_changes.nd rfl (by first | exact Or.inl rfl | exact Or.inr rfl)) (relg_name 3) (dss_one (ds_if (dt_ne hr.units (de_var 3) de_int) (dss_cons (ds_if (dt_eq hr.units (de_var 3) (de_neg (de_var 2))) (dss_one (ds_aug (i := 1) sc_changes.nd pip_add rel_iadd de_int)) dss_nil) (dss_one (ds_set (i := 2) sc_changes.nd (de_var 3)))) dss_nil))) (dss_one (ds_ret (de_var 1))))))
theorem body_changes_at (C_sign : Cal P w K mg base k "sign" ["p", "q"] sp_sign) (C_changes : Cal P w K mg base k "changes" ["signs"] sp_changes) (hr : Room k (A.deeper (envOfC "changes_at" (defScope s_changes_at) s.heap.objs.size f cdv))) :
    DSs (cxOf CX0 P w K mg base N_changes_at "changes_at" (defScope s_changes_at) f cdv A outer s H E).nox (defBody s_changes_at) t_changes_at :=
  (dss_one (ds_ret (de_cal C_changes hr (da_cons (de_lc (own := [("p", 2)]) false rfl sc_changes_at.nd (di_seq (de_var 0)) (blkOk_by (own := [("p", 2)]) (N := N_changes_at) (sc := defScope s_changes_at) (by decide +kernel)) (relg_name 2) (fun _ _ _ _ _ => (pg_name (i := 2) sc_changes_at.nd rfl (by first | exact Or.inl rfl | exact Or.inr rfl))) (fun _ _ _ _ _ => dps_nil) (fun _ _ _ _ _ => (de_cal C_sign hr (da_cons (de_var 2) (da_cons (de_var 1) da_nil))))) da_nil))))
theorem body_bound_of (b_abs : mg "abs" = none) (b_max : mg "max" = none) (hr : Room k (A.deeper (envOfC "bound_of" (defScope s_bound_of) s.heap.objs.size f cdv))) :
    DSs (cxOf CX0 P w K mg base N_bound_of "bound_of" (defScope s_bound_of) f cdv A outer s H E).nox (defBody s_bound_of) t_bound_of :=
  (dss_cons (ds_set (i := 1) sc_bound_of.nd (de_callB call_abs rel_abs (by rfl) b_abs (by decide +kernel) (da_cons (de_idx (de_var 0) (de_neg de_int)) da_nil))) (dss_cons (ds_set (i := 2) sc_bound_of.nd (de_callB (cr_max rfl) rel_maxL (by rfl) b_max (by decide +kernel) (da_cons (de_lc (own := [("c", 4)]) false rfl sc_bound_of.nd (di_seq (de_var 0)) (blkOk_by (own := [("c", 4)]) (N := N_bound_of) (sc := defScope s_bound_of) (by decide +kernel)) (relg_name 4) (fun _ _ _ _ _ => (pg_name (i := 4) sc_bound_of.nd rfl (by first | exact Or.inl rfl | exact Or.inr rfl))) (fun _ _ _ _ _ => dps_nil) (fun _ _ _ _ _ => (de_callB call_abs rel_abs (by rfl) b_abs (by decide +kernel) (da_cons (de_var 4) da_nil)))) da_nil))) (dss_cons (ds_set (i := 3) sc_bound_of.nd de_int) (dss_cons (ds_while PassesOwn.never (dt_lt (de_mul false (de_var 3) (de_var 1)) (de_add false (de_var 2) (de_var 1))) (dss_one (ds_set (i := 3) sc_bound_of.nd (de_mul false (de_var 3) de_int)))) (dss_one (ds_ret (de_var 3)))))))
theorem body_between (C_middle_q : Cal P w K mg base k "middle_q" ["a", "b"] sp_middle_q) (C_sign : Cal P w K mg base k "sign" ["p", "q"] sp_sign) (hr : Room k (A.deeper (envOfC "between" (defScope s_between) s.heap.objs.size f cdv))) :
    DSs (cxOf CX0 P w K mg base N_between "between" (defScope s_between) f cdv A outer s H E).nox (defBody s_between) t_between :=
  (dss_cons (ds_set (i := 3) sc_between.nd (de_cal C_middle_q hr (da_cons (de_var 1) (da_cons (de_var 2) da_nil)))) (dss_cons (ds_while PassesOwn.never (dt_eq hr.units (de_cal C_sign hr (da_cons (de_var 0) (da_cons (de_var 3) da_nil))) de_int) (dss_one (ds_set (i := 3) sc_between.nd (de_cal C_middle_q hr (da_cons (de_var 1) (da_cons (de_var 3) da_nil)))))) (dss_one (ds_ret (de_var 3)))))
theorem body_parted (C_chain_of : Cal P w K mg base k "chain_of" ["p"] sp_chain_of) (C_bound_of : Cal P w K mg base k "bound_of" ["p"] sp_bound_of) (C_changes_at : Cal P w K mg base k "changes_at" ["chain", "q"] sp_changes_at) (C_between : Cal P w K mg base k "between" ["p", "low", "high"] sp_between) (b_len : mg "len" = none) (hr : Room k (A.deeper (envOfC "parted" (defScope s_parted) s.heap.objs.size f cdv))) :
    DSs (cxOf CX0 P w K mg base N_parted "parted" (defScope s_parted) f cdv A outer s H E).nox (defBody s_parted) t_parted :=
  (dss_cons (ds_set (i := 1) sc_parted.nd (de_cal C_chain_of hr (da_cons (de_var 0) da_nil))) (dss_cons (ds_set (i := 2) sc_parted.nd (de_cal C_bound_of hr (da_cons (de_var 0) da_nil))) (dss_cons (ds_set (i := 3) sc_parted.nd (de_tup (da_cons (de_neg (de_var 2)) (da_cons de_int da_nil)))) (dss_cons (ds_set (i := 4) sc_parted.nd (de_tup (da_cons (de_var 2) (da_cons de_int da_nil)))) (dss_cons (ds_set (i := 5) sc_parted.nd (de_lst true (da_cons (de_tup (da_cons (de_var 3) (da_cons (de_cal C_changes_at hr (da_cons (de_var 1) (da_cons (de_var 3) da_nil))) (da_cons (de_var 4) (da_cons (de_cal C_changes_at hr (da_cons (de_var 1) (da_cons (de_var 4) da_nil))) da_nil))))) da_nil))) (dss_cons (ds_set (i := 6) sc_parted.nd (de_lst true da_nil)) (dss_cons (ds_while PassesOwn.never (dt_gt (de_callB call_len rel_len (by rfl) b_len (by decide +kernel) (da_cons (de_var 5) da_nil)) de_int) (dss_cons (ds_asg (vs := [3, 7, 4, 8]) (pg_tup rfl (pgs_cons (pg_name (i := 3) sc_parted.nd rfl (by first | exact Or.inl rfl | exact Or.inr rfl)) (pgs_cons (pg_name (i := 7) sc_parted.nd rfl (by first | exact Or.inl rfl | exact Or.inr rfl)) (pgs_cons (pg_name (i := 4) sc_parted.nd rfl (by first | exact Or.inl rfl | exact Or.inr rfl)) (pgs_cons (pg_name (i := 8) sc_parted.nd rfl (by first | exact Or.inl rfl | exact Or.inr rfl)) pgs_nil))))) (relg_tup 4 rfl (relgs_cons (relg_name 3) (relgs_cons (relg_name 7) (relgs_cons (relg_name 4) (relgs_cons (relg_name 8) relgs_nil))))) (de_bm0 tyV_list rel_pop PySem.F.plainAttrs_list PySem.F.slot_list_pop PySem.F.type_list_pop mt_pop (de_var 5))) (dss_one (ds_if (dt_eq hr.units (de_sub (de_var 7) (de_var 8)) de_int) (dss_one (ds_expr (de_bm tyV_list rel_append PySem.F.plainAttrs_list PySem.F.slot_list_append PySem.F.type_list_append mt_append (de_var 6) (da_cons (de_tup (da_cons (de_var 3) (da_cons (de_var 4) da_nil))) da_nil)))) (dss_one (ds_if (dt_gt (de_sub (de_var 7) (de_var 8)) de_int) (dss_cons (ds_set (i := 9) sc_parted.nd (de_cal C_between hr (da_cons (de_var 0) (da_cons (de_var 3) (da_cons (de_var 4) da_nil))))) (dss_cons (ds_set (i := 10) sc_parted.nd (de_cal C_changes_at hr (da_cons (de_var 1) (da_cons (de_var 9) da_nil)))) (dss_cons (ds_expr (de_bm tyV_list rel_append PySem.F.plainAttrs_list PySem.F.slot_list_append PySem.F.type_list_append mt_append (de_var 5) (da_cons (de_tup (da_cons (de_var 9) (da_cons (de_var 10) (da_cons (de_var 4) (da_cons (de_var 8) da_nil))))) da_nil))) (dss_one (ds_expr (de_bm tyV_list rel_append PySem.F.plainAttrs_list PySem.F.slot_list_append PySem.F.type_list_append mt_append (de_var 5) (da_cons (de_tup (da_cons (de_var 3) (da_cons (de_var 7) (da_cons (de_var 9) (da_cons (de_var 10) da_nil))))) da_nil))))))) dss_nil)))))) (dss_one (ds_ret (de_var 6))))))))))
theorem body_span_round (C_less_q : Cal P w K mg base k "less_q" ["a", "b"] sp_less_q) (hr : Room k (A.deeper (envOfC "span_round" (defScope s_span_round) s.heap.objs.size f cdv))) :
    DSs (cxOf CX0 P w K mg base N_span_round "span_round" (defScope s_span_round) f cdv A outer s H E).nox (defBody s_span_round) t_span_round :=
  (dss_cons (ds_for (vs := [3]) PassesOwn.never rfl (di_seq (de_var 2)) (pg_name (i := 3) sc_span_round.nd rfl (by first | exact Or.inl rfl | exact Or.inr rfl)) (relg_name 3) (dss_one (ds_if (PW.pt (dw_and (dt_tru (de_cal C_less_q hr (da_cons (de_var 0) (da_cons (de_var 3) da_nil)))) (dw_and1 (dt_tru (de_cal C_less_q hr (da_cons (de_var 3) (da_cons (de_var 1) da_nil))))))) (dss_one (ds_ret (de_tup (da_cons (de_var 3) (da_cons (de_var 3) da_nil))))) dss_nil))) (dss_one (ds_ret (de_tup (da_cons (de_var 0) (da_cons (de_var 1) da_nil))))))
theorem body_spans (C_free : Cal P w K mg base k "free" ["p"] sp_free) (C_fraction_roots : Cal P w K mg base k "fraction_roots" ["f"] sp_fraction_roots) (C_parted : Cal P w K mg base k "parted" ["p"] sp_parted) (C_span_round : Cal P w K mg base k "span_round" ["low", "high", "exact"] sp_span_round) (b_len : mg "len" = none) (hr : Room k (A.deeper (envOfC "spans" (defScope s_spans) s.heap.objs.size f cdv))) :
    DSs (cxOf CX0 P w K mg base N_spans "spans" (defScope s_spans) f cdv A outer s H E).nox (defBody s_spans) t_spans :=
  (dss_cons (ds_set (i := 1) sc_spans.nd (de_cal C_free hr (da_cons (de_var 0) da_nil))) (dss_cons (ds_if (dt_lt (de_callB call_len rel_len (by rfl) b_len (by decide +kernel) (da_cons (de_var 1) da_nil)) de_int) (dss_one (ds_ret (de_lst false da_nil))) dss_nil) (dss_cons (ds_set (i := 2) sc_spans.nd (de_cal C_fraction_roots hr (da_cons (de_var 1) da_nil))) (dss_cons (ds_if (dt_eq hr.units (de_callB call_len rel_len (by rfl) b_len (by decide +kernel) (da_cons (de_var 1) da_nil)) de_int) (dss_one (ds_ret (de_lst false (da_cons (de_tup (da_cons (de_idx (de_var 2) de_int) (da_cons (de_idx (de_var 2) de_int) da_nil))) da_nil)))) dss_nil) (dss_one (ds_ret (de_lc (own := [("low", 3), ("high", 4)]) false rfl sc_spans.nd (di_seq (de_cal C_parted hr (da_cons (de_var 1) da_nil))) (blkOk_by (own := [("low", 3), ("high", 4)]) (N := N_spans) (sc := defScope s_spans) (by decide +kernel)) (relg_tup 2 rfl (relgs_cons (relg_name 3) (relgs_cons (relg_name 4) relgs_nil))) (fun _ _ _ _ _ => (pg_tup rfl (pgs_cons (pg_name (i := 3) sc_spans.nd rfl (by first | exact Or.inl rfl | exact Or.inr rfl)) (pgs_cons (pg_name (i := 4) sc_spans.nd rfl (by first | exact Or.inl rfl | exact Or.inr rfl)) pgs_nil)))) (fun _ _ _ _ _ => dps_nil) (fun _ _ _ _ _ => (de_cal C_span_round hr (da_cons (de_var 3) (da_cons (de_var 4) (da_cons (de_var 2) da_nil))))))))))))
theorem body_square_floor  (hr : Room k (A.deeper (envOfC "square_floor" (defScope s_square_floor) s.heap.objs.size f cdv))) :
    DSs (cxOf CX0 P w K mg base N_square_floor "square_floor" (defScope s_square_floor) f cdv A outer s H E).nox (defBody s_square_floor) t_square_floor :=
  (dss_cons (ds_if (dt_lt (de_var 0) de_int) (dss_one (ds_ret (de_var 0))) dss_nil) (dss_cons (ds_set (i := 1) sc_square_floor.nd (de_shl de_int (de_fdiv (de_add false (de_bits (de_var 0)) de_int) de_int))) (dss_one (ds_while PassesOwn.never (dt_tru de_bl) (dss_cons (ds_set (i := 2) sc_square_floor.nd (de_fdiv (de_add false (de_var 1) (de_fdiv (de_var 0) (de_var 1))) de_int)) (dss_cons (ds_if (dt_ge (de_var 2) (de_var 1)) (dss_one (ds_ret (de_var 1))) dss_nil) (dss_one (ds_set (i := 1) sc_square_floor.nd (de_var 2)))))))))
theorem body_fraction_of (b_len : mg "len" = none) (hr : Room k (A.deeper (envOfC "fraction_of" (defScope s_fraction_of) s.heap.objs.size f cdv))) :
    DSs (cxOf CX0 P w K mg base N_fraction_of "fraction_of" (defScope s_fraction_of) f cdv A outer s H E).nox (defBody s_fraction_of) t_fraction_of :=
  (dss_cons (ds_if (dt_eq hr.units (de_callB call_len rel_len (by rfl) b_len (by decide +kernel) (da_cons (de_idx (de_var 0) de_int) da_nil)) de_int) (dss_one (ds_ret (de_tup (da_cons (de_neg (de_idx (de_idx (de_var 0) de_int) de_int)) (da_cons (de_idx (de_idx (de_var 0) de_int) de_int) da_nil))))) dss_nil) (dss_one (ds_ret de_non)))
theorem body_sign_at (b_reversed : mg "reversed" = none) (hr : Room k (A.deeper (envOfC "sign_at" (defScope s_sign_at) s.heap.objs.size f cdv))) :
    DSs (cxOf CX0 P w K mg base N_sign_at "sign_at" (defScope s_sign_at) f cdv A outer s H E).nox (defBody s_sign_at) t_sign_at :=
  (dss_cons (ds_set (i := 3) sc_sign_at.nd de_int) (dss_cons (ds_set (i := 4) sc_sign_at.nd de_int) (dss_cons (ds_for (vs := [5]) PassesOwn.never rfl (di_rev (by rfl) b_reversed (de_var 0)) (pg_name (i := 5) sc_sign_at.nd rfl (by first | exact Or.inl rfl | exact Or.inr rfl)) (relg_name 5) (dss_cons (ds_set (i := 3) sc_sign_at.nd (de_add false (de_mul false (de_var 3) (de_var 1)) (de_mul false (de_var 5) (de_var 4)))) (dss_one (ds_set (i := 4) sc_sign_at.nd (de_mul false (de_var 4) (de_var 2)))))) (dss_cons (ds_if (dt_eq hr.units (de_var 3) de_int) (dss_one (ds_ret de_int)) dss_nil) (dss_one (ds_ret (de_ifx (dt_gt (de_var 3) de_int) de_int (de_neg de_int))))))))
theorem body_probe_of (C_spans : Cal P w K mg base k "spans" ["p"] sp_spans) (C_sign_at : Cal P w K mg base k "sign_at" ["p", "n", "d"] sp_sign_at) (b_len : mg "len" = none) (hr : Room k (A.deeper (envOfC "probe_of" (defScope s_probe_of) s.heap.objs.size f cdv))) :
    DSs (cxOf CX0 P w K mg base N_probe_of "probe_of" (defScope s_probe_of) f cdv A outer s H E).nox (defBody s_probe_of) t_probe_of :=
  (dss_cons (ds_asg (vs := [1, 2]) (pg_tup rfl (pgs_cons (pg_name (i := 1) sc_probe_of.nd rfl (by first | exact Or.inl rfl | exact Or.inr rfl)) (pgs_cons (pg_name (i := 2) sc_probe_of.nd rfl (by first | exact Or.inl rfl | exact Or.inr rfl)) pgs_nil))) (relg_tup 2 rfl (relgs_cons (relg_name 1) (relgs_cons (relg_name 2) relgs_nil))) (de_var 0)) (dss_cons (ds_if (dt_le (de_callB call_len rel_len (by rfl) b_len (by decide +kernel) (da_cons (de_var 1) da_nil)) de_int) (dss_one (ds_ret (de_tup (da_cons (de_var 1) (da_cons (de_var 2) (da_cons de_non (da_cons de_non (da_cons de_int da_nil)))))))) dss_nil) (dss_cons (ds_asg (vs := [3, 4]) (pg_tup rfl (pgs_cons (pg_name (i := 3) sc_probe_of.nd rfl (by first | exact Or.inl rfl | exact Or.inr rfl)) (pgs_cons (pg_name (i := 4) sc_probe_of.nd rfl (by first | exact Or.inl rfl | exact Or.inr rfl)) pgs_nil))) (relg_tup 2 rfl (relgs_cons (relg_name 3) (relgs_cons (relg_name 4) relgs_nil))) (de_idx (de_cal C_spans hr (da_cons (de_var 1) da_nil)) (de_sub (de_var 2) de_int))) (dss_one (ds_ret (de_tup (da_cons (de_var 1) (da_cons (de_var 2) (da_cons (de_var 3) (da_cons (de_var 4) (da_cons (de_cal C_sign_at hr (da_cons (de_var 1) (da_cons (de_idx (de_var 3) de_int) (da_cons (de_idx (de_var 3) de_int) da_nil)))) da_nil)))))))))))
theorem body_side_of (C_sign_at : Cal P w K mg base k "sign_at" ["p", "n", "d"] sp_sign_at) (b_len : mg "len" = none) (hr : Room k (A.deeper (envOfC "side_of" (defScope s_side_of) s.heap.objs.size f cdv))) :
    DSs (cxOf CX0 P w K mg base N_side_of "side_of" (defScope s_side_of) f cdv A outer s H E).nox (defBody s_side_of) t_side_of :=
  (dss_cons (ds_asg (vs := [3, 4, 5, 6, 7]) (pg_tup rfl (pgs_cons (pg_name (i := 3) sc_side_of.nd rfl (by first | exact Or.inl rfl | exact Or.inr rfl)) (pgs_cons (pg_name (i := 4) sc_side_of.nd rfl (by first | exact Or.inl rfl | exact Or.inr rfl)) (pgs_cons (pg_name (i := 5) sc_side_of.nd rfl (by first | exact Or.inl rfl | exact Or.inr rfl)) (pgs_cons (pg_name (i := 6) sc_side_of.nd rfl (by first | exact Or.inl rfl | exact Or.inr rfl)) (pgs_cons (pg_name (i := 7) sc_side_of.nd rfl (by first | exact Or.inl rfl | exact Or.inr rfl)) pgs_nil)))))) (relg_tup 5 rfl (relgs_cons (relg_name 3) (relgs_cons (relg_name 4) (relgs_cons (relg_name 5) (relgs_cons (relg_name 6) (relgs_cons (relg_name 7) relgs_nil)))))) (de_var 0)) (dss_cons (ds_if (dt_eq hr.units (de_callB call_len rel_len (by rfl) b_len (by decide +kernel) (da_cons (de_var 3) da_nil)) de_int) (dss_cons (ds_set (i := 8) sc_side_of.nd (de_sub (de_mul false (de_neg (de_idx (de_var 3) de_int)) (de_var 2)) (de_mul false (de_var 1) (de_idx (de_var 3) de_int)))) (dss_one (ds_ret (de_ifx (dt_eq hr.units (de_var 8) de_int) de_int (de_ifx (dt_gt (de_var 8) de_int) de_int (de_neg de_int)))))) dss_nil) (dss_cons (ds_if (dt_eq hr.units (de_callB call_len rel_len (by rfl) b_len (by decide +kernel) (da_cons (de_var 3) da_nil)) de_int) (dss_cons (ds_if (dt_lt (de_cal C_sign_at hr (da_cons (de_var 3) (da_cons (de_var 1) (da_cons (de_var 2) da_nil)))) de_int) (dss_one (ds_ret (de_ifx (dt_eq hr.units (de_var 4) de_int) (de_neg de_int) de_int))) dss_nil) (dss_one (ds_ret (de_ifx (dt_lt (de_mul false (de_mul false de_int (de_idx (de_var 3) de_int)) (de_var 1)) (de_mul false (de_neg (de_idx (de_var 3) de_int)) (de_var 2))) de_int (de_neg de_int))))) dss_nil) (dss_cons (ds_if (dt_le (de_mul false (de_var 1) (de_idx (de_var 5) de_int)) (de_mul false (de_idx (de_var 5) de_int) (de_var 2))) (dss_one (ds_ret de_int)) dss_nil) (dss_cons (ds_if (dt_ge (de_mul false (de_var 1) (de_idx (de_var 6) de_int)) (de_mul false (de_idx (de_var 6) de_int) (de_var 2))) (dss_one (ds_ret (de_neg de_int))) dss_nil) (dss_one (ds_ret (de_ifx (dt_eq hr.units (de_cal C_sign_at hr (da_cons (de_var 3) (da_cons (de_var 1) (da_cons (de_var 2) da_nil)))) (de_var 7)) de_int (de_neg de_int)))))))))
theorem body_grid_of (C_square_floor : Cal P w K mg base k "square_floor" ["n"] sp_square_floor) (C_side_of : Cal P w K mg base k "side_of" ["probe", "n", "d"] sp_side_of) (b_len : mg "len" = none) (hr : Room k (A.deeper (envOfC "grid_of" (defScope s_grid_of) s.heap.objs.size f cdv))) :
    DSs (cxOf CX0 P w K mg base N_grid_of "grid_of" (defScope s_grid_of) f cdv A outer s H E).nox (defBody s_grid_of) t_grid_of :=
  (dss_cons (ds_asg (vs := [2, 3, 4, 5, 6]) (pg_tup rfl (pgs_cons (pg_name (i := 2) sc_grid_of.nd rfl (by first | exact Or.inl rfl | exact Or.inr rfl)) (pgs_cons (pg_name (i := 3) sc_grid_of.nd rfl (by first | exact Or.inl rfl | exact Or.inr rfl)) (pgs_cons (pg_name (i := 4) sc_grid_of.nd rfl (by first | exact Or.inl rfl | exact Or.inr rfl)) (pgs_cons (pg_name (i := 5) sc_grid_of.nd rfl (by first | exact Or.inl rfl | exact Or.inr rfl)) (pgs_cons (pg_name (i := 6) sc_grid_of.nd rfl (by first | exact Or.inl rfl | exact Or.inr rfl)) pgs_nil)))))) (relg_tup 5 rfl (relgs_cons (relg_name 2) (relgs_cons (relg_name 3) (relgs_cons (relg_name 4) (relgs_cons (relg_name 5) (relgs_cons (relg_name 6) relgs_nil)))))) (de_var 0)) (dss_cons (ds_if (dt_eq hr.units (de_callB call_len rel_len (by rfl) b_len (by decide +kernel) (da_cons (de_var 2) da_nil)) de_int) (dss_one (ds_ret (de_fdiv (de_mul false (de_neg (de_idx (de_var 2) de_int)) (de_var 1)) (de_idx (de_var 2) de_int)))) dss_nil) (dss_cons (ds_if (dt_eq hr.units (de_callB call_len rel_len (by rfl) b_len (by decide +kernel) (da_cons (de_var 2) da_nil)) de_int) (dss_cons (ds_set (i := 7) sc_grid_of.nd (de_cal C_square_floor hr (da_cons (de_mul false (de_mul false (de_sub (de_mul false (de_idx (de_var 2) de_int) (de_idx (de_var 2) de_int)) (de_mul false (de_mul false de_int (de_idx (de_var 2) de_int)) (de_idx (de_var 2) de_int))) (de_var 1)) (de_var 1)) da_nil))) (dss_cons (ds_if (dt_eq hr.units (de_var 3) de_int) (dss_one (ds_ret (de_fdiv (de_sub (de_sub (de_mul false (de_neg (de_idx (de_var 2) de_int)) (de_var 1)) (de_var 7)) de_int) (de_mul false de_int (de_idx (de_var 2) de_int))))) dss_nil) (dss_one (ds_ret (de_fdiv (de_add false (de_mul false (de_neg (de_idx (de_var 2) de_int)) (de_var 1)) (de_var 7)) (de_mul false de_int (de_idx (de_var 2) de_int))))))) dss_nil) (dss_cons (ds_set (i := 8) sc_grid_of.nd (de_fdiv (de_mul false (de_idx (de_var 4) de_int) (de_var 1)) (de_idx (de_var 4) de_int))) (dss_cons (ds_set (i := 9) sc_grid_of.nd (de_neg (de_fdiv (de_mul false (de_neg (de_idx (de_var 5) de_int)) (de_var 1)) (de_idx (de_var 5) de_int)))) (dss_cons (ds_while PassesOwn.never (dt_gt (de_sub (de_var 9) (de_var 8)) de_int) (dss_cons (ds_set (i := 10) sc_grid_of.nd (de_fdiv (de_add false (de_var 8) (de_var 9)) de_int)) (dss_one (ds_if (dt_gt (de_cal C_side_of hr (da_cons (de_var 0) (da_cons (de_var 10) (da_cons (de_var 1) da_nil)))) de_int) (dss_one (ds_set (i := 8) sc_grid_of.nd (de_var 10))) (dss_one (ds_set (i := 9) sc_grid_of.nd (de_var 10))))))) (dss_one (ds_ret (de_var 8)))))))))
theorem body_near (C_fraction_of : Cal P w K mg base k "fraction_of" ["key"] sp_fraction_of) (C_probe_of : Cal P w K mg base k "probe_of" ["key"] sp_probe_of) (C_grid_of : Cal P w K mg base k "grid_of" ["probe", "n"] sp_grid_of) (C_ratio : Cal P w K mg base k "ratio" ["n", "d"] sp_ratio) (hr : Room k (A.deeper (envOfC "near" (defScope s_near) s.heap.objs.size f cdv))) :
    DSs (cxOf CX0 P w K mg base N_near "near" (defScope s_near) f cdv A outer s H E).nox (defBody s_near) t_near :=
  (dss_cons (ds_set (i := 2) sc_near.nd (de_cal C_fraction_of hr (da_cons (de_var 0) da_nil))) (dss_cons (ds_if (dt_notN (de_var 2) de_non) (dss_one (ds_ret (de_tup (da_cons (de_var 2) (da_cons (de_var 2) da_nil))))) dss_nil) (dss_cons (ds_set (i := 3) sc_near.nd (de_neg (de_fdiv (de_neg (de_idx (de_var 1) de_int)) (de_idx (de_var 1) de_int)))) (dss_cons (ds_set (i := 4) sc_near.nd (de_cal C_grid_of hr (da_cons (de_cal C_probe_of hr (da_cons (de_var 0) da_nil)) (da_cons (de_var 3) da_nil)))) (dss_one (ds_ret (de_tup (da_cons (de_cal C_ratio hr (da_cons (de_var 4) (da_cons (de_var 3) da_nil))) (da_cons (de_cal C_ratio hr (da_cons (de_add false (de_var 4) de_int) (da_cons (de_var 3) da_nil))) da_nil)))))))))
theorem body_head (C_probe_of : Cal P w K mg base k "probe_of" ["key"] sp_probe_of) (C_power_of : Cal P w K mg base k "power_of" ["base", "exponent"] sp_power_of) (C_grid_of : Cal P w K mg base k "grid_of" ["probe", "n"] sp_grid_of) (hr : Room k (A.deeper (envOfC "head" (defScope s_head) s.heap.objs.size f cdv))) :
    DSs (cxOf CX0 P w K mg base N_head "head" (defScope s_head) f cdv A outer s H E).nox (defBody s_head) t_head :=
  (dss_one (ds_ret (de_cal C_grid_of hr (da_cons (de_cal C_probe_of hr (da_cons (de_var 0) da_nil)) (da_cons (de_cal C_power_of hr (da_cons (de_var 1) (da_cons (de_var 2) da_nil))) da_nil)))))
theorem body_law_source (b_len : mg "len" = none) (b_int : mg "int" = none) (b_sum : mg "sum" = none) (b_abs : mg "abs" = none) (hr : Room k (A.deeper (envOfC "_law_source" (defScope s_law_source) s.heap.objs.size f cdv))) :
    DSs (cxOf CX0 P w K mg base N_law_source "_law_source" (defScope s_law_source) f cdv A outer s H E).nox (defBody s_law_source) t_law_source :=
  (dss_cons (ds_set (i := 2) sc_law_source.nd (de_ifx (dt_lt (de_var 1) (de_callB call_len rel_len (by rfl) b_len (by decide +kernel) (da_cons (de_var 0) da_nil))) (de_callTy call_intAll rel_int (by rfl) b_int (by decide +kernel) (da_cons (de_idx (de_var 0) (de_var 1)) da_nil)) (de_add false (de_mul false de_int (de_callB (cr_sum rfl) rel_sum (by rfl) b_sum (by decide +kernel) (da_cons (de_lc (own := [("one", 5)]) false rfl sc_law_source.nd (di_seq (de_slice false (de_var 0) do_none (do_some de_int))) (blkOk_by (own := [("one", 5)]) (N := N_law_source) (sc := defScope s_law_source) (by decide +kernel)) (relg_name 5) (fun _ _ _ _ _ => (pg_name (i := 5) sc_law_source.nd rfl (by first | exact Or.inl rfl | exact Or.inr rfl))) (fun _ _ _ _ _ => dps_nil) (fun _ _ _ _ _ => (de_mod (de_callTy call_intAll rel_int (by rfl) b_int (by decide +kernel) (da_cons (de_var 5) da_nil)) de_int))) da_nil))) de_int))) (dss_cons (ds_set (i := 3) sc_law_source.nd (de_mod (de_callB call_abs rel_abs (by rfl) b_abs (by decide +kernel) (da_cons (de_var 2) da_nil)) (de_mul false (de_pow de_int de_int) (de_pow de_int de_int)))) (dss_cons (ds_set (i := 4) sc_law_source.nd (de_mod (de_callTy call_intAll rel_int (by rfl) b_int (by decide +kernel) (da_cons (de_add false (de_add false (de_add false (de_mul false de_int (de_var 3)) (de_ifx (dt_lt (de_var 2) de_int) de_int de_int)) (de_mul false (de_var 1) de_int)) de_int) da_nil)) de_int)) (dss_one (ds_ret (de_lst true (da_cons (de_ifx (dt_ge (de_var 3) (de_pow de_int de_int)) (de_var 3) de_int) (da_cons (de_mod (de_callTy call_intAll rel_int (by rfl) b_int (by decide +kernel) (da_cons (de_mul false (de_add false (de_var 4) de_int) (de_add false (de_var 4) de_int)) da_nil)) de_int) (da_cons (de_var 1) da_nil)))))))))
theorem body_law_pick (b_int : mg "int" = none) (hr : Room k (A.deeper (envOfC "_law_pick" (defScope s_law_pick) s.heap.objs.size f cdv))) :
    DSs (cxOf CX0 P w K mg base N_law_pick "_law_pick" (defScope s_law_pick) f cdv A outer s H E).nox (defBody s_law_pick) t_law_pick :=
  (dss_cons (ds_if (dt_gt (de_idx (de_var 0) de_int) de_int) (dss_cons (ds_set (i := 2) sc_law_pick.nd (de_mod (de_callTy call_intAll rel_int (by rfl) b_int (by decide +kernel) (da_cons (de_idx (de_var 0) de_int) da_nil)) (de_var 1))) (dss_cons (ds_setIx (de_var 0) de_int (de_fdiv (de_idx (de_var 0) de_int) (de_var 1))) (dss_one (ds_ret (de_var 2))))) dss_nil) (dss_cons (ds_augIx pip_add rel_iadd (de_var 0) de_int de_int) (dss_cons (ds_setIx (de_var 0) de_int (de_mod (de_callTy call_intAll rel_int (by rfl) b_int (by decide +kernel) (da_cons (de_add false (de_mul false (de_idx (de_var 0) de_int) de_int) (de_mul false (de_idx (de_var 0) de_int) de_int)) da_nil)) de_int)) (dss_one (ds_ret (de_mod (de_fdiv (de_mod (de_callTy call_intAll rel_int (by rfl) b_int (by decide +kernel) (da_cons (de_add false (de_mul false (de_idx (de_var 0) de_int) de_int) (de_mul false (de_idx (de_var 0) de_int) de_int)) da_nil)) de_int) de_int) (de_var 1)))))))
theorem body_law_same (n : Nat) (C_law_same : Cal P w K mg base k "_law_same" ["answer", "due"] (spS n)) (b_bool : mg "bool" = none) (b_isinstance : mg "isinstance" = none) (b_int : mg "int" = none) (b_str : mg "str" = none) (b_tuple : mg "tuple" = none) (b_list : mg "list" = none) (b_len : mg "len" = none) (b_range : mg "range" = none) (b_all : mg "all" = none) (hr : Room k (A.deeper (envOfC "_law_same" (defScope s_law_same) s.heap.objs.size f cdv))) :
    DSs (cxOf CX0 P w K mg base N_law_same "_law_same" (defScope s_law_same) f cdv A outer s H E).nox (defBody s_law_same) (t_law_same n) :=
  (dss_cons (ds_if (PW.pt (dw_or (dt_isN (de_var 1) de_non) (dw_or1 (dt_isN (de_var 0) de_non)))) (dss_one (ds_ret (de_and (de_isN (de_var 1) de_non) (de_one (de_isN (de_var 0) de_non))))) dss_nil) (dss_cons (ds_if (PW.pt (dw_or (dt_tru (de_callB call_isi rel_isi (by rfl) b_isinstance (by decide +kernel) (da_cons (de_var 1) (da_cons (de_ty "bool" (by rfl) b_bool (by decide +kernel)) da_nil)))) (dw_or1 (dt_tru (de_callB call_isi rel_isi (by rfl) b_isinstance (by decide +kernel) (da_cons (de_var 0) (da_cons (de_ty "bool" (by rfl) b_bool (by decide +kernel)) da_nil))))))) (dss_one (ds_ret (de_and (de_callB call_isi rel_isi (by rfl) b_isinstance (by decide +kernel) (da_cons (de_var 1) (da_cons (de_ty "bool" (by rfl) b_bool (by decide +kernel)) da_nil))) (de_and (de_callB call_isi rel_isi (by rfl) b_isinstance (by decide +kernel) (da_cons (de_var 0) (da_cons (de_ty "bool" (by rfl) b_bool (by decide +kernel)) da_nil))) (de_one (de_eq hr.units (de_var 0) (de_var 1))))))) dss_nil) (dss_cons (ds_if (dt_tru (de_callB call_isi rel_isi (by rfl) b_isinstance (by decide +kernel) (da_cons (de_var 1) (da_cons (de_ty "int" (by rfl) b_int (by decide +kernel)) da_nil)))) (dss_one (ds_ret (de_and (de_callB call_isi rel_isi (by rfl) b_isinstance (by decide +kernel) (da_cons (de_var 0) (da_cons (de_ty "int" (by rfl) b_int (by decide +kernel)) da_nil))) (de_one (de_eq hr.units (de_var 0) (de_var 1)))))) dss_nil) (dss_cons (ds_if (dt_tru (de_callB call_isi rel_isi (by rfl) b_isinstance (by decide +kernel) (da_cons (de_var 1) (da_cons (de_ty "str" (by rfl) b_str (by decide +kernel)) da_nil)))) (dss_one (ds_ret (de_and (de_callB call_isi rel_isi (by rfl) b_isinstance (by decide +kernel) (da_cons (de_var 0) (da_cons (de_ty "str" (by rfl) b_str (by decide +kernel)) da_nil))) (de_one (de_eq hr.units (de_var 0) (de_var 1)))))) dss_nil) (dss_cons (ds_if (PW.pt (dw_and (dt_tru (de_callB call_isi rel_isi (by rfl) b_isinstance (by decide +kernel) (da_cons (de_var 1) (da_cons (de_ty "tuple" (by rfl) b_tuple (by decide +kernel)) da_nil)))) (dw_and1 (dt_not (dt_tru (de_callB call_isi rel_isi (by rfl) b_isinstance (by decide +kernel) (da_cons (de_var 0) (da_cons (de_ty "tuple" (by rfl) b_tuple (by decide +kernel)) da_nil)))))))) (dss_one (ds_ret de_bl)) dss_nil) (dss_cons (ds_if (PW.pt (dw_and (dt_tru (de_callB call_isi rel_isi (by rfl) b_isinstance (by decide +kernel) (da_cons (de_var 1) (da_cons (de_ty "list" (by rfl) b_list (by decide +kernel)) da_nil)))) (dw_and1 (dt_not (dt_tru (de_callB call_isi rel_isi (by rfl) b_isinstance (by decide +kernel) (da_cons (de_var 0) (da_cons (de_ty "list" (by rfl) b_list (by decide +kernel)) da_nil)))))))) (dss_one (ds_ret de_bl)) dss_nil) (dss_cons (ds_if (dt_ne hr.units (de_callB call_len rel_len (by rfl) b_len (by decide +kernel) (da_cons (de_var 0) da_nil)) (de_callB call_len rel_len (by rfl) b_len (by decide +kernel) (da_cons (de_var 1) da_nil))) (dss_one (ds_ret de_bl)) dss_nil) (dss_one (ds_ret (de_callB (cr_all rfl) rel_all (by rfl) b_all (by decide +kernel) (da_cons (de_lc (own := [("at", 2)]) false rfl sc_law_same.nd (di_r1 (by rfl) b_range (da_cons (de_callB call_len rel_len (by rfl) b_len (by decide +kernel) (da_cons (de_var 1) da_nil)) da_nil)) (blkOk_by (own := [("at", 2)]) (N := N_law_same) (sc := defScope s_law_same) (by decide +kernel)) (relg_name 2) (fun _ _ _ _ _ => (pg_name (i := 2) sc_law_same.nd rfl (by first | exact Or.inl rfl | exact Or.inr rfl))) (fun _ _ _ _ _ => dps_nil) (fun _ _ _ _ _ => (de_cal C_law_same hr (da_cons (de_idx (de_var 0) (de_var 2)) (da_cons (de_idx (de_var 1) (de_var 2)) da_nil))))) da_nil)))))))))))
theorem body_law_power (b_range : mg "range" = none) (hr : Room k (A.deeper (envOfC "_law_power" (defScope s_law_power) s.heap.objs.size f cdv))) :
    DSs (cxOf CX0 P w K mg base N_law_power "_law_power" (defScope s_law_power) f cdv A outer s H E).nox (defBody s_law_power) t_law_power :=
  (dss_cons (ds_set (i := 2) sc_law_power.nd de_int) (dss_cons (ds_for (vs := [3]) PassesOwn.never rfl (di_r1 (by rfl) b_range (da_cons (de_var 1) da_nil)) (pg_name (i := 3) sc_law_power.nd rfl (by first | exact Or.inl rfl | exact Or.inr rfl)) (relg_name 3) (dss_one (ds_set (i := 2) sc_law_power.nd (de_mul false (de_var 2) (de_var 0))))) (dss_one (ds_ret (de_var 2)))))
theorem body_law_common (b_abs : mg "abs" = none) (hr : Room k (A.deeper (envOfC "_law_common" (defScope s_law_common) s.heap.objs.size f cdv))) :
    DSs (cxOf CX0 P w K mg base N_law_common "_law_common" (defScope s_law_common) f cdv A outer s H E).nox (defBody s_law_common) t_law_common :=
  (dss_cons (ds_while PassesOwn.never (dt_ne hr.units (de_var 1) de_int) (dss_cons (ds_set (i := 2) sc_law_common.nd (de_sub (de_var 0) (de_mul false (de_fdiv (de_var 0) (de_var 1)) (de_var 1)))) (dss_cons (ds_set (i := 0) sc_law_common.nd (de_var 1)) (dss_one (ds_set (i := 1) sc_law_common.nd (de_var 2)))))) (dss_one (ds_ret (de_callB call_abs rel_abs (by rfl) b_abs (by decide +kernel) (da_cons (de_var 0) da_nil)))))
theorem body_law_ratio (C_law_common : Cal P w K mg base k "_law_common" ["a", "b"] sp_law_common) (hr : Room k (A.deeper (envOfC "_law_ratio" (defScope s_law_ratio) s.heap.objs.size f cdv))) :
    DSs (cxOf CX0 P w K mg base N_law_ratio "_law_ratio" (defScope s_law_ratio) f cdv A outer s H E).nox (defBody s_law_ratio) t_law_ratio :=
  (dss_cons (ds_set (i := 2) sc_law_ratio.nd (de_cal C_law_common hr (da_cons (de_var 0) (da_cons (de_var 1) da_nil)))) (dss_cons (ds_if (dt_lt (de_var 1) de_int) (dss_one (ds_set (i := 2) sc_law_ratio.nd (de_neg (de_var 2)))) dss_nil) (dss_one (ds_ret (de_tup (da_cons (de_fdiv (de_var 0) (de_var 2)) (da_cons (de_fdiv (de_var 1) (de_var 2)) da_nil)))))))
theorem body_law_isqrt  (hr : Room k (A.deeper (envOfC "_law_isqrt" (defScope s_law_isqrt) s.heap.objs.size f cdv))) :
    DSs (cxOf CX0 P w K mg base N_law_isqrt "_law_isqrt" (defScope s_law_isqrt) f cdv A outer s H E).nox (defBody s_law_isqrt) t_law_isqrt :=
  (dss_cons (ds_if (dt_lt (de_var 0) de_int) (dss_one (ds_ret (de_var 0))) dss_nil) (dss_cons (ds_set (i := 1) sc_law_isqrt.nd (de_shl de_int (de_fdiv (de_add false (de_bits (de_var 0)) de_int) de_int))) (dss_cons (ds_set (i := 2) sc_law_isqrt.nd (de_fdiv (de_add false (de_var 1) (de_fdiv (de_var 0) (de_var 1))) de_int)) (dss_cons (ds_while PassesOwn.never (dt_lt (de_var 2) (de_var 1)) (dss_cons (ds_set (i := 1) sc_law_isqrt.nd (de_var 2)) (dss_one (ds_set (i := 2) sc_law_isqrt.nd (de_fdiv (de_add false (de_var 1) (de_fdiv (de_var 0) (de_var 1))) de_int))))) (dss_one (ds_ret (de_var 1)))))))
theorem body_law_surd (C_law_isqrt : Cal P w K mg base k "_law_isqrt" ["n"] sp_law_isqrt) (C_law_common : Cal P w K mg base k "_law_common" ["a", "b"] sp_law_common) (hr : Room k (A.deeper (envOfC "_law_surd" (defScope s_law_surd) s.heap.objs.size f cdv))) :
    DSs (cxOf CX0 P w K mg base N_law_surd "_law_surd" (defScope s_law_surd) f cdv A outer s H E).nox (defBody s_law_surd) t_law_surd :=
  (dss_cons (ds_set (i := 4) sc_law_surd.nd (de_cal C_law_isqrt hr (da_cons (de_var 2) da_nil))) (dss_cons (ds_if (dt_eq hr.units (de_mul false (de_var 4) (de_var 4)) (de_var 2)) (dss_cons (ds_set (i := 0) sc_law_surd.nd (de_add false (de_var 0) (de_mul false (de_var 1) (de_var 4)))) (dss_one (ds_set (i := 1) sc_law_surd.nd de_int))) dss_nil) (dss_cons (ds_if (dt_eq hr.units (de_var 1) de_int) (dss_one (ds_set (i := 2) sc_law_surd.nd de_int)) dss_nil) (dss_cons (ds_set (i := 5) sc_law_surd.nd (de_cal C_law_common hr (da_cons (de_cal C_law_common hr (da_cons (de_var 0) (da_cons (de_var 1) da_nil))) (da_cons (de_var 3) da_nil)))) (dss_cons (ds_if (dt_lt (de_var 3) de_int) (dss_one (ds_set (i := 5) sc_law_surd.nd (de_neg (de_var 5)))) dss_nil) (dss_one (ds_ret (de_tup (da_cons (de_fdiv (de_var 0) (de_var 5)) (da_cons (de_fdiv (de_var 1) (de_var 5)) (da_cons (de_var 2) (da_cons (de_fdiv (de_var 3) (de_var 5)) da_nil))))))))))))
theorem body_law_sign  (hr : Room k (A.deeper (envOfC "_law_sign" (defScope s_law_sign) s.heap.objs.size f cdv))) :
    DSs (cxOf CX0 P w K mg base N_law_sign "_law_sign" (defScope s_law_sign) f cdv A outer s H E).nox (defBody s_law_sign) t_law_sign :=
  (dss_one (ds_ret (de_ifx (dt_gt (de_var 0) de_int) de_int (de_ifx (dt_lt (de_var 0) de_int) (de_neg de_int) de_int))))
theorem body_law_sign_two (C_law_sign : Cal P w K mg base k "_law_sign" ["n"] sp_law_sign) (hr : Room k (A.deeper (envOfC "_law_sign_two" (defScope s_law_sign_two) s.heap.objs.size f cdv))) :
    DSs (cxOf CX0 P w K mg base N_law_sign_two "_law_sign_two" (defScope s_law_sign_two) f cdv A outer s H E).nox (defBody s_law_sign_two) t_law_sign_two :=
  (dss_cons (ds_if (PW.pt (dw_or (dt_eq hr.units (de_var 1) de_int) (dw_or1 (dt_eq hr.units (de_var 2) de_int)))) (dss_one (ds_ret (de_cal C_law_sign hr (da_cons (de_var 0) da_nil)))) dss_nil) (dss_cons (ds_if (PW.pt (dw_or (dt_eq hr.units (de_var 0) de_int) (dw_or1 (dt_eq hr.units (de_gt (de_var 0) de_int) (de_gt (de_var 1) de_int))))) (dss_one (ds_ret (de_cal C_law_sign hr (da_cons (de_var 1) da_nil)))) dss_nil) (dss_one (ds_ret (de_mul false (de_cal C_law_sign hr (da_cons (de_var 0) da_nil)) (de_cal C_law_sign hr (da_cons (de_sub (de_mul false (de_var 0) (de_var 0)) (de_mul false (de_mul false (de_var 1) (de_var 1)) (de_var 2))) da_nil)))))))
theorem body_law_sign_three (C_law_sign_two : Cal P w K mg base k "_law_sign_two" ["a", "b", "c"] sp_law_sign_two) (C_law_sign : Cal P w K mg base k "_law_sign" ["n"] sp_law_sign) (hr : Room k (A.deeper (envOfC "_law_sign_three" (defScope s_law_sign_three) s.heap.objs.size f cdv))) :
    DSs (cxOf CX0 P w K mg base N_law_sign_three "_law_sign_three" (defScope s_law_sign_three) f cdv A outer s H E).nox (defBody s_law_sign_three) t_law_sign_three :=
  (dss_cons (ds_set (i := 5) sc_law_sign_three.nd (de_cal C_law_sign_two hr (da_cons (de_var 0) (da_cons (de_var 1) (da_cons (de_var 2) da_nil))))) (dss_cons (ds_set (i := 6) sc_law_sign_three.nd (de_ifx (dt_gt (de_var 4) de_int) (de_cal C_law_sign hr (da_cons (de_var 3) da_nil)) de_int)) (dss_cons (ds_if (PW.pt (dw_or (dt_eq hr.units (de_var 5) de_int) (dw_or (dt_eq hr.units (de_var 6) de_int) (dw_or1 (dt_eq hr.units (de_var 5) (de_var 6)))))) (dss_one (ds_ret (de_ifx (dt_ne hr.units (de_var 5) de_int) (de_var 5) (de_var 6)))) dss_nil) (dss_one (ds_ret (de_mul false (de_var 5) (de_cal C_law_sign_two hr (da_cons (de_sub (de_add false (de_mul false (de_var 0) (de_var 0)) (de_mul false (de_mul false (de_var 1) (de_var 1)) (de_var 2))) (de_mul false (de_mul false (de_var 3) (de_var 3)) (de_var 4))) (da_cons (de_mul false (de_mul false de_int (de_var 0)) (de_var 1)) (da_cons (de_var 2) da_nil))))))))))
theorem body_law_surd_order (C_law_sign_three : Cal P w K mg base k "_law_sign_three" ["a", "b", "c", "d", "e"] sp_law_sign_three) (hr : Room k (A.deeper (envOfC "_law_surd_order" (defScope s_law_surd_order) s.heap.objs.size f cdv))) :
    DSs (cxOf CX0 P w K mg base N_law_surd_order "_law_surd_order" (defScope s_law_surd_order) f cdv A outer s H E).nox (defBody s_law_surd_order) t_law_surd_order :=
  (dss_one (ds_ret (de_cal C_law_sign_three hr (da_cons (de_sub (de_mul false (de_idx (de_var 0) de_int) (de_idx (de_var 1) de_int)) (de_mul false (de_idx (de_var 1) de_int) (de_idx (de_var 0) de_int))) (da_cons (de_mul false (de_idx (de_var 0) de_int) (de_idx (de_var 1) de_int)) (da_cons (de_idx (de_var 0) de_int) (da_cons (de_mul false (de_neg (de_idx (de_var 1) de_int)) (de_idx (de_var 0) de_int)) (da_cons (de_idx (de_var 1) de_int) da_nil))))))))
theorem body_law_surd_floor (C_law_isqrt : Cal P w K mg base k "_law_isqrt" ["n"] sp_law_isqrt) (hr : Room k (A.deeper (envOfC "_law_surd_floor" (defScope s_law_surd_floor) s.heap.objs.size f cdv))) :
    DSs (cxOf CX0 P w K mg base N_law_surd_floor "_law_surd_floor" (defScope s_law_surd_floor) f cdv A outer s H E).nox (defBody s_law_surd_floor) t_law_surd_floor :=
  (dss_cons (ds_if (dt_eq hr.units (de_idx (de_var 0) de_int) de_int) (dss_one (ds_ret (de_fdiv (de_mul false (de_idx (de_var 0) de_int) (de_var 1)) (de_idx (de_var 0) de_int)))) dss_nil) (dss_cons (ds_set (i := 2) sc_law_surd_floor.nd (de_cal C_law_isqrt hr (da_cons (de_mul false (de_mul false (de_mul false (de_mul false (de_idx (de_var 0) de_int) (de_idx (de_var 0) de_int)) (de_idx (de_var 0) de_int)) (de_var 1)) (de_var 1)) da_nil))) (dss_one (ds_ret (de_ifx (dt_gt (de_idx (de_var 0) de_int) de_int) (de_fdiv (de_add false (de_mul false (de_idx (de_var 0) de_int) (de_var 1)) (de_var 2)) (de_idx (de_var 0) de_int)) (de_fdiv (de_sub (de_sub (de_mul false (de_idx (de_var 0) de_int) (de_var 1)) (de_var 2)) de_int) (de_idx (de_var 0) de_int)))))))
theorem body_law_surd_key (C_law_common : Cal P w K mg base k "_law_common" ["a", "b"] sp_law_common) (b_tuple : mg "tuple" = none) (hr : Room k (A.deeper (envOfC "_law_surd_key" (defScope s_law_surd_key) s.heap.objs.size f cdv))) :
    DSs (cxOf CX0 P w K mg base N_law_surd_key "_law_surd_key" (defScope s_law_surd_key) f cdv A outer s H E).nox (defBody s_law_surd_key) t_law_surd_key :=
  (dss_cons (ds_if (dt_eq hr.units (de_idx (de_var 0) de_int) de_int) (dss_one (ds_ret (de_tup (da_cons (de_tup (da_cons (de_neg (de_idx (de_var 0) de_int)) (da_cons (de_idx (de_var 0) de_int) da_nil))) (da_cons de_int da_nil))))) dss_nil) (dss_cons (ds_set (i := 1) sc_law_surd_key.nd (de_lst false (da_cons (de_sub (de_mul false (de_idx (de_var 0) de_int) (de_idx (de_var 0) de_int)) (de_mul false (de_mul false (de_idx (de_var 0) de_int) (de_idx (de_var 0) de_int)) (de_idx (de_var 0) de_int))) (da_cons (de_mul false (de_mul false (de_neg de_int) (de_idx (de_var 0) de_int)) (de_idx (de_var 0) de_int)) (da_cons (de_mul false (de_idx (de_var 0) de_int) (de_idx (de_var 0) de_int)) da_nil))))) (dss_cons (ds_set (i := 2) sc_law_surd_key.nd (de_cal C_law_common hr (da_cons (de_cal C_law_common hr (da_cons (de_idx (de_var 1) de_int) (da_cons (de_idx (de_var 1) de_int) da_nil))) (da_cons (de_idx (de_var 1) de_int) da_nil)))) (dss_one (ds_ret (de_tup (da_cons (de_callTy call_tuple_of rel_tupOf (by rfl) b_tuple (by decide +kernel) (da_cons (de_lc (own := [("one", 3)]) false rfl sc_law_surd_key.nd (di_seq (de_var 1)) (blkOk_by (own := [("one", 3)]) (N := N_law_surd_key) (sc := defScope s_law_surd_key) (by decide +kernel)) (relg_name 3) (fun _ _ _ _ _ => (pg_name (i := 3) sc_law_surd_key.nd rfl (by first | exact Or.inl rfl | exact Or.inr rfl))) (fun _ _ _ _ _ => dps_nil) (fun _ _ _ _ _ => (de_fdiv (de_var 3) (de_var 2)))) da_nil)) (da_cons (de_ifx (dt_gt (de_idx (de_var 0) de_int) de_int) de_int de_int) da_nil))))))))
theorem body_law_wide (C_law_pick : Cal P w K mg base k "_law_pick" ["source", "many"] sp_law_pick) (hr : Room k (A.deeper (envOfC "_law_wide" (defScope s_law_wide) s.heap.objs.size f cdv))) :
    DSs (cxOf CX0 P w K mg base N_law_wide "_law_wide" (defScope s_law_wide) f cdv A outer s H E).nox (defBody s_law_wide) t_law_wide :=
  (dss_cons (ds_if (dt_eq hr.units (de_cal C_law_pick hr (da_cons (de_var 0) (da_cons de_int da_nil))) de_int) (dss_one (ds_ret (de_sub (de_cal C_law_pick hr (da_cons (de_var 0) (da_cons (de_add false (de_mul false de_int (de_var 2)) de_int) da_nil))) (de_var 2)))) dss_nil) (dss_one (ds_ret (de_sub (de_cal C_law_pick hr (da_cons (de_var 0) (da_cons (de_add false (de_mul false de_int (de_var 1)) de_int) da_nil))) (de_var 1)))))
theorem body_law_drawn_surd (C_law_pick : Cal P w K mg base k "_law_pick" ["source", "many"] sp_law_pick) (C_law_wide : Cal P w K mg base k "_law_wide" ["source", "small", "great"] sp_law_wide) (C_law_surd : Cal P w K mg base k "_law_surd" ["a", "b", "c", "d"] sp_law_surd) (hr : Room k (A.deeper (envOfC "_law_drawn_surd" (defScope s_law_drawn_surd) s.heap.objs.size f cdv))) :
    DSs (cxOf CX0 P w K mg base N_law_drawn_surd "_law_drawn_surd" (defScope s_law_drawn_surd) f cdv A outer s H E).nox (defBody s_law_drawn_surd) t_law_drawn_surd :=
  (dss_cons (ds_set (i := 3) sc_law_drawn_surd.nd (de_add false de_int (de_cal C_law_pick hr (da_cons (de_var 0) (da_cons de_int da_nil))))) (dss_cons (ds_set (i := 4) sc_law_drawn_surd.nd (de_cal C_law_wide hr (da_cons (de_var 0) (da_cons de_int (da_cons (de_var 2) da_nil))))) (dss_cons (ds_set (i := 5) sc_law_drawn_surd.nd (de_ifx (dt_lt (de_cal C_law_pick hr (da_cons (de_var 0) (da_cons de_int da_nil))) (de_var 1)) de_int (de_idx (de_lst false (da_cons de_int (da_cons (de_neg de_int) (da_cons de_int (da_cons (de_neg de_int) (da_cons de_int da_nil)))))) (de_cal C_law_pick hr (da_cons (de_var 0) (da_cons de_int da_nil)))))) (dss_one (ds_ret (de_cal C_law_surd hr (da_cons (de_var 4) (da_cons (de_var 5) (da_cons (de_add false de_int (de_cal C_law_pick hr (da_cons (de_var 0) (da_cons de_int da_nil)))) (da_cons (de_var 3) da_nil))))))))))
theorem body_law_radical (C_law_pick : Cal P w K mg base k "_law_pick" ["source", "many"] sp_law_pick) (hr : Room k (A.deeper (envOfC "_law_radical" (defScope s_law_radical) s.heap.objs.size f cdv))) :
    DSs (cxOf CX0 P w K mg base N_law_radical "_law_radical" (defScope s_law_radical) f cdv A outer s H E).nox (defBody s_law_radical) t_law_radical :=
  (dss_cons (ds_set (i := 1) sc_law_radical.nd (de_idx (de_lst false (da_cons de_int (da_cons de_int (da_cons de_int (da_cons de_int da_nil))))) (de_cal C_law_pick hr (da_cons (de_var 0) (da_cons de_int da_nil))))) (dss_cons (ds_set (i := 2) sc_law_radical.nd (de_idx (de_lst false (da_cons de_int (da_cons de_int (da_cons de_int da_nil)))) (de_cal C_law_pick hr (da_cons (de_var 0) (da_cons de_int da_nil))))) (dss_cons (ds_set (i := 3) sc_law_radical.nd (de_tup (da_cons (de_mul false (de_var 1) (de_idx (de_lst false (da_cons de_int (da_cons de_int (da_cons de_int da_nil)))) (de_cal C_law_pick hr (da_cons (de_var 0) (da_cons de_int da_nil))))) (da_cons (de_idx (de_lst false (da_cons de_int (da_cons de_int (da_cons de_int (da_cons de_int da_nil))))) (de_cal C_law_pick hr (da_cons (de_var 0) (da_cons de_int da_nil)))) da_nil)))) (dss_cons (ds_set (i := 4) sc_law_radical.nd (de_sub de_int (de_mul false de_int (de_cal C_law_pick hr (da_cons (de_var 0) (da_cons de_int da_nil)))))) (dss_one (ds_ret (de_tup (da_cons (de_str [112, 111, 119, 101, 114]) (da_cons (de_tup (da_cons (de_add false (de_add false (de_tup (da_cons (de_mul false (de_neg (de_var 4)) (de_idx (de_var 3) de_int)) da_nil)) (de_mulT (de_tup (da_cons de_int da_nil)) (de_sub (de_var 2) de_int))) (de_tup (da_cons (de_idx (de_var 3) de_int) da_nil))) (da_cons de_int da_nil))) (da_cons (de_var 2) (da_cons (de_var 3) (da_cons (de_var 4) da_nil))))))))))))
theorem body_law_root_floor (C_law_power : Cal P w K mg base k "_law_power" ["base", "many"] sp_law_power) (hr : Room k (A.deeper (envOfC "_law_root_floor" (defScope s_law_root_floor) s.heap.objs.size f cdv))) :
    DSs (cxOf CX0 P w K mg base N_law_root_floor "_law_root_floor" (defScope s_law_root_floor) f cdv A outer s H E).nox (defBody s_law_root_floor) t_law_root_floor :=
  (dss_cons (ds_set (i := 2) sc_law_root_floor.nd de_int) (dss_cons (ds_set (i := 3) sc_law_root_floor.nd (de_mul false (de_var 1) (de_add false (de_idx (de_idx (de_var 0) de_int) de_int) de_int))) (dss_cons (ds_while PassesOwn.never (dt_gt (de_sub (de_var 3) (de_var 2)) de_int) (dss_cons (ds_set (i := 4) sc_law_root_floor.nd (de_fdiv (de_add false (de_var 2) (de_var 3)) de_int)) (dss_one (ds_if (dt_le (de_mul false (de_cal C_law_power hr (da_cons (de_var 4) (da_cons (de_idx (de_var 0) de_int) da_nil))) (de_idx (de_idx (de_var 0) de_int) de_int)) (de_mul false (de_idx (de_idx (de_var 0) de_int) de_int) (de_cal C_law_power hr (da_cons (de_var 1) (da_cons (de_idx (de_var 0) de_int) da_nil))))) (dss_one (ds_set (i := 2) sc_law_root_floor.nd (de_var 4))) (dss_one (ds_set (i := 3) sc_law_root_floor.nd (de_var 4))))))) (dss_one (ds_ret (de_var 2))))))
theorem body_law_thing (C_law_pick : Cal P w K mg base k "_law_pick" ["source", "many"] sp_law_pick) (C_law_radical : Cal P w K mg base k "_law_radical" ["source"] sp_law_radical) (C_law_drawn_surd : Cal P w K mg base k "_law_drawn_surd" ["source", "roots", "great"] sp_law_drawn_surd) (hr : Room k (A.deeper (envOfC "_law_thing" (defScope s_law_thing) s.heap.objs.size f cdv))) :
    DSs (cxOf CX0 P w K mg base N_law_thing "_law_thing" (defScope s_law_thing) f cdv A outer s H E).nox (defBody s_law_thing) t_law_thing :=
  (dss_cons (ds_if (dt_eq hr.units (de_cal C_law_pick hr (da_cons (de_var 0) (da_cons de_int da_nil))) de_int) (dss_one (ds_ret (de_cal C_law_radical hr (da_cons (de_var 0) da_nil)))) dss_nil) (dss_one (ds_ret (de_tup (da_cons (de_str [115, 117, 114, 100]) (da_cons (de_cal C_law_drawn_surd hr (da_cons (de_var 0) (da_cons de_int (da_cons (de_pow de_int de_int) da_nil)))) da_nil))))))
theorem body_law_thing_floor (C_law_surd_floor : Cal P w K mg base k "_law_surd_floor" ["x", "n"] sp_law_surd_floor) (C_law_root_floor : Cal P w K mg base k "_law_root_floor" ["one", "n"] sp_law_root_floor) (hr : Room k (A.deeper (envOfC "_law_thing_floor" (defScope s_law_thing_floor) s.heap.objs.size f cdv))) :
    DSs (cxOf CX0 P w K mg base N_law_thing_floor "_law_thing_floor" (defScope s_law_thing_floor) f cdv A outer s H E).nox (defBody s_law_thing_floor) t_law_thing_floor :=
  (dss_cons (ds_if (dt_eq hr.units (de_idx (de_var 0) de_int) (de_str [115, 117, 114, 100])) (dss_one (ds_ret (de_cal C_law_surd_floor hr (da_cons (de_idx (de_var 0) de_int) (da_cons (de_var 1) da_nil))))) dss_nil) (dss_cons (ds_set (i := 2) sc_law_thing_floor.nd (de_cal C_law_root_floor hr (da_cons (de_var 0) (da_cons (de_var 1) da_nil)))) (dss_one (ds_ret (de_ifx (dt_gt (de_idx (de_var 0) de_int) de_int) (de_var 2) (de_sub (de_neg (de_var 2)) de_int))))))
theorem body_law_key_of (C_law_surd_key : Cal P w K mg base k "_law_surd_key" ["x"] sp_law_surd_key) (hr : Room k (A.deeper (envOfC "_law_key_of" (defScope s_law_key_of) s.heap.objs.size f cdv))) :
    DSs (cxOf CX0 P w K mg base N_law_key_of "_law_key_of" (defScope s_law_key_of) f cdv A outer s H E).nox (defBody s_law_key_of) t_law_key_of :=
  (dss_one (ds_ret (de_ifx (dt_eq hr.units (de_idx (de_var 0) de_int) (de_str [115, 117, 114, 100])) (de_cal C_law_surd_key hr (da_cons (de_idx (de_var 0) de_int) da_nil)) (de_idx (de_var 0) de_int))))
theorem body_law_against (C_law_surd_order : Cal P w K mg base k "_law_surd_order" ["x", "y"] sp_law_surd_order) (C_law_power : Cal P w K mg base k "_law_power" ["base", "many"] sp_law_power) (C_law_sign : Cal P w K mg base k "_law_sign" ["n"] sp_law_sign) (b_abs : mg "abs" = none) (hr : Room k (A.deeper (envOfC "_law_against" (defScope s_law_against) s.heap.objs.size f cdv))) :
    DSs (cxOf CX0 P w K mg base N_law_against "_law_against" (defScope s_law_against) f cdv A outer s H E).nox (defBody s_law_against) t_law_against :=
  (dss_cons (ds_if (dt_eq hr.units (de_idx (de_var 0) de_int) (de_str [115, 117, 114, 100])) (dss_one (ds_ret (de_cal C_law_surd_order hr (da_cons (de_idx (de_var 0) de_int) (da_cons (de_tup (da_cons (de_idx (de_var 1) de_int) (da_cons de_int (da_cons de_int (da_cons (de_idx (de_var 1) de_int) da_nil))))) da_nil))))) dss_nil) (dss_cons (ds_if (dt_le (de_mul false (de_idx (de_var 0) de_int) (de_idx (de_var 1) de_int)) de_int) (dss_one (ds_ret (de_idx (de_var 0) de_int))) dss_nil) (dss_cons (ds_set (i := 2) sc_law_against.nd (de_callB call_abs rel_abs (by rfl) b_abs (by decide +kernel) (da_cons (de_idx (de_var 1) de_int) da_nil))) (dss_cons (ds_set (i := 3) sc_law_against.nd (de_mul false (de_idx (de_idx (de_var 0) de_int) de_int) (de_cal C_law_power hr (da_cons (de_idx (de_var 1) de_int) (da_cons (de_idx (de_var 0) de_int) da_nil))))) (dss_one (ds_ret (de_mul false (de_idx (de_var 0) de_int) (de_cal C_law_sign hr (da_cons (de_sub (de_var 3) (de_mul false (de_cal C_law_power hr (da_cons (de_var 2) (da_cons (de_idx (de_var 0) de_int) da_nil))) (de_idx (de_idx (de_var 0) de_int) de_int))) da_nil)))))))))
theorem body_law_is_fraction (C_law_common : Cal P w K mg base k "_law_common" ["a", "b"] sp_law_common) (b_tuple : mg "tuple" = none) (b_isinstance : mg "isinstance" = none) (b_len : mg "len" = none) (b_int : mg "int" = none) (b_bool : mg "bool" = none) (hr : Room k (A.deeper (envOfC "_law_is_fraction" (defScope s_law_is_fraction) s.heap.objs.size f cdv))) :
    DSs (cxOf CX0 P w K mg base N_law_is_fraction "_law_is_fraction" (defScope s_law_is_fraction) f cdv A outer s H E).nox (defBody s_law_is_fraction) t_law_is_fraction :=
  (dss_cons (ds_if (PW.pt (dw_or (dt_not (dt_tru (de_callB call_isi rel_isi (by rfl) b_isinstance (by decide +kernel) (da_cons (de_var 0) (da_cons (de_ty "tuple" (by rfl) b_tuple (by decide +kernel)) da_nil))))) (dw_or1 (dt_ne hr.units (de_callB call_len rel_len (by rfl) b_len (by decide +kernel) (da_cons (de_var 0) da_nil)) de_int)))) (dss_one (ds_ret de_bl)) dss_nil) (dss_cons (ds_for (vs := [1]) PassesOwn.never rfl (di_seq (de_var 0)) (pg_name (i := 1) sc_law_is_fraction.nd rfl (by first | exact Or.inl rfl | exact Or.inr rfl)) (relg_name 1) (dss_one (ds_if (PW.pt (dw_or (dt_not (dt_tru (de_callB call_isi rel_isi (by rfl) b_isinstance (by decide +kernel) (da_cons (de_var 1) (da_cons (de_ty "int" (by rfl) b_int (by decide +kernel)) da_nil))))) (dw_or1 (dt_tru (de_callB call_isi rel_isi (by rfl) b_isinstance (by decide +kernel) (da_cons (de_var 1) (da_cons (de_ty "bool" (by rfl) b_bool (by decide +kernel)) da_nil))))))) (dss_one (ds_ret de_bl)) dss_nil))) (dss_one (ds_ret (de_and (de_gt (de_idx (de_var 0) de_int) de_int) (de_one (de_eq hr.units (de_cal C_law_common hr (da_cons (de_idx (de_var 0) de_int) (da_cons (de_idx (de_var 0) de_int) da_nil))) de_int)))))))
theorem body_law_near (C_law_key_of : Cal P w K mg base k "_law_key_of" ["one"] sp_law_key_of) (C_near : Cal P w K mg base k "near" ["key", "width"] sp_near) (C_law_is_fraction : Cal P w K mg base k "_law_is_fraction" ["q"] sp_law_is_fraction) (C_law_same : Cal P w K mg base k "_law_same" ["answer", "due"] sp_law_same) (C_law_against : Cal P w K mg base k "_law_against" ["one", "q"] sp_law_against) (b_tuple : mg "tuple" = none) (b_isinstance : mg "isinstance" = none) (b_len : mg "len" = none) (hr : Room k (A.deeper (envOfC "_law_near" (defScope s_law_near) s.heap.objs.size f cdv))) :
    DSs (cxOf CX0 P w K mg base N_law_near "_law_near" (defScope s_law_near) f cdv A outer s H E).nox (defBody s_law_near) t_law_near :=
  (dss_cons (ds_set (i := 2) sc_law_near.nd (de_cal C_near hr (da_cons (de_cal C_law_key_of hr (da_cons (de_var 0) da_nil)) (da_cons (de_var 1) da_nil)))) (dss_cons (ds_if (PW.pt (dw_or (dt_not (dt_tru (de_callB call_isi rel_isi (by rfl) b_isinstance (by decide +kernel) (da_cons (de_var 2) (da_cons (de_ty "tuple" (by rfl) b_tuple (by decide +kernel)) da_nil))))) (dw_or (dt_ne hr.units (de_callB call_len rel_len (by rfl) b_len (by decide +kernel) (da_cons (de_var 2) da_nil)) de_int) (dw_or (dt_not (dt_tru (de_cal C_law_is_fraction hr (da_cons (de_idx (de_var 2) de_int) da_nil)))) (dw_or1 (dt_not (dt_tru (de_cal C_law_is_fraction hr (da_cons (de_idx (de_var 2) de_int) da_nil))))))))) (dss_one (ds_ret de_bl)) dss_nil) (dss_cons (ds_asg (vs := [3, 4]) (pg_tup rfl (pgs_cons (pg_name (i := 3) sc_law_near.nd rfl (by first | exact Or.inl rfl | exact Or.inr rfl)) (pgs_cons (pg_name (i := 4) sc_law_near.nd rfl (by first | exact Or.inl rfl | exact Or.inr rfl)) pgs_nil))) (relg_tup 2 rfl (relgs_cons (relg_name 3) (relgs_cons (relg_name 4) relgs_nil))) (de_var 2)) (dss_cons (ds_if (PW.pt (dw_and (dt_eq hr.units (de_idx (de_var 0) de_int) (de_str [115, 117, 114, 100])) (dw_and1 (dt_eq hr.units (de_idx (de_idx (de_var 0) de_int) de_int) de_int)))) (dss_one (ds_ret (de_cal C_law_same hr (da_cons (de_var 2) (da_cons (de_tup (da_cons (de_tup (da_cons (de_idx (de_idx (de_var 0) de_int) de_int) (da_cons (de_idx (de_idx (de_var 0) de_int) de_int) da_nil))) (da_cons (de_tup (da_cons (de_idx (de_idx (de_var 0) de_int) de_int) (da_cons (de_idx (de_idx (de_var 0) de_int) de_int) da_nil))) da_nil))) da_nil))))) dss_nil) (dss_cons (ds_if (PW.pt (dw_or (dt_lt (de_cal C_law_against hr (da_cons (de_var 0) (da_cons (de_var 3) da_nil))) de_int) (dw_or1 (dt_gt (de_cal C_law_against hr (da_cons (de_var 0) (da_cons (de_var 4) da_nil))) de_int)))) (dss_one (ds_ret de_bl)) dss_nil) (dss_one (ds_ret (de_le (de_mul false (de_sub (de_mul false (de_idx (de_var 4) de_int) (de_idx (de_var 3) de_int)) (de_mul false (de_idx (de_var 3) de_int) (de_idx (de_var 4) de_int))) (de_idx (de_var 1) de_int)) (de_mul false (de_mul false (de_idx (de_var 1) de_int) (de_idx (de_var 3) de_int)) (de_idx (de_var 4) de_int))))))))))
theorem body_law (C_law_source : Cal P w K mg base k "_law_source" ["script", "at"] sp_law_source) (C_law_thing : Cal P w K mg base k "_law_thing" ["source"] sp_law_thing) (C_law_key_of : Cal P w K mg base k "_law_key_of" ["one"] sp_law_key_of) (C_law_pick : Cal P w K mg base k "_law_pick" ["source", "many"] sp_law_pick) (C_head : Cal P w K mg base k "head" ["key", "base", "place"] sp_head) (C_law_power : Cal P w K mg base k "_law_power" ["base", "many"] sp_law_power) (C_law_thing_floor : Cal P w K mg base k "_law_thing_floor" ["one", "n"] sp_law_thing_floor) (C_law_same : Cal P w K mg base k "_law_same" ["answer", "due"] sp_law_same) (C_law_ratio : Cal P w K mg base k "_law_ratio" ["p", "q"] sp_law_ratio) (C_law_near : Cal P w K mg base k "_law_near" ["one", "width"] sp_law_near) (hr : Room k (A.deeper (envOfC "law" (defScope s_law) s.heap.objs.size f cdv))) :
    DSs (cxOf CX0 P w K mg base N_law "law" (defScope s_law) f cdv A outer s H E).nox (defBody s_law) t_law :=
  (dss_cons (ds_set (i := 1) sc_law.nd (de_cal C_law_source hr (da_cons (de_var 0) (da_cons de_int da_nil)))) (dss_cons (ds_set (i := 2) sc_law.nd (de_cal C_law_thing hr (da_cons (de_var 1) da_nil))) (dss_cons (ds_set (i := 3) sc_law.nd (de_cal C_law_key_of hr (da_cons (de_var 2) da_nil))) (dss_cons (ds_set (i := 4) sc_law.nd (de_add false de_int (de_cal C_law_pick hr (da_cons (de_var 1) (da_cons de_int da_nil))))) (dss_cons (ds_for (vs := [5]) PassesOwn.never rfl (di_seq (de_lst false (da_cons (de_cal C_law_pick hr (da_cons (de_var 1) (da_cons de_int da_nil))) (da_cons de_int (da_cons de_int da_nil))))) (pg_name (i := 5) sc_law.nd rfl (by first | exact Or.inl rfl | exact Or.inr rfl)) (relg_name 5) (dss_one (ds_if (dt_not (dt_tru (de_cal C_law_same hr (da_cons (de_cal C_head hr (da_cons (de_var 3) (da_cons (de_var 4) (da_cons (de_var 5) da_nil)))) (da_cons (de_cal C_law_thing_floor hr (da_cons (de_var 2) (da_cons (de_cal C_law_power hr (da_cons (de_var 4) (da_cons (de_var 5) da_nil))) da_nil))) da_nil))))) (dss_one (ds_ret de_bl)) dss_nil))) (dss_cons (ds_set (i := 6) sc_law.nd (de_cal C_law_ratio hr (da_cons (de_add false de_int (de_cal C_law_pick hr (da_cons (de_var 1) (da_cons de_int da_nil)))) (da_cons (de_idx (de_lst false (da_cons de_int (da_cons de_int (da_cons de_int (da_cons de_int (da_cons (de_pow de_int de_int) da_nil)))))) (de_cal C_law_pick hr (da_cons (de_var 1) (da_cons de_int da_nil)))) da_nil)))) (dss_cons (ds_set (i := 7) sc_law.nd (de_cal C_law_ratio hr (da_cons (de_add false de_int (de_cal C_law_pick hr (da_cons (de_var 1) (da_cons de_int da_nil)))) (da_cons (de_add false de_int (de_cal C_law_pick hr (da_cons (de_var 1) (da_cons (de_pow de_int de_int) da_nil)))) da_nil)))) (dss_one (ds_ret (de_and (de_cal C_law_near hr (da_cons (de_var 2) (da_cons (de_var 6) da_nil))) (de_one (de_cal C_law_near hr (da_cons (de_var 2) (da_cons (de_var 7) da_nil))))))))))))))
end
theorem len_gcd_of : ∀ ds M Q E, sp_gcd_of ds M Q E → ds.length = 2 := by
  intro ds M Q E h
  unfold sp_gcd_of at h
  repeat (first | exact h.elim | (obtain ⟨rfl, _⟩ := h; rfl) | obtain ⟨_, h⟩ := h)
theorem len_ratio : ∀ ds M Q E, sp_ratio ds M Q E → ds.length = 2 := by
  intro ds M Q E h
  unfold sp_ratio at h
  repeat (first | exact h.elim | (obtain ⟨rfl, _⟩ := h; rfl) | obtain ⟨_, h⟩ := h)
theorem len_less_q : ∀ ds M Q E, sp_less_q ds M Q E → ds.length = 2 := by
  intro ds M Q E h
  unfold sp_less_q at h
  repeat (first | exact h.elim | (obtain ⟨rfl, _⟩ := h; rfl) | obtain ⟨_, h⟩ := h)
theorem len_middle_q : ∀ ds M Q E, sp_middle_q ds M Q E → ds.length = 2 := by
  intro ds M Q E h
  unfold sp_middle_q at h
  repeat (first | exact h.elim | (obtain ⟨rfl, _⟩ := h; rfl) | obtain ⟨_, h⟩ := h)
theorem len_power_of : ∀ ds M Q E, sp_power_of ds M Q E → ds.length = 2 := by
  intro ds M Q E h
  unfold sp_power_of at h
  repeat (first | exact h.elim | (obtain ⟨rfl, _⟩ := h; rfl) | obtain ⟨_, h⟩ := h)
theorem len_trimmed : ∀ ds M Q E, sp_trimmed ds M Q E → ds.length = 1 := by
  intro ds M Q E h
  unfold sp_trimmed at h
  repeat (first | exact h.elim | (obtain ⟨rfl, _⟩ := h; rfl) | obtain ⟨_, h⟩ := h)
theorem len_content : ∀ ds M Q E, sp_content ds M Q E → ds.length = 1 := by
  intro ds M Q E h
  unfold sp_content at h
  repeat (first | exact h.elim | (obtain ⟨rfl, _⟩ := h; rfl) | obtain ⟨_, h⟩ := h)
theorem len_primitive : ∀ ds M Q E, sp_primitive ds M Q E → ds.length = 1 := by
  intro ds M Q E h
  unfold sp_primitive at h
  repeat (first | exact h.elim | (obtain ⟨rfl, _⟩ := h; rfl) | obtain ⟨_, h⟩ := h)
theorem len_homogeneous : ∀ ds M Q E, sp_homogeneous ds M Q E → ds.length = 2 := by
  intro ds M Q E h
  unfold sp_homogeneous at h
  repeat (first | exact h.elim | (obtain ⟨rfl, _⟩ := h; rfl) | obtain ⟨_, h⟩ := h)
theorem len_sign : ∀ ds M Q E, sp_sign ds M Q E → ds.length = 2 := by
  intro ds M Q E h
  unfold sp_sign at h
  repeat (first | exact h.elim | (obtain ⟨rfl, _⟩ := h; rfl) | obtain ⟨_, h⟩ := h)
theorem len_derived : ∀ ds M Q E, sp_derived ds M Q E → ds.length = 1 := by
  intro ds M Q E h
  unfold sp_derived at h
  repeat (first | exact h.elim | (obtain ⟨rfl, _⟩ := h; rfl) | obtain ⟨_, h⟩ := h)
theorem len_remainder : ∀ ds M Q E, sp_remainder ds M Q E → ds.length = 2 := by
  intro ds M Q E h
  unfold sp_remainder at h
  repeat (first | exact h.elim | (obtain ⟨rfl, _⟩ := h; rfl) | obtain ⟨_, h⟩ := h)
theorem len_quotient : ∀ ds M Q E, sp_quotient ds M Q E → ds.length = 2 := by
  intro ds M Q E h
  unfold sp_quotient at h
  repeat (first | exact h.elim | (obtain ⟨rfl, _⟩ := h; rfl) | obtain ⟨_, h⟩ := h)
theorem len_common : ∀ ds M Q E, sp_common ds M Q E → ds.length = 2 := by
  intro ds M Q E h
  unfold sp_common at h
  repeat (first | exact h.elim | (obtain ⟨rfl, _⟩ := h; rfl) | obtain ⟨_, h⟩ := h)
theorem len_free : ∀ ds M Q E, sp_free ds M Q E → ds.length = 1 := by
  intro ds M Q E h
  unfold sp_free at h
  repeat (first | exact h.elim | (obtain ⟨rfl, _⟩ := h; rfl) | obtain ⟨_, h⟩ := h)
theorem len_reduced : ∀ ds M Q E, sp_reduced ds M Q E → ds.length = 2 := by
  intro ds M Q E h
  unfold sp_reduced at h
  repeat (first | exact h.elim | (obtain ⟨rfl, _⟩ := h; rfl) | obtain ⟨_, h⟩ := h)
theorem len_inverse : ∀ ds M Q E, sp_inverse ds M Q E → ds.length = 2 := by
  intro ds M Q E h
  unfold sp_inverse at h
  repeat (first | exact h.elim | (obtain ⟨rfl, _⟩ := h; rfl) | obtain ⟨_, h⟩ := h)
theorem len_monic_m : ∀ ds M Q E, sp_monic_m ds M Q E → ds.length = 2 := by
  intro ds M Q E h
  unfold sp_monic_m at h
  repeat (first | exact h.elim | (obtain ⟨rfl, _⟩ := h; rfl) | obtain ⟨_, h⟩ := h)
theorem len_divided_m : ∀ ds M Q E, sp_divided_m ds M Q E → ds.length = 3 := by
  intro ds M Q E h
  unfold sp_divided_m at h
  repeat (first | exact h.elim | (obtain ⟨rfl, _⟩ := h; rfl) | obtain ⟨_, h⟩ := h)
theorem len_rest_m : ∀ ds M Q E, sp_rest_m ds M Q E → ds.length = 3 := by
  intro ds M Q E h
  unfold sp_rest_m at h
  repeat (first | exact h.elim | (obtain ⟨rfl, _⟩ := h; rfl) | obtain ⟨_, h⟩ := h)
theorem len_common_m : ∀ ds M Q E, sp_common_m ds M Q E → ds.length = 3 := by
  intro ds M Q E h
  unfold sp_common_m at h
  repeat (first | exact h.elim | (obtain ⟨rfl, _⟩ := h; rfl) | obtain ⟨_, h⟩ := h)
theorem len_derived_m : ∀ ds M Q E, sp_derived_m ds M Q E → ds.length = 2 := by
  intro ds M Q E h
  unfold sp_derived_m at h
  repeat (first | exact h.elim | (obtain ⟨rfl, _⟩ := h; rfl) | obtain ⟨_, h⟩ := h)
theorem len_is_prime : ∀ ds M Q E, sp_is_prime ds M Q E → ds.length = 1 := by
  intro ds M Q E h
  unfold sp_is_prime at h
  repeat (first | exact h.elim | (obtain ⟨rfl, _⟩ := h; rfl) | obtain ⟨_, h⟩ := h)
theorem len_usable : ∀ ds M Q E, sp_usable ds M Q E → ds.length = 2 := by
  intro ds M Q E h
  unfold sp_usable at h
  repeat (first | exact h.elim | (obtain ⟨rfl, _⟩ := h; rfl) | obtain ⟨_, h⟩ := h)
theorem len_usable_prime : ∀ ds M Q E, sp_usable_prime ds M Q E → ds.length = 2 := by
  intro ds M Q E h
  unfold sp_usable_prime at h
  repeat (first | exact h.elim | (obtain ⟨rfl, _⟩ := h; rfl) | obtain ⟨_, h⟩ := h)
theorem len_value_m : ∀ ds M Q E, sp_value_m ds M Q E → ds.length = 3 := by
  intro ds M Q E h
  unfold sp_value_m at h
  repeat (first | exact h.elim | (obtain ⟨rfl, _⟩ := h; rfl) | obtain ⟨_, h⟩ := h)
theorem len_lifted_root : ∀ ds M Q E, sp_lifted_root ds M Q E → ds.length = 4 := by
  intro ds M Q E h
  unfold sp_lifted_root at h
  repeat (first | exact h.elim | (obtain ⟨rfl, _⟩ := h; rfl) | obtain ⟨_, h⟩ := h)
theorem len_fraction_roots : ∀ ds M Q E, sp_fraction_roots ds M Q E → ds.length = 1 := by
  intro ds M Q E h
  unfold sp_fraction_roots at h
  repeat (first | exact h.elim | (obtain ⟨rfl, _⟩ := h; rfl) | obtain ⟨_, h⟩ := h)
theorem len_chain_of : ∀ ds M Q E, sp_chain_of ds M Q E → ds.length = 1 := by
  intro ds M Q E h
  unfold sp_chain_of at h
  repeat (first | exact h.elim | (obtain ⟨rfl, _⟩ := h; rfl) | obtain ⟨_, h⟩ := h)
theorem len_changes : ∀ ds M Q E, sp_changes ds M Q E → ds.length = 1 := by
  intro ds M Q E h
  unfold sp_changes at h
  repeat (first | exact h.elim | (obtain ⟨rfl, _⟩ := h; rfl) | obtain ⟨_, h⟩ := h)
theorem len_changes_at : ∀ ds M Q E, sp_changes_at ds M Q E → ds.length = 2 := by
  intro ds M Q E h
  unfold sp_changes_at at h
  repeat (first | exact h.elim | (obtain ⟨rfl, _⟩ := h; rfl) | obtain ⟨_, h⟩ := h)
theorem len_bound_of : ∀ ds M Q E, sp_bound_of ds M Q E → ds.length = 1 := by
  intro ds M Q E h
  unfold sp_bound_of at h
  repeat (first | exact h.elim | (obtain ⟨rfl, _⟩ := h; rfl) | obtain ⟨_, h⟩ := h)
theorem len_between : ∀ ds M Q E, sp_between ds M Q E → ds.length = 3 := by
  intro ds M Q E h
  unfold sp_between at h
  repeat (first | exact h.elim | (obtain ⟨rfl, _⟩ := h; rfl) | obtain ⟨_, h⟩ := h)
theorem len_parted : ∀ ds M Q E, sp_parted ds M Q E → ds.length = 1 := by
  intro ds M Q E h
  unfold sp_parted at h
  repeat (first | exact h.elim | (obtain ⟨rfl, _⟩ := h; rfl) | obtain ⟨_, h⟩ := h)
theorem len_span_round : ∀ ds M Q E, sp_span_round ds M Q E → ds.length = 3 := by
  intro ds M Q E h
  unfold sp_span_round at h
  repeat (first | exact h.elim | (obtain ⟨rfl, _⟩ := h; rfl) | obtain ⟨_, h⟩ := h)
theorem len_spans : ∀ ds M Q E, sp_spans ds M Q E → ds.length = 1 := by
  intro ds M Q E h
  unfold sp_spans at h
  repeat (first | exact h.elim | (obtain ⟨rfl, _⟩ := h; rfl) | obtain ⟨_, h⟩ := h)
theorem len_square_floor : ∀ ds M Q E, sp_square_floor ds M Q E → ds.length = 1 := by
  intro ds M Q E h
  unfold sp_square_floor at h
  repeat (first | exact h.elim | (obtain ⟨rfl, _⟩ := h; rfl) | obtain ⟨_, h⟩ := h)
theorem len_fraction_of : ∀ ds M Q E, sp_fraction_of ds M Q E → ds.length = 1 := by
  intro ds M Q E h
  unfold sp_fraction_of at h
  repeat (first | exact h.elim | (obtain ⟨rfl, _⟩ := h; rfl) | obtain ⟨_, h⟩ := h)
theorem len_sign_at : ∀ ds M Q E, sp_sign_at ds M Q E → ds.length = 3 := by
  intro ds M Q E h
  unfold sp_sign_at at h
  repeat (first | exact h.elim | (obtain ⟨rfl, _⟩ := h; rfl) | obtain ⟨_, h⟩ := h)
theorem len_probe_of : ∀ ds M Q E, sp_probe_of ds M Q E → ds.length = 1 := by
  intro ds M Q E h
  unfold sp_probe_of at h
  repeat (first | exact h.elim | (obtain ⟨rfl, _⟩ := h; rfl) | obtain ⟨_, h⟩ := h)
theorem len_side_of : ∀ ds M Q E, sp_side_of ds M Q E → ds.length = 3 := by
  intro ds M Q E h
  unfold sp_side_of at h
  repeat (first | exact h.elim | (obtain ⟨rfl, _⟩ := h; rfl) | obtain ⟨_, h⟩ := h)
theorem len_grid_of : ∀ ds M Q E, sp_grid_of ds M Q E → ds.length = 2 := by
  intro ds M Q E h
  unfold sp_grid_of at h
  repeat (first | exact h.elim | (obtain ⟨rfl, _⟩ := h; rfl) | obtain ⟨_, h⟩ := h)
theorem len_near : ∀ ds M Q E, sp_near ds M Q E → ds.length = 2 := by
  intro ds M Q E h
  unfold sp_near at h
  repeat (first | exact h.elim | (obtain ⟨rfl, _⟩ := h; rfl) | obtain ⟨_, h⟩ := h)
theorem len_head : ∀ ds M Q E, sp_head ds M Q E → ds.length = 3 := by
  intro ds M Q E h
  unfold sp_head at h
  repeat (first | exact h.elim | (obtain ⟨rfl, _⟩ := h; rfl) | obtain ⟨_, h⟩ := h)
theorem len_law_power : ∀ ds M Q E, sp_law_power ds M Q E → ds.length = 2 := by
  intro ds M Q E h
  unfold sp_law_power at h
  repeat (first | exact h.elim | (obtain ⟨rfl, _⟩ := h; rfl) | obtain ⟨_, h⟩ := h)
theorem len_law_common : ∀ ds M Q E, sp_law_common ds M Q E → ds.length = 2 := by
  intro ds M Q E h
  unfold sp_law_common at h
  repeat (first | exact h.elim | (obtain ⟨rfl, _⟩ := h; rfl) | obtain ⟨_, h⟩ := h)
theorem len_law_ratio : ∀ ds M Q E, sp_law_ratio ds M Q E → ds.length = 2 := by
  intro ds M Q E h
  unfold sp_law_ratio at h
  repeat (first | exact h.elim | (obtain ⟨rfl, _⟩ := h; rfl) | obtain ⟨_, h⟩ := h)
theorem len_law_isqrt : ∀ ds M Q E, sp_law_isqrt ds M Q E → ds.length = 1 := by
  intro ds M Q E h
  unfold sp_law_isqrt at h
  repeat (first | exact h.elim | (obtain ⟨rfl, _⟩ := h; rfl) | obtain ⟨_, h⟩ := h)
theorem len_law_surd : ∀ ds M Q E, sp_law_surd ds M Q E → ds.length = 4 := by
  intro ds M Q E h
  unfold sp_law_surd at h
  repeat (first | exact h.elim | (obtain ⟨rfl, _⟩ := h; rfl) | obtain ⟨_, h⟩ := h)
theorem len_law_sign : ∀ ds M Q E, sp_law_sign ds M Q E → ds.length = 1 := by
  intro ds M Q E h
  unfold sp_law_sign at h
  repeat (first | exact h.elim | (obtain ⟨rfl, _⟩ := h; rfl) | obtain ⟨_, h⟩ := h)
theorem len_law_sign_two : ∀ ds M Q E, sp_law_sign_two ds M Q E → ds.length = 3 := by
  intro ds M Q E h
  unfold sp_law_sign_two at h
  repeat (first | exact h.elim | (obtain ⟨rfl, _⟩ := h; rfl) | obtain ⟨_, h⟩ := h)
theorem len_law_sign_three : ∀ ds M Q E, sp_law_sign_three ds M Q E → ds.length = 5 := by
  intro ds M Q E h
  unfold sp_law_sign_three at h
  repeat (first | exact h.elim | (obtain ⟨rfl, _⟩ := h; rfl) | obtain ⟨_, h⟩ := h)
theorem len_law_surd_order : ∀ ds M Q E, sp_law_surd_order ds M Q E → ds.length = 2 := by
  intro ds M Q E h
  unfold sp_law_surd_order at h
  repeat (first | exact h.elim | (obtain ⟨rfl, _⟩ := h; rfl) | obtain ⟨_, h⟩ := h)
theorem len_law_surd_floor : ∀ ds M Q E, sp_law_surd_floor ds M Q E → ds.length = 2 := by
  intro ds M Q E h
  unfold sp_law_surd_floor at h
  repeat (first | exact h.elim | (obtain ⟨rfl, _⟩ := h; rfl) | obtain ⟨_, h⟩ := h)
theorem len_law_surd_key : ∀ ds M Q E, sp_law_surd_key ds M Q E → ds.length = 1 := by
  intro ds M Q E h
  unfold sp_law_surd_key at h
  repeat (first | exact h.elim | (obtain ⟨rfl, _⟩ := h; rfl) | obtain ⟨_, h⟩ := h)
theorem len_law_wide : ∀ ds M Q E, sp_law_wide ds M Q E → ds.length = 3 := by
  intro ds M Q E h
  unfold sp_law_wide at h
  repeat (first | exact h.elim | (obtain ⟨rfl, _⟩ := h; rfl) | obtain ⟨_, h⟩ := h)
theorem len_law_drawn_surd : ∀ ds M Q E, sp_law_drawn_surd ds M Q E → ds.length = 3 := by
  intro ds M Q E h
  unfold sp_law_drawn_surd at h
  repeat (first | exact h.elim | (obtain ⟨rfl, _⟩ := h; rfl) | obtain ⟨_, h⟩ := h)
theorem len_law_radical : ∀ ds M Q E, sp_law_radical ds M Q E → ds.length = 1 := by
  intro ds M Q E h
  unfold sp_law_radical at h
  repeat (first | exact h.elim | (obtain ⟨rfl, _⟩ := h; rfl) | obtain ⟨_, h⟩ := h)
theorem len_law_root_floor : ∀ ds M Q E, sp_law_root_floor ds M Q E → ds.length = 2 := by
  intro ds M Q E h
  unfold sp_law_root_floor at h
  repeat (first | exact h.elim | (obtain ⟨rfl, _⟩ := h; rfl) | obtain ⟨_, h⟩ := h)
theorem len_law_thing : ∀ ds M Q E, sp_law_thing ds M Q E → ds.length = 1 := by
  intro ds M Q E h
  unfold sp_law_thing at h
  repeat (first | exact h.elim | (obtain ⟨rfl, _⟩ := h; rfl) | obtain ⟨_, h⟩ := h)
theorem len_law_thing_floor : ∀ ds M Q E, sp_law_thing_floor ds M Q E → ds.length = 2 := by
  intro ds M Q E h
  unfold sp_law_thing_floor at h
  repeat (first | exact h.elim | (obtain ⟨rfl, _⟩ := h; rfl) | obtain ⟨_, h⟩ := h)
theorem len_law_key_of : ∀ ds M Q E, sp_law_key_of ds M Q E → ds.length = 1 := by
  intro ds M Q E h
  unfold sp_law_key_of at h
  repeat (first | exact h.elim | (obtain ⟨rfl, _⟩ := h; rfl) | obtain ⟨_, h⟩ := h)
theorem len_law_against : ∀ ds M Q E, sp_law_against ds M Q E → ds.length = 2 := by
  intro ds M Q E h
  unfold sp_law_against at h
  repeat (first | exact h.elim | (obtain ⟨rfl, _⟩ := h; rfl) | obtain ⟨_, h⟩ := h)
theorem len_law_is_fraction : ∀ ds M Q E, sp_law_is_fraction ds M Q E → ds.length = 1 := by
  intro ds M Q E h
  unfold sp_law_is_fraction at h
  repeat (first | exact h.elim | (obtain ⟨rfl, _⟩ := h; rfl) | obtain ⟨_, h⟩ := h)
theorem len_law_near : ∀ ds M Q E, sp_law_near ds M Q E → ds.length = 2 := by
  intro ds M Q E h
  unfold sp_law_near at h
  repeat (first | exact h.elim | (obtain ⟨rfl, _⟩ := h; rfl) | obtain ⟨_, h⟩ := h)
theorem len_law : ∀ ds M Q E, sp_law ds M Q E → ds.length = 1 := by
  intro ds M Q E h
  unfold sp_law at h
  repeat (first | exact h.elim | (obtain ⟨rfl, _⟩ := h; rfl) | obtain ⟨_, h⟩ := h)
set_option maxHeartbeats 0 in
theorem facts {P : Program} {w : World} {K : PySem.W.Frag} {h : Heap} {mg : Str → Option Value} {f : Addr} (X : K.In h) (G : h.Ns mainGlobals mg) (hfa : mg ("law" : Str) = some (.ref f)) (c : He.SaysD fa fn K) :
    ∃ fd : FuncData, (∀ (s : Shared) (v : Value), BindsTo s fd ⟨[v], []⟩ [("script", v)]) ∧ ∀ base : Heap, K.In base → base.Ns mainGlobals mg → FnOk P w K mg base CX0 12 f fd ["script"] (liftSp K sp_law) := by
  have b_abs : mg "abs" = none := free_of X G c 69 rfl
  have b_divmod : mg "divmod" = none := free_of X G c 70 rfl
  have b_len : mg "len" = none := free_of X G c 71 rfl
  have b_tuple : mg "tuple" = none := free_of X G c 72 rfl
  have b_reversed : mg "reversed" = none := free_of X G c 73 rfl
  have b_range : mg "range" = none := free_of X G c 74 rfl
  have b_list : mg "list" = none := free_of X G c 75 rfl
  have b_any : mg "any" = none := free_of X G c 76 rfl
  have b_int : mg "int" = none := free_of X G c 77 rfl
  have b_max : mg "max" = none := free_of X G c 78 rfl
  have b_sum : mg "sum" = none := free_of X G c 79 rfl
  have b_bool : mg "bool" = none := free_of X G c 80 rfl
  have b_isinstance : mg "isinstance" = none := free_of X G c 81 rfl
  have b_str : mg "str" = none := free_of X G c 82 rfl
  have b_all : mg "all" = none := free_of X G c 83 rfl
  have D_gcd_of : DefAt K mg "gcd_of" s_gcd_of := defAt_of X G c 0 0 rfl rfl
  have D_ratio : DefAt K mg "ratio" s_ratio := defAt_of X G c 1 1 rfl rfl
  have D_less_q : DefAt K mg "less_q" s_less_q := defAt_of X G c 2 2 rfl rfl
  have D_middle_q : DefAt K mg "middle_q" s_middle_q := defAt_of X G c 3 3 rfl rfl
  have D_power_of : DefAt K mg "power_of" s_power_of := defAt_of X G c 4 4 rfl rfl
  have D_trimmed : DefAt K mg "trimmed" s_trimmed := defAt_of X G c 5 5 rfl rfl
  have D_content : DefAt K mg "content" s_content := defAt_of X G c 6 6 rfl rfl
  have D_primitive : DefAt K mg "primitive" s_primitive := defAt_of X G c 7 7 rfl rfl
  have D_homogeneous : DefAt K mg "homogeneous" s_homogeneous := defAt_of X G c 8 8 rfl rfl
  have D_sign : DefAt K mg "sign" s_sign := defAt_of X G c 9 9 rfl rfl
  have D_derived : DefAt K mg "derived" s_derived := defAt_of X G c 10 10 rfl rfl
  have D_remainder : DefAt K mg "remainder" s_remainder := defAt_of X G c 11 11 rfl rfl
  have D_quotient : DefAt K mg "quotient" s_quotient := defAt_of X G c 12 12 rfl rfl
  have D_common : DefAt K mg "common" s_common := defAt_of X G c 13 13 rfl rfl
  have D_free : DefAt K mg "free" s_free := defAt_of X G c 14 14 rfl rfl
  have D_reduced : DefAt K mg "reduced" s_reduced := defAt_of X G c 15 15 rfl rfl
  have D_inverse : DefAt K mg "inverse" s_inverse := defAt_of X G c 16 16 rfl rfl
  have D_monic_m : DefAt K mg "monic_m" s_monic_m := defAt_of X G c 17 17 rfl rfl
  have D_divided_m : DefAt K mg "divided_m" s_divided_m := defAt_of X G c 18 18 rfl rfl
  have D_rest_m : DefAt K mg "rest_m" s_rest_m := defAt_of X G c 19 19 rfl rfl
  have D_common_m : DefAt K mg "common_m" s_common_m := defAt_of X G c 20 20 rfl rfl
  have D_derived_m : DefAt K mg "derived_m" s_derived_m := defAt_of X G c 21 21 rfl rfl
  have D_is_prime : DefAt K mg "is_prime" s_is_prime := defAt_of X G c 22 22 rfl rfl
  have D_usable : DefAt K mg "usable" s_usable := defAt_of X G c 23 23 rfl rfl
  have D_usable_prime : DefAt K mg "usable_prime" s_usable_prime := defAt_of X G c 24 24 rfl rfl
  have D_value_m : DefAt K mg "value_m" s_value_m := defAt_of X G c 25 25 rfl rfl
  have D_lifted_root : DefAt K mg "lifted_root" s_lifted_root := defAt_of X G c 26 26 rfl rfl
  have D_fraction_roots : DefAt K mg "fraction_roots" s_fraction_roots := defAt_of X G c 27 27 rfl rfl
  have D_chain_of : DefAt K mg "chain_of" s_chain_of := defAt_of X G c 28 28 rfl rfl
  have D_changes : DefAt K mg "changes" s_changes := defAt_of X G c 29 29 rfl rfl
  have D_changes_at : DefAt K mg "changes_at" s_changes_at := defAt_of X G c 30 30 rfl rfl
  have D_bound_of : DefAt K mg "bound_of" s_bound_of := defAt_of X G c 31 31 rfl rfl
  have D_between : DefAt K mg "between" s_between := defAt_of X G c 32 32 rfl rfl
  have D_parted : DefAt K mg "parted" s_parted := defAt_of X G c 33 33 rfl rfl
  have D_span_round : DefAt K mg "span_round" s_span_round := defAt_of X G c 34 34 rfl rfl
  have D_spans : DefAt K mg "spans" s_spans := defAt_of X G c 35 35 rfl rfl
  have D_square_floor : DefAt K mg "square_floor" s_square_floor := defAt_of X G c 36 36 rfl rfl
  have D_fraction_of : DefAt K mg "fraction_of" s_fraction_of := defAt_of X G c 37 37 rfl rfl
  have D_sign_at : DefAt K mg "sign_at" s_sign_at := defAt_of X G c 38 38 rfl rfl
  have D_probe_of : DefAt K mg "probe_of" s_probe_of := defAt_of X G c 39 39 rfl rfl
  have D_side_of : DefAt K mg "side_of" s_side_of := defAt_of X G c 40 40 rfl rfl
  have D_grid_of : DefAt K mg "grid_of" s_grid_of := defAt_of X G c 41 41 rfl rfl
  have D_near : DefAt K mg "near" s_near := defAt_of X G c 42 42 rfl rfl
  have D_head : DefAt K mg "head" s_head := defAt_of X G c 43 43 rfl rfl
  have D_law_source : DefAt K mg "_law_source" s_law_source := defAt_of X G c 44 44 rfl rfl
  have D_law_pick : DefAt K mg "_law_pick" s_law_pick := defAt_of X G c 45 45 rfl rfl
  have D_law_same : DefAt K mg "_law_same" s_law_same := defAt_of X G c 46 46 rfl rfl
  have D_law_power : DefAt K mg "_law_power" s_law_power := defAt_of X G c 47 47 rfl rfl
  have D_law_common : DefAt K mg "_law_common" s_law_common := defAt_of X G c 48 48 rfl rfl
  have D_law_ratio : DefAt K mg "_law_ratio" s_law_ratio := defAt_of X G c 49 49 rfl rfl
  have D_law_isqrt : DefAt K mg "_law_isqrt" s_law_isqrt := defAt_of X G c 50 50 rfl rfl
  have D_law_surd : DefAt K mg "_law_surd" s_law_surd := defAt_of X G c 51 51 rfl rfl
  have D_law_sign : DefAt K mg "_law_sign" s_law_sign := defAt_of X G c 52 52 rfl rfl
  have D_law_sign_two : DefAt K mg "_law_sign_two" s_law_sign_two := defAt_of X G c 53 53 rfl rfl
  have D_law_sign_three : DefAt K mg "_law_sign_three" s_law_sign_three := defAt_of X G c 54 54 rfl rfl
  have D_law_surd_order : DefAt K mg "_law_surd_order" s_law_surd_order := defAt_of X G c 55 55 rfl rfl
  have D_law_surd_floor : DefAt K mg "_law_surd_floor" s_law_surd_floor := defAt_of X G c 56 56 rfl rfl
  have D_law_surd_key : DefAt K mg "_law_surd_key" s_law_surd_key := defAt_of X G c 57 57 rfl rfl
  have D_law_wide : DefAt K mg "_law_wide" s_law_wide := defAt_of X G c 58 58 rfl rfl
  have D_law_drawn_surd : DefAt K mg "_law_drawn_surd" s_law_drawn_surd := defAt_of X G c 59 59 rfl rfl
  have D_law_radical : DefAt K mg "_law_radical" s_law_radical := defAt_of X G c 60 60 rfl rfl
  have D_law_root_floor : DefAt K mg "_law_root_floor" s_law_root_floor := defAt_of X G c 61 61 rfl rfl
  have D_law_thing : DefAt K mg "_law_thing" s_law_thing := defAt_of X G c 62 62 rfl rfl
  have D_law_thing_floor : DefAt K mg "_law_thing_floor" s_law_thing_floor := defAt_of X G c 63 63 rfl rfl
  have D_law_key_of : DefAt K mg "_law_key_of" s_law_key_of := defAt_of X G c 64 64 rfl rfl
  have D_law_against : DefAt K mg "_law_against" s_law_against := defAt_of X G c 65 65 rfl rfl
  have D_law_is_fraction : DefAt K mg "_law_is_fraction" s_law_is_fraction := defAt_of X G c 66 66 rfl rfl
  have D_law_near : DefAt K mg "_law_near" s_law_near := defAt_of X G c 67 67 rfl rfl
  obtain ⟨fd, F⟩ := c.def_ 68 (d := mkD "law" (top 79)) rfl
  have e := hfa.symm.trans (He.glo_ok X G (c.fact 68 (f := .glo "law") rfl))
  cases e
  have b := FunD.bindsA (ps := ["script"]) F fun _ _ _ _ _ _ us hl => match us, hl with | [_], _ => rfl
  let _g : Ghost := gh0
  refine ⟨fd, fun s v => b s [v] rfl, fun base _ _ => ?_⟩
  have C_gcd_of : Cal P w K mg base 1 "gcd_of" ["a", "b"] sp_gcd_of := cal_of D_gcd_of sc_gcd_of len_gcd_of (fun _ _ _ _ _ _ us hl => match us, hl with | [_, _], _ => rfl) (fun f cdv A outer s H E hr => body_gcd_of b_abs hr) sem_gcd_of
  have C_ratio : Cal P w K mg base 2 "ratio" ["n", "d"] sp_ratio := cal_of D_ratio sc_ratio len_ratio (fun _ _ _ _ _ _ us hl => match us, hl with | [_, _], _ => rfl) (fun f cdv A outer s H E hr => body_ratio C_gcd_of hr) sem_ratio
  have C_less_q : Cal P w K mg base 1 "less_q" ["a", "b"] sp_less_q := cal_of D_less_q sc_less_q len_less_q (fun _ _ _ _ _ _ us hl => match us, hl with | [_, _], _ => rfl) (fun f cdv A outer s H E hr => body_less_q  hr) sem_less_q
  have C_middle_q : Cal P w K mg base 3 "middle_q" ["a", "b"] sp_middle_q := cal_of D_middle_q sc_middle_q len_middle_q (fun _ _ _ _ _ _ us hl => match us, hl with | [_, _], _ => rfl) (fun f cdv A outer s H E hr => body_middle_q C_ratio hr) sem_middle_q
  have C_power_of : Cal P w K mg base 1 "power_of" ["base", "exponent"] sp_power_of := cal_of D_power_of sc_power_of len_power_of (fun _ _ _ _ _ _ us hl => match us, hl with | [_, _], _ => rfl) (fun f cdv A outer s H E hr => body_power_of b_divmod hr) sem_power_of
  have C_trimmed : Cal P w K mg base 1 "trimmed" ["coefficients"] sp_trimmed := cal_of D_trimmed sc_trimmed len_trimmed (fun _ _ _ _ _ _ us hl => match us, hl with | [_], _ => rfl) (fun f cdv A outer s H E hr => body_trimmed b_len b_tuple hr) sem_trimmed
  have C_content : Cal P w K mg base 2 "content" ["p"] sp_content := cal_of D_content sc_content len_content (fun _ _ _ _ _ _ us hl => match us, hl with | [_], _ => rfl) (fun f cdv A outer s H E hr => body_content C_gcd_of hr) sem_content
  have C_primitive : Cal P w K mg base 3 "primitive" ["p"] sp_primitive := cal_of D_primitive sc_primitive len_primitive (fun _ _ _ _ _ _ us hl => match us, hl with | [_], _ => rfl) (fun f cdv A outer s H E hr => body_primitive C_content b_len b_tuple hr) sem_primitive
  have C_homogeneous : Cal P w K mg base 1 "homogeneous" ["p", "q"] sp_homogeneous := cal_of D_homogeneous sc_homogeneous len_homogeneous (fun _ _ _ _ _ _ us hl => match us, hl with | [_, _], _ => rfl) (fun f cdv A outer s H E hr => body_homogeneous b_reversed hr) sem_homogeneous
  have C_sign : Cal P w K mg base 2 "sign" ["p", "q"] sp_sign := cal_of D_sign sc_sign len_sign (fun _ _ _ _ _ _ us hl => match us, hl with | [_, _], _ => rfl) (fun f cdv A outer s H E hr => body_sign C_homogeneous hr) sem_sign
  have C_derived : Cal P w K mg base 2 "derived" ["p"] sp_derived := cal_of D_derived sc_derived len_derived (fun _ _ _ _ _ _ us hl => match us, hl with | [_], _ => rfl) (fun f cdv A outer s H E hr => body_derived C_trimmed b_range b_len hr) sem_derived
  have C_remainder : Cal P w K mg base 3 "remainder" ["p", "d"] sp_remainder := cal_of D_remainder sc_remainder len_remainder (fun _ _ _ _ _ _ us hl => match us, hl with | [_, _], _ => rfl) (fun f cdv A outer s H E hr => body_remainder (C_trimmed.mono (by decide)) C_content b_list b_abs b_len b_range b_tuple hr) sem_remainder
  have C_quotient : Cal P w K mg base 1 "quotient" ["p", "d"] sp_quotient := cal_of D_quotient sc_quotient len_quotient (fun _ _ _ _ _ _ us hl => match us, hl with | [_, _], _ => rfl) (fun f cdv A outer s H E hr => body_quotient b_len b_list b_range b_divmod b_any b_tuple hr) sem_quotient
  have C_common : Cal P w K mg base 4 "common" ["p", "d"] sp_common := cal_of D_common sc_common len_common (fun _ _ _ _ _ _ us hl => match us, hl with | [_, _], _ => rfl) (fun f cdv A outer s H E hr => body_common C_remainder C_primitive b_len hr) sem_common
  have C_free : Cal P w K mg base 5 "free" ["p"] sp_free := cal_of D_free sc_free len_free (fun _ _ _ _ _ _ us hl => match us, hl with | [_], _ => rfl) (fun f cdv A outer s H E hr => body_free (C_primitive.mono (by decide)) (C_derived.mono (by decide)) C_common (C_quotient.mono (by decide)) hr) sem_free
  have C_reduced : Cal P w K mg base 1 "reduced" ["p", "prime"] sp_reduced := cal_of D_reduced sc_reduced len_reduced (fun _ _ _ _ _ _ us hl => match us, hl with | [_, _], _ => rfl) (fun f cdv A outer s H E hr => body_reduced b_int b_len hr) sem_reduced
  have C_inverse : Cal P w K mg base 1 "inverse" ["a", "prime"] sp_inverse := cal_of D_inverse sc_inverse len_inverse (fun _ _ _ _ _ _ us hl => match us, hl with | [_, _], _ => rfl) (fun f cdv A outer s H E hr => body_inverse b_int b_divmod hr) sem_inverse
  have C_monic_m : Cal P w K mg base 2 "monic_m" ["a", "prime"] sp_monic_m := cal_of D_monic_m sc_monic_m len_monic_m (fun _ _ _ _ _ _ us hl => match us, hl with | [_, _], _ => rfl) (fun f cdv A outer s H E hr => body_monic_m C_inverse b_len hr) sem_monic_m
  have C_divided_m : Cal P w K mg base 2 "divided_m" ["a", "b", "prime"] sp_divided_m := cal_of D_divided_m sc_divided_m len_divided_m (fun _ _ _ _ _ _ us hl => match us, hl with | [_, _, _], _ => rfl) (fun f cdv A outer s H E hr => body_divided_m C_inverse C_reduced b_list b_len b_max b_range hr) sem_divided_m
  have C_rest_m : Cal P w K mg base 3 "rest_m" ["a", "b", "prime"] sp_rest_m := cal_of D_rest_m sc_rest_m len_rest_m (fun _ _ _ _ _ _ us hl => match us, hl with | [_, _, _], _ => rfl) (fun f cdv A outer s H E hr => body_rest_m C_divided_m hr) sem_rest_m
  have C_common_m : Cal P w K mg base 4 "common_m" ["a", "b", "prime"] sp_common_m := cal_of D_common_m sc_common_m len_common_m (fun _ _ _ _ _ _ us hl => match us, hl with | [_, _, _], _ => rfl) (fun f cdv A outer s H E hr => body_common_m C_rest_m (C_monic_m.mono (by decide)) b_len hr) sem_common_m
  have C_derived_m : Cal P w K mg base 2 "derived_m" ["a", "prime"] sp_derived_m := cal_of D_derived_m sc_derived_m len_derived_m (fun _ _ _ _ _ _ us hl => match us, hl with | [_, _], _ => rfl) (fun f cdv A outer s H E hr => body_derived_m C_reduced b_range b_len hr) sem_derived_m
  have C_is_prime : Cal P w K mg base 1 "is_prime" ["n"] sp_is_prime := cal_of D_is_prime sc_is_prime len_is_prime (fun _ _ _ _ _ _ us hl => match us, hl with | [_], _ => rfl) (fun f cdv A outer s H E hr => body_is_prime  hr) sem_is_prime
  have C_usable : Cal P w K mg base 5 "usable" ["f", "prime"] sp_usable := cal_of D_usable sc_usable len_usable (fun _ _ _ _ _ _ us hl => match us, hl with | [_, _], _ => rfl) (fun f cdv A outer s H E hr => body_usable (C_reduced.mono (by decide)) (C_derived_m.mono (by decide)) C_common_m b_len hr) sem_usable
  have C_usable_prime : Cal P w K mg base 6 "usable_prime" ["f", "prime"] sp_usable_prime := cal_of D_usable_prime sc_usable_prime len_usable_prime (fun _ _ _ _ _ _ us hl => match us, hl with | [_, _], _ => rfl) (fun f cdv A outer s H E hr => body_usable_prime (C_is_prime.mono (by decide)) C_usable hr) sem_usable_prime
  have C_value_m : Cal P w K mg base 1 "value_m" ["f", "x", "n"] sp_value_m := cal_of D_value_m sc_value_m len_value_m (fun _ _ _ _ _ _ us hl => match us, hl with | [_, _, _], _ => rfl) (fun f cdv A outer s H E hr => body_value_m b_reversed hr) sem_value_m
  have C_lifted_root : Cal P w K mg base 3 "lifted_root" ["f", "root", "prime", "least"] sp_lifted_root := cal_of D_lifted_root sc_lifted_root len_lifted_root (fun _ _ _ _ _ _ us hl => match us, hl with | [_, _, _, _], _ => rfl) (fun f cdv A outer s H E hr => body_lifted_root C_derived (C_value_m.mono (by decide)) (C_inverse.mono (by decide)) hr) sem_lifted_root
  have C_fraction_roots : Cal P w K mg base 7 "fraction_roots" ["f"] sp_fraction_roots := cal_of D_fraction_roots sc_fraction_roots len_fraction_roots (fun _ _ _ _ _ _ us hl => match us, hl with | [_], _ => rfl) (fun f cdv A outer s H E hr => body_fraction_roots (C_ratio.mono (by decide)) C_usable_prime (C_value_m.mono (by decide)) (C_lifted_root.mono (by decide)) (C_sign.mono (by decide)) b_len b_abs b_max b_range hr) sem_fraction_roots
  have C_chain_of : Cal P w K mg base 4 "chain_of" ["p"] sp_chain_of := cal_of D_chain_of sc_chain_of len_chain_of (fun _ _ _ _ _ _ us hl => match us, hl with | [_], _ => rfl) (fun f cdv A outer s H E hr => body_chain_of (C_derived.mono (by decide)) C_remainder b_len b_tuple hr) sem_chain_of
  have C_changes : Cal P w K mg base 1 "changes" ["signs"] sp_changes := cal_of D_changes sc_changes len_changes (fun _ _ _ _ _ _ us hl => match us, hl with | [_], _ => rfl) (fun f cdv A outer s H E hr => body_changes  hr) sem_changes
  have C_changes_at : Cal P w K mg base 3 "changes_at" ["chain", "q"] sp_changes_at := cal_of D_changes_at sc_changes_at len_changes_at (fun _ _ _ _ _ _ us hl => match us, hl with | [_, _], _ => rfl) (fun f cdv A outer s H E hr => body_changes_at C_sign (C_changes.mono (by decide)) hr) sem_changes_at
  have C_bound_of : Cal P w K mg base 1 "bound_of" ["p"] sp_bound_of := cal_of D_bound_of sc_bound_of len_bound_of (fun _ _ _ _ _ _ us hl => match us, hl with | [_], _ => rfl) (fun f cdv A outer s H E hr => body_bound_of b_abs b_max hr) sem_bound_of
  have C_between : Cal P w K mg base 4 "between" ["p", "low", "high"] sp_between := cal_of D_between sc_between len_between (fun _ _ _ _ _ _ us hl => match us, hl with | [_, _, _], _ => rfl) (fun f cdv A outer s H E hr => body_between C_middle_q (C_sign.mono (by decide)) hr) sem_between
  have C_parted : Cal P w K mg base 5 "parted" ["p"] sp_parted := cal_of D_parted sc_parted len_parted (fun _ _ _ _ _ _ us hl => match us, hl with | [_], _ => rfl) (fun f cdv A outer s H E hr => body_parted C_chain_of (C_bound_of.mono (by decide)) (C_changes_at.mono (by decide)) C_between b_len hr) sem_parted
  have C_span_round : Cal P w K mg base 2 "span_round" ["low", "high", "exact"] sp_span_round := cal_of D_span_round sc_span_round len_span_round (fun _ _ _ _ _ _ us hl => match us, hl with | [_, _, _], _ => rfl) (fun f cdv A outer s H E hr => body_span_round C_less_q hr) sem_span_round
  have C_spans : Cal P w K mg base 8 "spans" ["p"] sp_spans := cal_of D_spans sc_spans len_spans (fun _ _ _ _ _ _ us hl => match us, hl with | [_], _ => rfl) (fun f cdv A outer s H E hr => body_spans (C_free.mono (by decide)) C_fraction_roots (C_parted.mono (by decide)) (C_span_round.mono (by decide)) b_len hr) sem_spans
  have C_square_floor : Cal P w K mg base 1 "square_floor" ["n"] sp_square_floor := cal_of D_square_floor sc_square_floor len_square_floor (fun _ _ _ _ _ _ us hl => match us, hl with | [_], _ => rfl) (fun f cdv A outer s H E hr => body_square_floor  hr) sem_square_floor
  have C_fraction_of : Cal P w K mg base 1 "fraction_of" ["key"] sp_fraction_of := cal_of D_fraction_of sc_fraction_of len_fraction_of (fun _ _ _ _ _ _ us hl => match us, hl with | [_], _ => rfl) (fun f cdv A outer s H E hr => body_fraction_of b_len hr) sem_fraction_of
  have C_sign_at : Cal P w K mg base 1 "sign_at" ["p", "n", "d"] sp_sign_at := cal_of D_sign_at sc_sign_at len_sign_at (fun _ _ _ _ _ _ us hl => match us, hl with | [_, _, _], _ => rfl) (fun f cdv A outer s H E hr => body_sign_at b_reversed hr) sem_sign_at
  have C_probe_of : Cal P w K mg base 9 "probe_of" ["key"] sp_probe_of := cal_of D_probe_of sc_probe_of len_probe_of (fun _ _ _ _ _ _ us hl => match us, hl with | [_], _ => rfl) (fun f cdv A outer s H E hr => body_probe_of C_spans (C_sign_at.mono (by decide)) b_len hr) sem_probe_of
  have C_side_of : Cal P w K mg base 2 "side_of" ["probe", "n", "d"] sp_side_of := cal_of D_side_of sc_side_of len_side_of (fun _ _ _ _ _ _ us hl => match us, hl with | [_, _, _], _ => rfl) (fun f cdv A outer s H E hr => body_side_of C_sign_at b_len hr) sem_side_of
  have C_grid_of : Cal P w K mg base 3 "grid_of" ["probe", "n"] sp_grid_of := cal_of D_grid_of sc_grid_of len_grid_of (fun _ _ _ _ _ _ us hl => match us, hl with | [_, _], _ => rfl) (fun f cdv A outer s H E hr => body_grid_of (C_square_floor.mono (by decide)) C_side_of b_len hr) sem_grid_of
  have C_near : Cal P w K mg base 10 "near" ["key", "width"] sp_near := cal_of D_near sc_near len_near (fun _ _ _ _ _ _ us hl => match us, hl with | [_, _], _ => rfl) (fun f cdv A outer s H E hr => body_near (C_fraction_of.mono (by decide)) C_probe_of (C_grid_of.mono (by decide)) (C_ratio.mono (by decide)) hr) sem_near
  have C_head : Cal P w K mg base 10 "head" ["key", "base", "place"] sp_head := cal_of D_head sc_head len_head (fun _ _ _ _ _ _ us hl => match us, hl with | [_, _, _], _ => rfl) (fun f cdv A outer s H E hr => body_head C_probe_of (C_power_of.mono (by decide)) (C_grid_of.mono (by decide)) hr) sem_head
  have C_law_source : Cal P w K mg base 1 "_law_source" ["script", "at"] sp_law_source := cal_of D_law_source sc_law_source len_law_source (fun _ _ _ _ _ _ us hl => match us, hl with | [_, _], _ => rfl) (fun f cdv A outer s H E hr => body_law_source b_len b_int b_sum b_abs hr) sem_law_source
  have C_law_pick : Cal P w K mg base 1 "_law_pick" ["source", "many"] sp_law_pick := cal_of D_law_pick sc_law_pick len_law_pick (fun _ _ _ _ _ _ us hl => match us, hl with | [_, _], _ => rfl) (fun f cdv A outer s H E hr => body_law_pick b_int hr) sem_law_pick
  have C_law_same : Cal P w K mg base 9 "_law_same" ["answer", "due"] sp_law_same := cal_same D_law_same sc_law_same rfl (fun n k C f cdv A outer s H E hr => body_law_same n C b_bool b_isinstance b_int b_str b_tuple b_list b_len b_range b_all hr) (fun _ _ _ _ _ _ us hl => match us, hl with | [_, _], _ => rfl) 9
  have C_law_power : Cal P w K mg base 1 "_law_power" ["base", "many"] sp_law_power := cal_of D_law_power sc_law_power len_law_power (fun _ _ _ _ _ _ us hl => match us, hl with | [_, _], _ => rfl) (fun f cdv A outer s H E hr => body_law_power b_range hr) sem_law_power
  have C_law_common : Cal P w K mg base 1 "_law_common" ["a", "b"] sp_law_common := cal_of D_law_common sc_law_common len_law_common (fun _ _ _ _ _ _ us hl => match us, hl with | [_, _], _ => rfl) (fun f cdv A outer s H E hr => body_law_common b_abs hr) sem_law_common
  have C_law_ratio : Cal P w K mg base 2 "_law_ratio" ["p", "q"] sp_law_ratio := cal_of D_law_ratio sc_law_ratio len_law_ratio (fun _ _ _ _ _ _ us hl => match us, hl with | [_, _], _ => rfl) (fun f cdv A outer s H E hr => body_law_ratio C_law_common hr) sem_law_ratio
  have C_law_isqrt : Cal P w K mg base 1 "_law_isqrt" ["n"] sp_law_isqrt := cal_of D_law_isqrt sc_law_isqrt len_law_isqrt (fun _ _ _ _ _ _ us hl => match us, hl with | [_], _ => rfl) (fun f cdv A outer s H E hr => body_law_isqrt  hr) sem_law_isqrt
  have C_law_surd : Cal P w K mg base 2 "_law_surd" ["a", "b", "c", "d"] sp_law_surd := cal_of D_law_surd sc_law_surd len_law_surd (fun _ _ _ _ _ _ us hl => match us, hl with | [_, _, _, _], _ => rfl) (fun f cdv A outer s H E hr => body_law_surd C_law_isqrt C_law_common hr) sem_law_surd
  have C_law_sign : Cal P w K mg base 1 "_law_sign" ["n"] sp_law_sign := cal_of D_law_sign sc_law_sign len_law_sign (fun _ _ _ _ _ _ us hl => match us, hl with | [_], _ => rfl) (fun f cdv A outer s H E hr => body_law_sign  hr) sem_law_sign
  have C_law_sign_two : Cal P w K mg base 2 "_law_sign_two" ["a", "b", "c"] sp_law_sign_two := cal_of D_law_sign_two sc_law_sign_two len_law_sign_two (fun _ _ _ _ _ _ us hl => match us, hl with | [_, _, _], _ => rfl) (fun f cdv A outer s H E hr => body_law_sign_two C_law_sign hr) sem_law_sign_two
  have C_law_sign_three : Cal P w K mg base 3 "_law_sign_three" ["a", "b", "c", "d", "e"] sp_law_sign_three := cal_of D_law_sign_three sc_law_sign_three len_law_sign_three (fun _ _ _ _ _ _ us hl => match us, hl with | [_, _, _, _, _], _ => rfl) (fun f cdv A outer s H E hr => body_law_sign_three C_law_sign_two (C_law_sign.mono (by decide)) hr) sem_law_sign_three
  have C_law_surd_order : Cal P w K mg base 4 "_law_surd_order" ["x", "y"] sp_law_surd_order := cal_of D_law_surd_order sc_law_surd_order len_law_surd_order (fun _ _ _ _ _ _ us hl => match us, hl with | [_, _], _ => rfl) (fun f cdv A outer s H E hr => body_law_surd_order C_law_sign_three hr) sem_law_surd_order
  have C_law_surd_floor : Cal P w K mg base 2 "_law_surd_floor" ["x", "n"] sp_law_surd_floor := cal_of D_law_surd_floor sc_law_surd_floor len_law_surd_floor (fun _ _ _ _ _ _ us hl => match us, hl with | [_, _], _ => rfl) (fun f cdv A outer s H E hr => body_law_surd_floor C_law_isqrt hr) sem_law_surd_floor
  have C_law_surd_key : Cal P w K mg base 2 "_law_surd_key" ["x"] sp_law_surd_key := cal_of D_law_surd_key sc_law_surd_key len_law_surd_key (fun _ _ _ _ _ _ us hl => match us, hl with | [_], _ => rfl) (fun f cdv A outer s H E hr => body_law_surd_key C_law_common b_tuple hr) sem_law_surd_key
  have C_law_wide : Cal P w K mg base 2 "_law_wide" ["source", "small", "great"] sp_law_wide := cal_of D_law_wide sc_law_wide len_law_wide (fun _ _ _ _ _ _ us hl => match us, hl with | [_, _, _], _ => rfl) (fun f cdv A outer s H E hr => body_law_wide C_law_pick hr) sem_law_wide
  have C_law_drawn_surd : Cal P w K mg base 3 "_law_drawn_surd" ["source", "roots", "great"] sp_law_drawn_surd := cal_of D_law_drawn_surd sc_law_drawn_surd len_law_drawn_surd (fun _ _ _ _ _ _ us hl => match us, hl with | [_, _, _], _ => rfl) (fun f cdv A outer s H E hr => body_law_drawn_surd (C_law_pick.mono (by decide)) C_law_wide C_law_surd hr) sem_law_drawn_surd
  have C_law_radical : Cal P w K mg base 2 "_law_radical" ["source"] sp_law_radical := cal_of D_law_radical sc_law_radical len_law_radical (fun _ _ _ _ _ _ us hl => match us, hl with | [_], _ => rfl) (fun f cdv A outer s H E hr => body_law_radical C_law_pick hr) sem_law_radical
  have C_law_root_floor : Cal P w K mg base 2 "_law_root_floor" ["one", "n"] sp_law_root_floor := cal_of D_law_root_floor sc_law_root_floor len_law_root_floor (fun _ _ _ _ _ _ us hl => match us, hl with | [_, _], _ => rfl) (fun f cdv A outer s H E hr => body_law_root_floor C_law_power hr) sem_law_root_floor
  have C_law_thing : Cal P w K mg base 4 "_law_thing" ["source"] sp_law_thing := cal_of D_law_thing sc_law_thing len_law_thing (fun _ _ _ _ _ _ us hl => match us, hl with | [_], _ => rfl) (fun f cdv A outer s H E hr => body_law_thing (C_law_pick.mono (by decide)) (C_law_radical.mono (by decide)) C_law_drawn_surd hr) sem_law_thing
  have C_law_thing_floor : Cal P w K mg base 3 "_law_thing_floor" ["one", "n"] sp_law_thing_floor := cal_of D_law_thing_floor sc_law_thing_floor len_law_thing_floor (fun _ _ _ _ _ _ us hl => match us, hl with | [_, _], _ => rfl) (fun f cdv A outer s H E hr => body_law_thing_floor C_law_surd_floor C_law_root_floor hr) sem_law_thing_floor
  have C_law_key_of : Cal P w K mg base 3 "_law_key_of" ["one"] sp_law_key_of := cal_of D_law_key_of sc_law_key_of len_law_key_of (fun _ _ _ _ _ _ us hl => match us, hl with | [_], _ => rfl) (fun f cdv A outer s H E hr => body_law_key_of C_law_surd_key hr) sem_law_key_of
  have C_law_against : Cal P w K mg base 5 "_law_against" ["one", "q"] sp_law_against := cal_of D_law_against sc_law_against len_law_against (fun _ _ _ _ _ _ us hl => match us, hl with | [_, _], _ => rfl) (fun f cdv A outer s H E hr => body_law_against C_law_surd_order (C_law_power.mono (by decide)) (C_law_sign.mono (by decide)) b_abs hr) sem_law_against
  have C_law_is_fraction : Cal P w K mg base 2 "_law_is_fraction" ["q"] sp_law_is_fraction := cal_of D_law_is_fraction sc_law_is_fraction len_law_is_fraction (fun _ _ _ _ _ _ us hl => match us, hl with | [_], _ => rfl) (fun f cdv A outer s H E hr => body_law_is_fraction C_law_common b_tuple b_isinstance b_len b_int b_bool hr) sem_law_is_fraction
  have C_law_near : Cal P w K mg base 11 "_law_near" ["one", "width"] sp_law_near := cal_of D_law_near sc_law_near len_law_near (fun _ _ _ _ _ _ us hl => match us, hl with | [_, _], _ => rfl) (fun f cdv A outer s H E hr => body_law_near (C_law_key_of.mono (by decide)) C_near (C_law_is_fraction.mono (by decide)) (C_law_same.mono (by decide)) (C_law_against.mono (by decide)) b_tuple b_isinstance b_len hr) sem_law_near
  exact dfn F sc_law len_law (fun cdv A outer s H E hr => body_law (C_law_source.mono (by decide)) (C_law_thing.mono (by decide)) (C_law_key_of.mono (by decide)) (C_law_pick.mono (by decide)) (C_head.mono (by decide)) (C_law_power.mono (by decide)) (C_law_thing_floor.mono (by decide)) (C_law_same.mono (by decide)) (C_law_ratio.mono (by decide)) C_law_near hr) sem_law
end K15
open PySem PySem.W PySem.Calls PyProof.Rows
theorem PySem.Challenge.cw_readapart_k15_heads_and_near_fractions_holds : PySem.Challenge.rw_readapart_k15_heads_and_near_fractions.Holds := by
  w_on; o_law
  refine HandSHeadRun.head_any (r := OpenLaw.row PySem.Challenge.rw_readapart_k15_heads_and_near_fractions) (q := view (OpenLaw.row PySem.Challenge.rw_readapart_k15_heads_and_near_fractions).prog [79]) (H := K15.hk) (ob := K15.ob) (M := 4000) (loose := K15.loose) (d := HandSHeadRun.topDef (OpenLaw.row PySem.Challenge.rw_readapart_k15_heads_and_near_fractions).prog 79) (kwd := []) K15.ob_eq
    (by kernel_rfl) (fun s => by kernel_rfl) K15.runE (by kernel_rfl) (by kernel_rfl) (by kernel_rfl) (by rfl) (by first | assumption | decide +kernel) (by decide +kernel) ⟨rfl, rfl, rfl, rfl, rfl, by decide +kernel⟩ ?hw ?hc
  case hw => w_witness2
  case hc =>
    refine L2.walk_ofE (l := PySem.Challenge.rw_readapart_k15_heads_and_near_fractions) (n := 63) (k := 12) (x := "script") (CX := L2.CX0) rfl (by decide) (by kernel_rfl) ⟨rfl, by decide, by decide⟩ ?F (fun _ _ _ _ z => z)
    intro w mg fa h Y G hmg0
    obtain ⟨K, KX, c⟩ := Y
    have hmg : mg ("law" : PySem.Str) = some (.ref fa) := by
      have e : (HandSHeadRun.topDef (OpenLaw.row PySem.Challenge.rw_readapart_k15_heads_and_near_fractions).prog 79).name = ("law" : PySem.Str) := by kernel_rfl
      rw [← e]
      exact hmg0
    obtain ⟨fd, hb, hF⟩ := K15.facts (P := (PySem.Challenge.rw_readapart_k15_heads_and_near_fractions).prog) (w := w) KX G hmg c
    exact ⟨K, fd, DL.liftSp K K15.sp_law, KX, hb, fun H a ns _ _ hS => DL.law_sp (fun ns M Q E q => ⟨ns, rfl, q⟩) H a ns hS, hF⟩
