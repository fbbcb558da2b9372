import PyProof.Rows.All
import Wide.All
import OpenK.AllK
import Wide.FinOn
import HandS.ForMost
import KE.KStateDown
import Lean
import HandS.Base
import HandS.Call
import HandS.Ends
import HandS.More
import HandS.Words
import HandS.WordsExc
import HandS.Defaults
import HandS.Head0
import HandS.Head1
import HandS.Head2
import HandS.HeadEnd
import HandS.HeadHook1
import HandS.HeadHook2
import HandS.HeadHook3
import HandS.HeadHook4
import HandS.HeadWalk
import HandS.Nested
import HandS.SetKeys
import HandS.DictComp
import PyProof.Rows.SortShellAny
import HandS.Walk
import HandS.IsInst
import HandS.FStr
import HandS.Wide
import HandS.Codes
import HandS.Small
import HandS.EndTab
import PySem.Challenge.RW_clearyard_k78_whole_accounts_within
set_option Elab.async false
set_option linter.all false
set_option autoImplicit false
set_option maxRecDepth 100000
set_option maxHeartbeats 0
/-! K78A: the mathematics of the sum trees: texts that are told apart, trees with marks, paths, rows. No program here. -/
namespace K78
open PySem L2 TL
/-! ### texts -/
theorem cut_blank {A A' B B' : List Nat} (h : A ++ 32 :: B = A' ++ 32 :: B') (n : 32 ∉ A) (n' : 32 ∉ A') : A = A' ∧ B = B' := by
  induction A generalizing A' with
  | nil =>
    cases A' with
    | nil => exact ⟨rfl, (List.cons.inj h).2⟩
    | cons a t =>
      have q := (List.cons.inj h).1
      exact absurd (by rw [← q]; exact List.mem_cons_self) n'
  | cons a t ih =>
    cases A' with
    | nil =>
      have q := (List.cons.inj h).1
      exact absurd (by rw [q]; exact List.mem_cons_self) n
    | cons a' t' =>
      obtain ⟨q1, q2⟩ := List.cons.inj h
      obtain ⟨e1, e2⟩ := ih q2 (fun z => n (List.mem_cons_of_mem _ z)) (fun z => n' (List.mem_cons_of_mem _ z))
      exact ⟨by rw [q1, e1], e2⟩
/-- a number's text -/
def nt (x : Int) : Str := Str.ofString (toString x)
theorem tl_nt {x : Int} (h : 0 ≤ x) : tl (nt x) = numL x.toNat := by
  obtain ⟨m, rfl⟩ := Int.eq_ofNat_of_zero_le h
  exact tl_num m
theorem nt_free {x : Int} (h : 0 ≤ x) : 32 ∉ tl (nt x) := by
  rw [tl_nt h]
  exact numL_free (.inl (by decide))
theorem nt_inj {x y : Int} (h : 0 ≤ x) (h' : 0 ≤ y) (e : tl (nt x) = tl (nt y)) : x = y := by
  rw [tl_nt h, tl_nt h'] at e
  have q := numL_inj e
  omega
theorem tl_inj {a b : Str} (e : tl a = tl b) : a = b := by
  have h : (⟨(tl a).toArray⟩ : Str) = ⟨(tl b).toArray⟩ := by rw [e]
  rw [mk_tl, mk_tl] at h
  exact h
/-- a name -/
def Nm (n : Str) : Prop := 1 ≤ n.length ∧ n.length ≤ 8 ∧ ∀ c ∈ tl n, 97 ≤ c ∧ c ≤ 122
theorem Nm.free {n : Str} (h : Nm n) : 32 ∉ tl n := fun z => by
  have q := h.2.2 32 z
  omega
/-- the texts that the digest is asked of -/
def leafT (n : Str) (x : Int) : Str := (((Str.empty ++ Str.ofString "leaf ") ++ n) ++ Str.ofString " ") ++ nt x
def nodeT (a b c d : Int) : Str := (((((((Str.empty ++ Str.ofString "node ") ++ nt a) ++ Str.ofString " ") ++ nt b) ++ Str.ofString " ") ++ nt c) ++ Str.ofString " ") ++ nt d
theorem tl_blank : tl (Str.ofString " ") = [32] := by decide +kernel
theorem tl_leafW : tl (Str.empty ++ Str.ofString "leaf ") = [108, 101, 97, 102, 32] := by decide +kernel
theorem tl_nodeW : tl (Str.empty ++ Str.ofString "node ") = [110, 111, 100, 101, 32] := by decide +kernel
theorem tl_leafT (n : Str) (x : Int) : tl (leafT n x) = [108, 101, 97, 102, 32] ++ (tl n ++ 32 :: tl (nt x)) := by
  unfold leafT
  rw [tl_append, tl_append, tl_append, tl_leafW, tl_blank]
  simp only [List.append_assoc, List.singleton_append]
theorem tl_nodeT (a b c d : Int) : tl (nodeT a b c d) = [110, 111, 100, 101, 32] ++ (tl (nt a) ++ 32 :: (tl (nt b) ++ 32 :: (tl (nt c) ++ 32 :: tl (nt d)))) := by
  unfold nodeT
  rw [tl_append, tl_append, tl_append, tl_append, tl_append, tl_append, tl_append, tl_nodeW, tl_blank]
  simp only [List.append_assoc, List.cons_append, List.nil_append]
theorem leafT_inj {n n' : Str} {x x' : Int} (h : Nm n) (h' : Nm n') (p : 0 ≤ x) (p' : 0 ≤ x') (e : leafT n x = leafT n' x') : n = n' ∧ x = x' := by
  have q := congrArg tl e
  rw [tl_leafT, tl_leafT] at q
  obtain ⟨q1, q2⟩ := cut_blank (List.append_cancel_left q) h.free h'.free
  exact ⟨tl_inj q1, nt_inj p p' q2⟩
theorem nodeT_inj {a b c d a' b' c' d' : Int} (pa : 0 ≤ a) (pb : 0 ≤ b) (pc : 0 ≤ c) (pd : 0 ≤ d) (pa' : 0 ≤ a') (pb' : 0 ≤ b') (pc' : 0 ≤ c') (pd' : 0 ≤ d') (e : nodeT a b c d = nodeT a' b' c' d') : a = a' ∧ b = b' ∧ c = c' ∧ d = d' := by
  have q := congrArg tl e
  rw [tl_nodeT, tl_nodeT] at q
  obtain ⟨q1, q2⟩ := cut_blank (List.append_cancel_left q) (nt_free pa) (nt_free pa')
  obtain ⟨q3, q4⟩ := cut_blank q2 (nt_free pb) (nt_free pb')
  obtain ⟨q5, q6⟩ := cut_blank q4 (nt_free pc) (nt_free pc')
  exact ⟨nt_inj pa pa' q1, nt_inj pb pb' q3, nt_inj pc pc' q5, nt_inj pd pd' q6⟩
theorem leaf_node {n : Str} {x a b c d : Int} (e : leafT n x = nodeT a b c d) : False := by
  have q := congrArg tl e
  rw [tl_leafT, tl_nodeT] at q
  have q1 := (List.cons.inj q).1
  exact absurd q1 (by decide)
/-! ### what the digest has met -/
/-- the text z has the mark m -/
def R (zs : List Str) (z : Str) (m : Int) : Prop := ∃ i : Nat, zs[i]? = some z ∧ m = 7 * (i : Int) + 3
theorem R.mono {zs zs' : List Str} {z : Str} {m : Int} (h : R zs z m) (e : zs <+: zs') : R zs' z m := by
  obtain ⟨i, h1, h2⟩ := h
  obtain ⟨r, rfl⟩ := e
  refine ⟨i, ?_, h2⟩
  rw [List.getElem?_append_left (List.getElem?_eq_some_iff.mp h1).1]
  exact h1
theorem R.text {zs : List Str} {z z' : Str} {m : Int} (h : R zs z m) (h' : R zs z' m) : z = z' := by
  obtain ⟨i, h1, h2⟩ := h
  obtain ⟨j, h3, h4⟩ := h'
  have e : i = j := by omega
  subst e
  rw [h1] at h3
  exact Option.some.inj h3
theorem R.mark {zs : List Str} {z : Str} {m m' : Int} (nd : zs.Nodup) (h : R zs z m) (h' : R zs z m') : m = m' := by
  obtain ⟨i, h1, h2⟩ := h
  obtain ⟨j, h3, h4⟩ := h'
  obtain ⟨l1, e1⟩ := List.getElem?_eq_some_iff.mp h1
  obtain ⟨l2, e2⟩ := List.getElem?_eq_some_iff.mp h3
  have e : i = j := (List.getElem_inj nd).mp (e1.trans e2.symm)
  subst e
  omega
theorem R.pos {zs : List Str} {z : Str} {m : Int} (h : R zs z m) : 0 ≤ m := by
  obtain ⟨i, _, h2⟩ := h
  omega
theorem R.lt {zs : List Str} {z : Str} {m : Int} (h : R zs z m) : m < 7 * (zs.length : Int) + 3 := by
  obtain ⟨i, h1, h2⟩ := h
  have l := (List.getElem?_eq_some_iff.mp h1).1
  omega
/-! ### trees with marks -/
inductive T where
  | leaf (n : Str) (x m : Int)
  | node (a b : T) (m : Int)
def T.mk : T → Int
  | .leaf _ _ m => m
  | .node _ _ m => m
def T.sm : T → Int
  | .leaf _ x _ => x
  | .node a b _ => a.sm + b.sm
def T.flat : T → List (Str × Int)
  | .leaf n x _ => [(n, x)]
  | .node a b _ => a.flat ++ b.flat
def Ok (zs : List Str) : T → Prop
  | .leaf n x m => Nm n ∧ 0 ≤ x ∧ R zs (leafT n x) m
  | .node a b m => Ok zs a ∧ Ok zs b ∧ R zs (nodeT a.mk a.sm b.mk b.sm) m
theorem Ok.mono {zs zs' : List Str} (e : zs <+: zs') : ∀ {t : T}, Ok zs t → Ok zs' t
  | .leaf _ _ _, ⟨h1, h2, h3⟩ => ⟨h1, h2, h3.mono e⟩
  | .node _ _ _, ⟨h1, h2, h3⟩ => ⟨Ok.mono e h1, Ok.mono e h2, h3.mono e⟩
theorem Ok.mk0 {zs : List Str} : ∀ {t : T}, Ok zs t → 0 ≤ t.mk
  | .leaf _ _ _, ⟨_, _, h3⟩ => h3.pos
  | .node _ _ _, ⟨_, _, h3⟩ => h3.pos
theorem Ok.mkLt {zs : List Str} : ∀ {t : T}, Ok zs t → t.mk < 7 * (zs.length : Int) + 3
  | .leaf _ _ _, ⟨_, _, h3⟩ => h3.lt
  | .node _ _ _, ⟨_, _, h3⟩ => h3.lt
theorem Ok.sm0 {zs : List Str} : ∀ {t : T}, Ok zs t → 0 ≤ t.sm
  | .leaf _ _ _, ⟨_, h2, _⟩ => h2
  | .node _ _ _, ⟨h1, h2, _⟩ => Int.add_nonneg (Ok.sm0 h1) (Ok.sm0 h2)
/-- two trees with one root mark are one -/
theorem Ok.inj {zs : List Str} : ∀ {t u : T}, Ok zs t → Ok zs u → t.mk = u.mk → t = u
  | .leaf n x m, .leaf n' x' m', ⟨h1, h2, h3⟩, ⟨k1, k2, k3⟩, e => by
    have e' : m = m' := e
    subst e'
    obtain ⟨rfl, rfl⟩ := leafT_inj h1 k1 h2 k2 (h3.text k3)
    rfl
  | .leaf n x m, .node a b m', ⟨_, _, h3⟩, ⟨_, _, k3⟩, e => by
    have e' : m = m' := e
    subst e'
    exact (leaf_node (h3.text k3)).elim
  | .node a b m, .leaf n x m', ⟨_, _, h3⟩, ⟨_, _, k3⟩, e => by
    have e' : m = m' := e
    subst e'
    exact (leaf_node (k3.text h3)).elim
  | .node a b m, .node a' b' m', ⟨h1, h2, h3⟩, ⟨k1, k2, k3⟩, e => by
    have e' : m = m' := e
    subst e'
    obtain ⟨q1, _, q3, _⟩ := nodeT_inj h1.mk0 h1.sm0 h2.mk0 h2.sm0 k1.mk0 k1.sm0 k2.mk0 k2.sm0 (h3.text k3)
    rw [Ok.inj h1 k1 q1, Ok.inj h2 k2 q3]
theorem T.sm_flat : ∀ t : T, t.sm = (t.flat.map (·.2)).sum
  | .leaf n x m => by simp [T.sm, T.flat]
  | .node a b m => by
    show a.sm + b.sm = ((a.flat ++ b.flat).map (·.2)).sum
    rw [List.map_append, List.sum_append, ← T.sm_flat a, ← T.sm_flat b]
/-! ### paths: what is beside, from a part up to the whole; true: it stands on the left -/
abbrev Path := List (Bool × T)
def Plug (t : T) : Path → T → Prop
  | [], u => t = u
  | (true, s) :: r, u => ∃ m, Plug (.node s t m) r u
  | (false, s) :: r, u => ∃ m, Plug (.node t s m) r u
theorem Plug.eq : ∀ {p : Path} {t t' u : T}, Plug t p u → Plug t' p u → t = t'
  | [], _, _, _, h, h' => h.trans h'.symm
  | (true, s) :: r, _, _, _, ⟨_, h⟩, ⟨_, h'⟩ => (T.node.inj (Plug.eq h h')).2.1
  | (false, s) :: r, _, _, _, ⟨_, h⟩, ⟨_, h'⟩ => (T.node.inj (Plug.eq h h')).1
theorem Plug.snoc : ∀ {p : Path} {t u : T} (b : Bool) (s : T) (m : Int), Plug t p u → Plug t (p ++ [(b, s)]) (if b then .node s u m else .node u s m)
  | [], _, _, true, s, m, h => ⟨m, by rw [show _ = _ from h]; rfl⟩
  | [], _, _, false, s, m, h => ⟨m, by rw [show _ = _ from h]; rfl⟩
  | (true, _) :: r, _, _, b, s, m, ⟨k, h⟩ => ⟨k, Plug.snoc b s m h⟩
  | (false, _) :: r, _, _, b, s, m, ⟨k, h⟩ => ⟨k, Plug.snoc b s m h⟩
theorem Plug.ok {zs : List Str} : ∀ {p : Path} {t u : T}, Plug t p u → Ok zs u → Ok zs t ∧ ∀ q ∈ p, Ok zs q.2
  | [], _, _, h, k => by
    have h' : _ = _ := h
    rw [h']
    exact ⟨k, fun q hq => by cases hq⟩
  | (true, s) :: r, _, _, ⟨_, h⟩, k => by
    obtain ⟨⟨h1, h2, _⟩, h3⟩ := Plug.ok h k
    refine ⟨h2, fun q hq => ?_⟩
    rcases List.mem_cons.mp hq with e | e
    · rw [e]
      exact h1
    · exact h3 q e
  | (false, s) :: r, _, _, ⟨_, h⟩, k => by
    obtain ⟨⟨h1, h2, _⟩, h3⟩ := Plug.ok h k
    refine ⟨h1, fun q hq => ?_⟩
    rcases List.mem_cons.mp hq with e | e
    · rw [e]
      exact h2
    · exact h3 q e
/-- the way up is told by the texts -/
theorem Plug.one {zs : List Str} (nd : zs.Nodup) : ∀ {p : Path} {t u u' : T}, Plug t p u → Plug t p u' → Ok zs u → Ok zs u' → u = u'
  | [], _, _, _, h, h', _, _ => (show _ = _ from h).symm.trans h'
  | (true, s) :: r, _, _, _, ⟨m, h⟩, ⟨m', h'⟩, k, k' => by
    obtain ⟨⟨_, _, q⟩, _⟩ := Plug.ok h k
    obtain ⟨⟨_, _, q'⟩, _⟩ := Plug.ok h' k'
    have e := R.mark nd q q'
    subst e
    exact Plug.one nd h h' k k'
  | (false, s) :: r, _, _, _, ⟨m, h⟩, ⟨m', h'⟩, k, k' => by
    obtain ⟨⟨_, _, q⟩, _⟩ := Plug.ok h k
    obtain ⟨⟨_, _, q'⟩, _⟩ := Plug.ok h' k'
    have e := R.mark nd q q'
    subst e
    exact Plug.one nd h h' k k'
theorem Plug.flat : ∀ {p : Path} {t t' u u' : T}, Plug t p u → Plug t' p u' → t.flat = t'.flat → u.flat = u'.flat
  | [], _, _, _, _, h, h', e => by
    have a : _ = _ := h
    have b : _ = _ := h'
    rw [← a, ← b, e]
  | (true, s) :: r, _, _, _, _, ⟨m, h⟩, ⟨m', h'⟩, e => Plug.flat h h' (by simp only [T.flat, e])
  | (false, s) :: r, _, _, _, _, ⟨m, h⟩, ⟨m', h'⟩, e => Plug.flat h h' (by simp only [T.flat, e])
theorem Plug.sum : ∀ {p : Path} {t u : T}, Plug t p u → t.sm + (p.map fun q => q.2.sm).sum = u.sm
  | [], _, _, h => by
    have a : _ = _ := h
    rw [a]
    simp
  | (true, s) :: r, t, u, ⟨m, h⟩ => by
    have q : s.sm + t.sm + (r.map fun q => q.2.sm).sum = u.sm := Plug.sum h
    rw [List.map_cons, List.sum_cons]
    show t.sm + (s.sm + _) = _
    omega
  | (false, s) :: r, t, u, ⟨m, h⟩ => by
    have q : t.sm + s.sm + (r.map fun q => q.2.sm).sum = u.sm := Plug.sum h
    rw [List.map_cons, List.sum_cons]
    show t.sm + (s.sm + _) = _
    omega
/-! ### rows -/
def Up : List T → List T → Prop
  | a :: b :: r, u :: us => (∃ m, u = .node a b m) ∧ Up r us
  | _ :: _ :: _, [] => False
  | l, us => us = l
theorem Up.pair : ∀ {ts us : List T} (j : Nat) {a b : T}, Up ts us → ts[2 * j]? = some a → ts[2 * j + 1]? = some b → ∃ m, us[j]? = some (.node a b m)
  | a :: b :: r, u :: us, 0, _, _, ⟨⟨m, e⟩, _⟩, h1, h2 => ⟨m, by
    have e1 := Option.some.inj h1
    have e2 := Option.some.inj h2
    subst e1 e2
    rw [e] <;> rfl⟩
  | a :: b :: r, u :: us, j + 1, _, _, ⟨_, h⟩, h1, h2 => Up.pair (us := us) j h h1 h2
  | _ :: _ :: _, [], _, _, _, h, _, _ => False.elim h
  | [], _, _, _, _, _, h1, _ => by cases h1
  | [a], _, 0, _, _, _, _, h2 => by cases h2
  | [a], _, j + 1, _, _, _, h1, _ => by cases h1
theorem Up.last : ∀ {ts us : List T} (j : Nat) {a : T}, Up ts us → ts[2 * j]? = some a → ts[2 * j + 1]? = none → us[j]? = some a
  | a :: b :: r, u :: us, 0, _, _, _, h2 => by cases h2
  | a :: b :: r, u :: us, j + 1, _, ⟨_, h⟩, h1, h2 => Up.last (us := us) j h h1 h2
  | _ :: _ :: _, [], _, _, h, _, _ => False.elim h
  | [], _, _, _, _, h1, _ => by cases h1
  | [a], _, 0, _, h, h1, _ => by
    have h' : _ = [a] := h
    rw [h']
    exact h1
  | [a], _, j + 1, _, _, h1, _ => by cases h1
theorem Up.len : ∀ {ts us : List T}, Up ts us → us.length = (ts.length + 1) / 2
  | a :: b :: r, u :: us, ⟨_, h⟩ => by
    have q := Up.len h
    simp only [List.length_cons]
    omega
  | _ :: _ :: _, [], h => False.elim h
  | [], _, h => by
    have h' : _ = [] := h
    rw [h'] <;> rfl
  | [a], _, h => by
    have h' : _ = [a] := h
    rw [h']
    simp
theorem Up.flat : ∀ {ts us : List T}, Up ts us → us.flatMap T.flat = ts.flatMap T.flat
  | a :: b :: r, u :: us, ⟨⟨m, e⟩, h⟩ => by
    rw [List.flatMap_cons, List.flatMap_cons, List.flatMap_cons, Up.flat h, e]
    show (a.flat ++ b.flat) ++ _ = _
    rw [List.append_assoc]
  | _ :: _ :: _, [], h => False.elim h
  | [], _, h => by
    have h' : _ = [] := h
    rw [h']
  | [a], _, h => by
    have h' : _ = [a] := h
    rw [h']
theorem Up.snoc : ∀ {ts us : List T} (a b : T) (m : Int), Up ts us → ts.length = 2 * us.length → Up (ts ++ [a, b]) (us ++ [.node a b m])
  | a :: b :: r, u :: us, x, y, m, ⟨e, h⟩, hl => ⟨e, Up.snoc (us := us) x y m h (by simp only [List.length_cons] at hl; omega)⟩
  | _ :: _ :: _, [], _, _, _, h, _ => False.elim h
  | [], us, x, y, m, h, _ => by
    have h' : us = [] := h
    subst h'
    exact ⟨⟨m, rfl⟩, rfl⟩
  | [a], us, _, _, _, h, hl => by
    have h' : us = [a] := h
    subst h'
    exact absurd hl (by simp)
theorem Up.fin : ∀ {ts us : List T} {r : List T}, Up ts us → ts.length = 2 * us.length → r.length ≤ 1 → Up (ts ++ r) (us ++ r)
  | a :: b :: r', u :: us, r, ⟨e, h⟩, hl, hr => ⟨e, Up.fin (us := us) h (by simp only [List.length_cons] at hl; omega) hr⟩
  | _ :: _ :: _, [], _, h, _, _ => False.elim h
  | [], us, r, h, _, hr => by
    have h' : us = [] := h
    subst h'
    match r, hr with
    | [], _ => exact rfl
    | [x], _ => exact rfl
    | _ :: _ :: _, hr => exact absurd hr (by simp)
  | [a], us, _, h, hl, _ => by
    have h' : us = [a] := h
    subst h'
    exact absurd hl (by simp)
/-- rows, each above the one ahead of it -/
def Ch (fs : List (List T)) : Prop := ∀ (k : Nat) (r s : List T), fs[k]? = some r → fs[k + 1]? = some s → Up r s
theorem Ch.one (r : List T) : Ch [r] := fun k a b h1 h2 => by
  rw [List.getElem?_cons_succ] at h2
  cases h2
theorem Ch.snoc {fs : List (List T)} {r s : List T} (c : Ch (fs ++ [r])) (u : Up r s) : Ch (fs ++ [r] ++ [s]) := fun k a b h1 h2 => by
  have hl := (List.getElem?_eq_some_iff.mp h2).1
  simp only [List.length_append, List.length_singleton] at hl
  by_cases h : k + 1 < (fs ++ [r]).length
  · rw [List.getElem?_append_left (by omega)] at h1
    rw [List.getElem?_append_left h] at h2
    exact c k a b h1 h2
  · simp only [List.length_append, List.length_singleton] at h
    have e : k = fs.length := by omega
    subst e
    rw [List.getElem?_append_left (by simp), List.getElem?_append_right (Nat.le_refl _), Nat.sub_self] at h1
    rw [List.getElem?_append_right (by simp)] at h2
    simp at h1 h2
    subst h1 h2
    exact u
/-- one step of a share, up a row -/
theorem step_up {p : Path} {t u : T} {r s : List T} {at_ : Nat} (h : Plug t p u) (hu : Up r s) (ha : r[at_]? = some u) :
    (∀ b, at_ % 2 = 1 → r[at_ - 1]? = some b → ∃ m, Plug t (p ++ [(true, b)]) (.node b u m) ∧ s[at_ / 2]? = some (.node b u m)) ∧
    (∀ b, at_ % 2 ≠ 1 → r[at_ + 1]? = some b → ∃ m, Plug t (p ++ [(false, b)]) (.node u b m) ∧ s[at_ / 2]? = some (.node u b m)) ∧
    (at_ % 2 ≠ 1 → r[at_ + 1]? = none → s[at_ / 2]? = some u) := by
  refine ⟨fun b o hb => ?_, fun b o hb => ?_, fun o hb => ?_⟩
  · have e1 : at_ - 1 = 2 * (at_ / 2) := by omega
    have e2 : at_ = 2 * (at_ / 2) + 1 := by omega
    obtain ⟨m, q⟩ := hu.pair (at_ / 2) (by rw [← e1]; exact hb) (by rw [← e2]; exact ha)
    exact ⟨m, Plug.snoc true b m h, q⟩
  · have e1 : at_ = 2 * (at_ / 2) := by omega
    obtain ⟨m, q⟩ := hu.pair (at_ / 2) (by rw [← e1]; exact ha) (by rw [← e1]; exact hb)
    exact ⟨m, Plug.snoc false b m h, q⟩
  · have e1 : at_ = 2 * (at_ / 2) := by omega
    exact hu.last (at_ / 2) (by rw [← e1]; exact ha) (by rw [← e1]; exact hb)
theorem sums_flat : ∀ ts : List T, (ts.map T.sm).sum = ((ts.flatMap T.flat).map (·.2)).sum
  | [] => rfl
  | t :: ts => by
    rw [List.map_cons, List.sum_cons, List.flatMap_cons, List.map_append, List.sum_append, sums_flat ts, T.sm_flat]
theorem Up.sum {ts us : List T} (u : Up ts us) : (us.map T.sm).sum = (ts.map T.sm).sum := by
  rw [sums_flat, sums_flat, u.flat]
theorem le_sum : ∀ {ts : List T} {t : T}, (∀ u ∈ ts, 0 ≤ u.sm) → t ∈ ts → t.sm ≤ (ts.map T.sm).sum
  | [], _, _, h => by cases h
  | a :: r, t, h0, h => by
    have q : 0 ≤ (r.map T.sm).sum := by
      clear h
      induction r with
      | nil => exact Int.le_refl 0
      | cons b r ih =>
        rw [List.map_cons, List.sum_cons]
        have := ih fun u hu => h0 u (by rcases List.mem_cons.mp hu with e | e; rw [e]; exact List.mem_cons_self; exact List.mem_cons_of_mem _ (List.mem_cons_of_mem _ e))
        have := h0 b (List.mem_cons_of_mem _ List.mem_cons_self)
        omega
    rw [List.map_cons, List.sum_cons]
    rcases List.mem_cons.mp h with e | e
    · rw [e]
      omega
    · have := le_sum (fun u hu => h0 u (List.mem_cons_of_mem _ hu)) e
      have := h0 a List.mem_cons_self
      omega
/-! ### small numbers -/
theorem small_log {i : Int} (h0 : 0 ≤ i) (h : i < 2 ^ 100) : i.natAbs.log2 < 1920 := by
  by_cases z : i.natAbs = 0
  · rw [z]
    decide
  · refine (Nat.log2_lt z).mpr (Nat.lt_of_lt_of_le (m := 2 ^ 100) (by omega) (Nat.pow_le_pow_right (by decide) (by decide)))
/-! ### accounts -/
def Acc (ps : List (Str × Int)) : Prop := (∀ p ∈ ps, Nm p.1 ∧ 0 ≤ p.2 ∧ p.2 ≤ 10 ^ 12) ∧ (ps.map (·.1)).Nodup ∧ 1 ≤ ps.length ∧ ps.length ≤ 64
def num (ps : List (Str × Int)) (n : Str) : Int := (ps.lookup n).getD 0
theorem look_mem : ∀ {ps : List (Str × Int)} {n : Str}, n ∈ ps.map (·.1) → ∃ x, ps.lookup n = some x ∧ (n, x) ∈ ps
  | [], n, h => by cases h
  | (k, x) :: r, n, h => by
    rw [List.lookup_cons]
    by_cases e : n = k
    · subst e
      exact ⟨x, by simp, List.mem_cons_self⟩
    · have q : (n == k) = false := by simp [e]
      rw [q]
      rcases List.mem_cons.mp h with z | z
      · exact absurd z e
      · obtain ⟨y, h1, h2⟩ := look_mem z
        exact ⟨y, h1, List.mem_cons_of_mem _ h2⟩
theorem look_none : ∀ {ps : List (Str × Int)} {n : Str}, n ∉ ps.map (·.1) → ps.lookup n = none
  | [], n, h => rfl
  | (k, x) :: r, n, h => by
    rw [List.lookup_cons]
    have q : (n == k) = false := by
      simp only [beq_eq_false_iff_ne]
      exact fun z => h (by rw [z]; exact List.mem_cons_self)
    rw [q]
    exact look_none fun z => h (List.mem_cons_of_mem _ z)
/-- the accounts in a row -/
def rowOf (ys : List Str) (ps : List (Str × Int)) : List (Str × Int) := ys.map fun n => (n, num ps n)
theorem rowOf_eq {ys ys' : List Str} {ps ps' : List (Str × Int)} (h : ys.Perm (ps.map (·.1))) (h' : ys'.Perm (ps'.map (·.1))) (e : rowOf ys ps = rowOf ys' ps') (n : Str) : ps.lookup n = ps'.lookup n := by
  have e1 : ys = ys' := by
    have q := congrArg (List.map (·.1)) e
    unfold rowOf at q
    simp only [List.map_map, Function.comp_def, List.map_id'] at q
    exact q
  subst e1
  by_cases hn : n ∈ ys
  · obtain ⟨x, h1, _⟩ := look_mem (h.mem_iff.mp hn)
    obtain ⟨x', h2, _⟩ := look_mem (h'.mem_iff.mp hn)
    have q : num ps n = num ps' n := by
      obtain ⟨i, hi, ei⟩ := List.mem_iff_getElem.mp hn
      have a := congrArg (fun l : List (Str × Int) => l[i]?) e
      unfold rowOf at a
      simp only [List.getElem?_map, List.getElem?_eq_getElem hi, Option.map_some, ei] at a
      exact (Prod.mk.inj (Option.some.inj a)).2
    unfold num at q
    rw [h1, h2] at q ⊢
    exact congrArg some q
  · rw [look_none fun z => hn (h.mem_iff.mpr z), look_none fun z => hn (h'.mem_iff.mpr z)]
end K78
/-! K78H: the head: where each def stands, the facts by names, the top's run. -/
namespace K78
open PySem PySem.Spec PyProof.Rows L2
def top (i : Nat) : Stmt := PySem.Challenge.pw_clearyard_k78_whole_accounts_within.main.body.getD i (.Pass ⟨0, 0, 0, 0⟩)
abbrev sIsName : Stmt := top 7
abbrev sIsNumber : Stmt := top 8
abbrev sLeaf : Stmt := top 15
abbrev sNode : Stmt := top 16
abbrev sAccounts : Stmt := top 17
abbrev sAbove : Stmt := top 18
abbrev sInit : Stmt := inClass (top 19) 0
abbrev sRoot : Stmt := inClass (top 19) 1
abbrev sShare : Stmt := inClass (top 19) 2
abbrev sIsPair : Stmt := top 20
abbrev sIsBeside : Stmt := top 21
abbrev sShows : Stmt := top 22
abbrev sBegun : Stmt := top 24
abbrev sTake : Stmt := top 25
abbrev sPick : Stmt := top 26
abbrev sNames : Stmt := top 27
abbrev sFresh : Stmt := top 28
abbrev sDrawn : Stmt := top 29
abbrev sOthers : Stmt := top 30
abbrev sLaw : Stmt := top 31
abbrev FnP (K : PySem.W.Frag) (x qual : Str) (st : Stmt) (f : Addr) (fd : FuncData) : Prop := FunD K x qual (defArgs st) (defBody st) (defScope st) [] [] f fd
def dOf (x : Str) (st : Stmt) : He.DefD := ⟨(x, none), x, x, defArgs st, defBody st, defScope st, [], []⟩
def dIn (m q : Str) (st : Stmt) : He.DefD := ⟨("Tree", some m), m, q, defArgs st, defBody st, defScope st, [], []⟩
def fn : List He.DefD := [dOf "is_name" sIsName, dOf "is_number" sIsNumber, dOf "leaf_of" sLeaf, dOf "node_of" sNode, dOf "are_accounts" sAccounts, dOf "row_above" sAbove,
  dIn "__init__" "Tree.__init__" sInit, dIn "root" "Tree.root" sRoot, dIn "share" "Tree.share" sShare, dOf "is_pair" sIsPair, dOf "is_beside" sIsBeside, dOf "shows" sShows,
  dOf "_law_begun" sBegun, dOf "_law_take" sTake, dOf "_law_pick" sPick, dOf "_law_names" sNames, dOf "_law_fresh" sFresh, dOf "_law_accounts" sDrawn, dOf "_law_others" sOthers, dOf "law" sLaw]
def fa : List He.Fa := [.glo "is_name", .glo "is_number", .glo "leaf_of", .glo "node_of", .glo "are_accounts", .glo "row_above", .glo "Tree", .glo "is_pair", .glo "is_beside", .glo "shows",
  .glo "_law_begun", .glo "_law_take", .glo "_law_pick", .glo "_law_names", .glo "_law_fresh", .glo "_law_accounts", .glo "_law_others", .glo "law",
  .free "isinstance", .free "str", .free "len", .free "all", .free "int", .free "bool", .free "dict", .free "range", .free "sorted", .free "tuple", .free "min", .free "sum",
  .int "LONGEST" 8, .int "MOST_LEAVES" 64, .int "MOST_NUMBER" 1000000000000, .int "MOST_MARK" 1000000000000000000000000000000, .str "LETTERS" "abcdefghijklmnopqrstuvwxyz", .str "LEFT" "left", .str "RIGHT" "right",
  .cls "Tree", .noat "Tree" "order", .noat "Tree" "floors", .meth "Tree" "root", .meth "Tree" "share", .mkr "Tree"]
def tf : List He.Defn := [("_law_fresh", none)]
abbrev RR : PySem.W.OpenRow := PySem.W.OpenLaw.row PySem.Challenge.rw_clearyard_k78_whole_accounts_within
abbrev hk : PySem.W.Hook := He.hookX 5 fa fn [] tf fun _ => true
def ob (s : PySem.W.SharedT) : He.AlX := He.obsX 5 fa fn [] tf (fun _ => true) (HandSHeadRun.getT s)
theorem ob_eq (s : PySem.W.SharedT) : ob s = hk.obs s.abs := He.obsX_eq (HandSHeadRun.getT_eq s)
def lo : List Str := ["__name__", "YardError", "NoName", "NoTree", "LETTERS", "LONGEST", "is_name", "is_number", "MOST_LEAVES", "MOST_NUMBER", "MOST_MARK", "LEFT", "RIGHT", "leaf_of", "node_of", "are_accounts", "row_above", "Tree",
  "is_pair", "is_beside", "shows", "_law_begun", "_law_take", "_law_pick", "_law_names", "_law_fresh", "_law_accounts", "_law_others"]
theorem run (w : World) : HandSHeadRun.RunEq RR (PySem.W.view RR.prog [31]) hk ob 3000 lo w := by
  intro os
  kernel_rfl
end K78
/-! K78B: the digest: a def made in a def, handed back, and called elsewhere. -/
namespace K78
open PySem PySem.Spec PyProof.Rows L2 TL LamX NdefX
/-! ### what is known of it -/
/-- the cell at c holds the object at d -/
def CellO (c d : Addr) : HO := .ext fun h => h.IsCell c (some (.ref d))
theorem cell_at {P : Program} {w : World} {H : Hp} {h : Heap} {c d : Addr} (hok : HOk P w H h) (e : H c = some (CellO c d)) : h.IsCell c (some (.ref d)) := (hok c _ e).1
theorem cell_ok {P : Program} {w : World} {H : Hp} {h : Heap} {c d : Addr} (e : h.IsCell c (some (.ref d))) : ObjOk P w H h c (CellO c d) := by
  have e' := e
  obtain ⟨o, ho, _⟩ := e'
  refine ⟨e, ⟨o, ho⟩, fun h1 h2 q k => ?_⟩
  obtain ⟨u, hu, hv⟩ := q
  exact ⟨u, k u hu, hv⟩
/-- the digest's dict: the texts met, with their marks -/
def kvOf (zs : List Str) : List (L2.Key × V) := zs.zipIdx.map fun p => (Sum.inr p.1, V.int (7 * ((p.2 : Nat) : Int) + 3))
theorem kvOf_len (zs : List Str) : (kvOf zs).length = zs.length := by
  unfold kvOf
  rw [List.length_map, List.length_zipIdx]
theorem kvOf_snoc (zs : List Str) (z : Str) : kvOf (zs ++ [z]) = kvOf zs ++ [(Sum.inr z, V.int (7 * (zs.length : Int) + 3))] := by
  unfold kvOf
  rw [List.zipIdx_append, List.map_append]
  simp [List.zipIdx]
theorem kvOf_mem {zs : List Str} {k : L2.Key} {v : V} (h : (k, v) ∈ kvOf zs) : ∃ z m, k = Sum.inr z ∧ v = V.int m ∧ R zs z m := by
  unfold kvOf at h
  obtain ⟨⟨z, i⟩, hp, e⟩ := List.mem_map.mp h
  obtain ⟨e1, e2⟩ := Prod.mk.inj e
  refine ⟨z, 7 * (i : Int) + 3, e1.symm, e2.symm, i, ?_, rfl⟩
  have q := List.mem_zipIdx_iff_getElem?.mp hp
  exact q
theorem kvOf_some {zs : List Str} {z : Str} {v : V} (h : valV (kvOf zs) (Sum.inr z) = some v) : ∃ m, v = V.int m ∧ R zs z m := by
  unfold valV at h
  cases e : (kvOf zs).find? fun kv => decide (kv.1 = Sum.inr z) with
  | none =>
    rw [e] at h
    cases h
  | some p =>
    rw [e] at h
    have hk : p.1 = Sum.inr z := by
      have q := List.find?_some e
      exact of_decide_eq_true q
    have hm := List.mem_of_find?_eq_some e
    obtain ⟨p1, p2⟩ := p
    have hv : p2 = v := Option.some.inj h
    obtain ⟨z', m, q1, q2, q3⟩ := kvOf_mem hm
    have hk' : p1 = Sum.inr z := hk
    rw [hk'] at q1
    have ez : z = z' := Sum.inr.inj q1
    subst ez
    exact ⟨m, hv.symm.trans q2, q3⟩
theorem kvOf_none {zs : List Str} {z : Str} (h : valV (kvOf zs) (Sum.inr z) = none) : z ∉ zs := fun hz => by
  obtain ⟨i, hi, e⟩ := List.mem_iff_getElem.mp hz
  have hm : ((Sum.inr z : L2.Key), V.int (7 * (i : Int) + 3)) ∈ kvOf zs := by
    unfold kvOf
    exact List.mem_map.mpr ⟨(z, i), List.mem_zipIdx_iff_getElem?.mpr (by rw [List.getElem?_eq_getElem hi, e]), rfl⟩
  unfold valV at h
  have q := Option.map_eq_none_iff.mp h
  have q2 := List.find?_eq_none.mp q _ hm
  exact q2 (by simp)
theorem upd_id {H : Hp} {a : Addr} {o : HO} (h : H a = some o) : upd H a o = H := by
  funext b
  by_cases e : b = a
  · rw [e, upd_same, h]
  · rw [upd_ne e]
/-- the nested def -/
abbrev sAsked : Stmt := (defBody sFresh).getD 1 (.Pass ⟨0, 0, 0, 0⟩)
def qAsk : Str := ("_law_fresh" ++ ".<locals>." : Str) ++ "_law_asked"
def askF (c cc : Addr) : NF := NF.of sAsked "_law_asked" qAsk [("_law_met", c)] cc
/-- at f stands a digest, its dict at d, which has met zs -/
structure Dg (H : Hp) (f d : Addr) (zs : List Str) : Prop where
  ex : ∃ c cc, H f = some (FnO f (askF c cc)) ∧ H cc = some (CodeO cc qAsk) ∧ H c = some (CellO c d)
  dic : H d = some (.dK (kvOf zs))
  nd : zs.Nodup
/-- all but the dict at d is as it was -/
def But (d : Addr) (H H' : Hp) : Prop := ∀ b o, b ≠ d → H b = some o → H' b = some o
theorem Dg.ne {H : Hp} {f d : Addr} {zs : List Str} (D : Dg H f d zs) {a : Addr} {o : HO} (h : H a = some o) (hn : ∀ kvs, o ≠ .dK kvs) : a ≠ d := ne_of h D.dic (hn _)
theorem Dg.but {H H' : Hp} {f d : Addr} {zs zs' : List Str} (D : Dg H f d zs) (b : But d H H') (e : H' d = some (.dK (kvOf zs'))) (nd : zs'.Nodup) : Dg H' f d zs' := by
  obtain ⟨c, cc, h1, h2, h3⟩ := D.ex
  refine ⟨⟨c, cc, b _ _ ?_ h1, b _ _ ?_ h2, b _ _ ?_ h3⟩, e, nd⟩
  · exact D.ne h1 fun kvs z => by unfold FnO at z; cases z
  · exact D.ne h2 fun kvs z => by unfold CodeO at z; cases z
  · exact D.ne h3 fun kvs z => by unfold CellO at z; cases z
theorem Dg.same {H H' : Hp} {f d : Addr} {zs : List Str} (D : Dg H f d zs) (b : Same H H') : Dg H' f d zs := D.but (fun b' o _ h => b b' o h) (b _ _ D.dic) D.nd
theorem But.refl (d : Addr) (H : Hp) : But d H H := fun _ _ _ h => h
theorem But.trans {d : Addr} {H H1 H2 : Hp} (a : But d H H1) (b : But d H1 H2) : But d H H2 := fun c o n h => b c o n (a c o n h)
theorem But.of {d : Addr} {H H1 : Hp} (a : Same H H1) : But d H H1 := fun c o _ h => a c o h
theorem But.upd {d : Addr} {H : Hp} {o : HO} : But d H (upd H d o) := fun c u n h => by
  rw [upd_ne n]
  exact h
/-! ### its body -/
/-- what a digest's call does with the dict at d -/
def Said (Q : VK) (H : Hp) (d : Addr) (zs : List Str) (z : Str) : Prop := ∀ (zs' : List Str) (m : Int), zs'.Nodup → zs <+: zs' → zs'.length ≤ zs.length + 1 → R zs' z m → Q (.int m) (upd H d (.dK (kvOf zs')))
def spAsk : List (Option V) → Sp := fun ws vs H Q _ => ∃ d zs z, ws = [some (.ref d)] ∧ vs = [.str z] ∧ H d = some (.dK (kvOf zs)) ∧ zs.Nodup ∧ zs.length ≤ 100000 ∧ Said Q H d zs z
section
variable {P : Program} {w : World} {K : PySem.W.Frag} {mg : Str → Option Value} {base : Heap}
theorem scAsk (c cc : Addr) : NScope ["_law_text", "_law_met"] ["_law_text"] ["_law_met"] (askF c cc).scope := nscope_by (by show nscB _ _ _ (C8.fnScope sAsked) = true; decide +kernel)
theorem nok_ask {f c cc : Addr} (gl : mg "len" = none) : NOk P w K mg base CX0 1 f (askF c cc) ["_law_text"] ["_law_met"] spAsk := by
  refine nok_of (scAsk c cc) (fun doc pm ctv us hl => ?_) (fun ws vs H Q E h => ?_) (fun A outer s H vs ws Q E hr hf hc hw h => ?_)
  · match us, hl with
    | [_], _ => rfl
  · obtain ⟨d, zs, z, _, rfl, _⟩ := h
    rfl
  · obtain ⟨d, zs, z, rfl, rfl, hd, nd, hl, q⟩ := h
    refine ⟨_, pss_cons (ps_expr (pe_dsetd (pv 1) (pv 0) (pe_op op_add (pe_op op_mul pe_int (pe_callB call_lenD (by rfl) gl PySem.boot_len (pa_cons (pv 1) pa_nil))) pe_int) ⟨rfl, rfl, rfl, rfl⟩))
      (pss_one (ps_ret (pe_dget (hu_of hr) (pv 1) (pv 0) (fun _ _ => rfl)))), ?_⟩
    refine ⟨_, rfl, d, rfl, .inl ⟨_, .inl hd⟩, _, rfl, ?_⟩
    refine ⟨_, rfl, d, _, rfl, hd, ?_⟩
    refine ⟨_, _, rfl, rfl, .inl ⟨by decide, by decide⟩, ?_⟩
    refine ⟨_, _, rfl, rfl, kvOf zs, Sum.inr z, hd, rfl, by rw [kvOf_len, sizeLine_eq]; omega, fun v hv => ?_, fun hn => ?_⟩
    · obtain ⟨m, rfl, hm⟩ := kvOf_some hv
      refine ⟨_, rfl, _, rfl, d, _, rfl, by rw [← hv]; exact DGet.k (k := Sum.inr z) hd, ?_⟩
      have e := q zs m nd (List.prefix_refl _) (Nat.le_succ _) hm
      rw [upd_id hd] at e
      exact e
    · have nz := kvOf_none hn
      have e1 : putK (kvOf zs) (Sum.inr z) (V.int (7 * ((kvOf zs).length : Int) + 3)) = kvOf (zs ++ [z]) := by
        rw [putK_new _ hn, kvOf_snoc, kvOf_len]
      rw [e1]
      have hm : R (zs ++ [z]) z (7 * (zs.length : Int) + 3) := ⟨zs.length, by simp, rfl⟩
      have e2 : valV (kvOf (zs ++ [z])) (Sum.inr z) = some (V.int (7 * (zs.length : Int) + 3)) := by
        rw [kvOf_snoc, valV_snoc _ _ _ _ hn, if_pos rfl]
      refine ⟨_, rfl, _, rfl, d, _, rfl, by rw [← e2]; exact DGet.k (k := Sum.inr z) upd_same, ?_⟩
      exact q (zs ++ [z]) _ (nd_snoc nd nz) (List.prefix_append _ _) (by simp) hm
end
end K78
/-! K78C: the digest called from anywhere; the def that hands it back. -/
namespace K78
open PySem PySem.Spec PyProof.Rows L2 TL LamX NdefX
/-! ### a heap of promises without the cell -/
def Off (H : Hp) (c : Addr) : Hp := fun b => if b = c then none else H b
theorem off_same {H : Hp} {c : Addr} : Off H c c = none := if_pos rfl
theorem off_ne {H : Hp} {b c : Addr} (h : b ≠ c) : Off H c b = H b := if_neg h
theorem off_none {H : Hp} {b c : Addr} (h : H b = none) : Off H c b = none := by
  by_cases e : b = c
  · rw [e, off_same]
  · rw [off_ne e, h]
theorem off_some {H : Hp} {b c : Addr} {o : HO} (h : Off H c b = some o) : b ≠ c ∧ H b = some o := by
  by_cases e : b = c
  · rw [e, off_same] at h
    cases h
  · rw [off_ne e] at h
    exact ⟨e, h⟩
theorem hok_off {P : Program} {w : World} {H : Hp} {h : Heap} {c d : Addr} (hok : HOk P w H h) (e : H c = some (CellO c d)) : HOk P w (Off H c) h := fun b o q => by
  obtain ⟨n, q'⟩ := off_some q
  refine (hok b o q').stay (fun _ _ _ z => z) (fun x z => ?_) fun x xs z => ?_
  · rw [off_ne (ne_of z e (by unfold CellO; intro y; cases y))]
    exact z
  · rw [off_ne (ne_of z e (by unfold CellO; intro y; cases y))]
    exact z
/-- the cell is known again -/
theorem hok_cell {P : Program} {w : World} {H : Hp} {h : Heap} {c d : Addr} (hok : HOk P w H h) (n : H c = none) (e : h.IsCell c (some (.ref d))) : HOk P w (upd H c (CellO c d)) h := fun b o q => by
  by_cases hb : b = c
  · rw [hb, upd_same] at q
    cases q
    rw [hb]
    exact cell_ok e
  · rw [upd_ne hb] at q
    refine (hok b o q).stay (fun _ _ _ z => z) (fun x z => ?_) fun x xs z => ?_
    · rw [upd_ne (ne_of_none z n)]
      exact z
    · rw [upd_ne (ne_of_none z n)]
      exact z
section
variable {P : Program} {w : World} {K : PySem.W.Frag} {mg : Str → Option Value} {base : Heap}
/-- THE CALL, wherever it stands -/
theorem ask_run (gl : mg "len" = none) {A : Around} {outer : List Env} {s : Shared} {H : Hp} {f d : Addr} {us : List Value} {zs : List Str} {z : Str} {Q : VK} {E : XK} (hr : Room 1 A) (e0 : Env0 P w K mg base A outer s H) (D : Dg H f d zs)
    (hl : zs.length ≤ 100000) (r : Vals [.str z] us) (q : Said Q H d zs z) : codeAny (model P w) A (.call (.ref f) ⟨us, []⟩) (CR CX0 outer P w H s Q E) s := by
  obtain ⟨c, cc, hf, hcc, hc⟩ := D.ex
  have hcell := cell_at e0.hok hc
  obtain ⟨oc, hoc, hod⟩ := id hcell
  have nfc : f ≠ c := fun z => by
    obtain ⟨od, sl, doc, pm, ctv, ho⟩ := fnO_at e0.hok hf
    rw [z, hoc] at ho
    rw [Option.some.inj ho] at hod
    cases hod
  have ncc : cc ≠ c := fun z => by
    obtain ⟨c2, o2, vs, t, e2, h2, h3, _⟩ := codeO_at e0.hok hcc
    cases e2
    rw [z, hoc] at h2
    rw [Option.some.inj h2, h3] at hod
    cases hod
  have ndc : d ≠ c := ne_of D.dic hc (by unfold CellO; intro y; cases y)
  have fcs : c ∉ frs outer := fun z => by
    have q := e0.frf c z
    rw [hc] at q
    cases q
  have e1 : Env0 P w K mg base A outer s (Off H c) := ⟨e0.frames, e0.mod, fun b o e => ⟨(e0.bs b o e).1, off_none (e0.bs b o e).2⟩, e0.bsz, e0.funs, fun b hb => off_none (e0.frf b hb), hok_off e0.hok hc, e0.bare⟩
  have C : CellsAt (askF c cc).cl ["_law_met"] [some (V.ref d)] s.heap (Off H c) := by
    have lk : ∀ y a, (askF c cc).cl.lookup y = some a → y = "_law_met" ∧ a = c := fun y a e => by
      have e' : ([("_law_met", c)] : List (Str × Addr)).lookup y = some a := e
      rw [List.lookup_cons] at e'
      by_cases q : y = "_law_met"
      · subst q
        refine ⟨rfl, ?_⟩
        have e2 : some c = some a := by simpa using e'
        exact (Option.some.inj e2).symm
      · have q2 : (y == ("_law_met" : Str)) = false := by simpa using q
        rw [q2] at e'
        cases e'
    refine ⟨rfl, fun y a e => ?_, fun x y a h1 h2 => (lk x a h1).1.trans (lk y a h2).1.symm, fun i y e => ?_⟩
    · obtain ⟨_, rfl⟩ := lk y a e
      exact ⟨off_same, _, hcell⟩
    · match i, e with
      | 0, e =>
        have ey : "_law_met" = y := Option.some.inj e
        subst ey
        refine ⟨c, rfl, fun v hv => ?_⟩
        have ev : V.ref d = v := Option.some.inj (Option.some.inj hv)
        subst ev
        exact ⟨_, rfl, hcell⟩
      | i + 1, e => cases e
  refine codeAny_mono ((nok_ask (f := f) (c := c) (cc := cc) gl).run A outer s (Off H c) us [.str z] [some (.ref d)]
    (fun v H' => ∃ zs' m, v = .int m ∧ H' = upd (Off H c) d (.dK (kvOf zs')) ∧ zs'.Nodup ∧ zs <+: zs' ∧ zs'.length ≤ zs.length + 1 ∧ R zs' z m) E hr e1 (by rw [off_ne nfc]; exact hf)
    (by show Off H c cc = _; rw [off_ne ncc]; exact hcc) C r ⟨d, zs, z, rfl, rfl, by rw [off_ne ndc]; exact D.dic, D.nd, hl, fun zs' m h1 h2 h3 h4 => ⟨zs', m, rfl, rfl, h1, h2, h3, h4⟩⟩) fun res s' h => ?_
  cases res with
  | error e => exact h
  | ok fl =>
    cases fl with
    | next => exact h
    | brk => exact h
    | cont => exact h
    | ret u =>
      obtain ⟨v, H', os, bare, un, hok, rv, zs', m, rfl, rfl, nd', pf, ln, hm⟩ := h
      have at_ : upd H d (.dK (kvOf zs')) = upd (upd (Off H c) d (.dK (kvOf zs'))) c (CellO c d) := by
        funext b
        by_cases hb : b = c
        · rw [hb, upd_same, upd_ne ndc.symm, hc]
        · rw [upd_ne hb]
          by_cases hd : b = d
          · rw [hd, upd_same, upd_same]
          · rw [upd_ne hd, upd_ne hd, off_ne hb]
      have kc : s'.heap.IsCell c (some (.ref d)) := ⟨oc, un.keep c oc hoc off_same fcs (by simp), hod⟩
      have nmut : ∀ b o, H b = some o → (∀ kvs, o ≠ .dK kvs) → upd H d (.dK (kvOf zs')) b = some o := fun b o e n => by
        rw [upd_ne (D.ne e n)]
        exact e
      refine ⟨.int m, upd H d (.dK (kvOf zs')), os, bare, ?_, ?_, rv, q zs' m nd' pf ln hm⟩
      · refine ⟨fun b o e n hb hx => un.keep b o e (off_none n) hb hx, fun b o e n hb hx => un.slot b o e (off_none n) hb hx, fun b o e n hx => ?_, un.there, fun b xs e => nmut b _ e (fun _ z => by cases z), fun b o u e => nmut b _ e (fun _ z => by cases z),
          fun b ps e => ⟨#[], by rw [nmut b _ e (fun _ z => by cases z)]; simp⟩⟩
        rw [upd_ne fun z => by rw [z, D.dic] at n; cases n]
        exact n
      · rw [at_]
        exact hok_cell hok (by rw [upd_ne ndc.symm]; exact off_same) kc
end
/-- x(e), x a name that holds a digest -/
def tDig (i : Nat) (t : TA) : TE := fun σ H Q => ∃ f F, σ[i]? = some (some (.ref f)) ∧ H f = some (FnO f F) ∧ t σ H fun vs H1 => ∃ d zs z, vs = [.str z] ∧ Dg H1 f d zs ∧ zs.length ≤ 100000 ∧ Said Q H1 d zs z
section
variable {X : Cx} {i k : Nat} {x : Str} {p pos : Pos} {e : Expr} {es : List Expr} {t : TA}
theorem pe_dig (gl : X.mg "len" = none) (hr : Room k X.A) (hk : 1 ≤ k) (hx : Passes CX0 X E0) (ha : PA X (e :: es) t) (hN : X.N[i]? = some x := by rfl) (hv : Vis X.env.scope x := by first | exact Or.inl rfl | exact Or.inr (Or.inl rfl) | exact Or.inr (Or.inr rfl))
    (hd : (x == ("__debug__" : Str)) = false := by decide) (hcd : (x == ("__classdict__" : Str)) = false := by decide)
    (he : starEach (e :: es) X.env = (false, eval e X.env) :: starEach es X.env := by rfl) (hpl : (backTo pos (starEach es X.env)).any (·.1) = false := by rfl) :
    PE X (.Call (.Name x p) (e :: es) [] pos) (tDig i t) := by
  refine ⟨fun pins s σ H Q I h => ?_⟩
  obtain ⟨f, F, hs, hf, ht⟩ := h
  refine wpAny_Call_Name_kw (thn ((pe_var (pos := p) hN hv hd hcd).run pins s σ H (fun v H1 => v = .ref f ∧ H1 = H) I ⟨.ref f, hs, rfl, rfl⟩) fun u s1 ⟨v, H1, I1, r1, q1⟩ => ?_)
  obtain ⟨ev, eH⟩ := q1
  subst ev
  rw [eH] at I1
  obtain rfl : u = Value.ref f := r1
  refine PySem.W.callWith_F (first := []) (fnAt_of I1 hf) (thn (ha.run pos pins s1 σ H _ I1 ht) fun us s2 hq => ?_) he hpl
  obtain ⟨vs, H2, I2, r, d, zs, z, rfl, D, hl, q⟩ := hq
  obtain ⟨c, cc, h1, _⟩ := D.ex
  refine ⟨fnAt_of I2 h1, ?_⟩
  show wpAny _ _ (call (.ref f) us) _ _ _
  refine wpAny_call (codeAny_mono (ask_run (E := E0) gl (hr.mono hk) I2.env0 D hl r q) fun res s' hq => ?_)
  cases res with
  | error e => exact hx pins σ H2 s2 e s' I2 hq
  | ok fl =>
    cases fl with
    | ret u => exact I2.after hq
    | next => exact False.elim hq
    | brk => exact False.elim hq
    | cont => exact False.elim hq
end
/-! ### the def that makes it -/
def spFresh (Pt : Addr) : Sp := fun vs H Q _ => vs = [] ∧ TabsN [(Pt, fun _ _ => qAsk)] H ∧ ∀ (f d : Addr) (H' : Hp), ExtN H H' → TabsN [(Pt, fun _ _ => qAsk)] H' → H f = none → H d = none → Dg H' f d [] → Q (.ref f) H'
/-- the def as it stands, its code object told -/
structure FreshAt (K : PySem.W.Frag) (c : Addr) (f : Addr) (fd : FuncData) : Prop where
  ex : ∃ (oc : Value) (od : Option Addr) (dV kV doc pm : Value) (an : Option Addr) (ct : Value) (osl : Array (Option Value)),
    fd = PySem.W.fnOf "_law_fresh" "_law_fresh" (defArgs sFresh) (defBody sFresh) (defScope sFresh) dV kV doc pm an (.ref c) ct ∧ K.lookup f = some ⟨oc, od, .func fd, osl⟩ ∧ PySem.W.codeIn K (.ref c) "_law_fresh" = true
section
variable {P : Program} {w : World} {K : PySem.W.Frag} {mg : Str → Option Value} {base : Heap}
theorem scFresh : FnScope ["_law_met", "_law_asked"] [] (defScope sFresh) := ⟨rfl, rfl, rfl, by decide +kernel, rfl, (fun x hx => by cases hx), by decide +kernel⟩
theorem ok_fresh {f c Pt : Addr} {fd : FuncData} (F : FreshAt K c f fd) (TB : TabB base mg c Pt) : FnOk P w K mg base CX0 1 f fd [] (spFresh Pt) := by
  obtain ⟨oc, od, dV, kV, doc, pm, an, ct, osl, rfl, lk, hcd⟩ := F.ex
  refine ⟨fun vs H Q E h => by rw [h.1] <;> rfl, fun A outer s H args us vs Q E hr e0 hb r hsp => ?_⟩
  obtain ⟨rfl, hT, q⟩ := hsp
  cases r
  have KX : K.In s.heap := e0.mod.kin.keeps fun b o e => (e0.bs b o e).1
  have lim : s.heap.NoLimit := e0.mod.nolimit.keeps fun b o e => (e0.bs b o e).1
  have S := scFresh
  refine codeAny_call_function hr.depth (KX _ _ lk) rfl S.co S.gen rfl (PySem.W.codeRec_of KX hcd) (hb _ _ _ _ ?_)
  refine wpAny_newFunctionEnv_cells S.kind (fun y hy => by cases hy) fun env he s1 x => ?_
  subst he
  refine ⟨lim.keeps x.toInCall.keep, codeAny_func ?_⟩
  have I : Inv (cxOf CX0 P w K mg base ["_law_met", "_law_asked"] "_law_fresh" (defScope sFresh) f (.ref c) A outer s H E) [] (start ["_law_met", "_law_asked"] []) H s1 := inv_start S hr.hd e0 rfl .nil x
  have TT : ∀ H' : Hp, TabsN [(Pt, fun _ _ => qAsk)] H' → TabsN [(Pt, fun _ _ => qAsk)] H' := fun _ z => z
  have h1 : PS (cxOf CX0 P w K mg base ["_law_met", "_law_asked"] "_law_fresh" (defScope sFresh) f (.ref c) A outer s H E) ((defBody sFresh).getD 0 (.Pass ⟨0, 0, 0, 0⟩)) _ := ps_set (i := 0) scFresh.nd rfl (Or.inr rfl) pe_dnewK
  have h2 : PS (cxOf CX0 P w K mg base ["_law_met", "_law_asked"] "_law_fresh" (defScope sFresh) f (.ref c) A outer s H E) sAsked _ := ps_ndefMS (T := [(Pt, fun _ _ => qAsk)]) (nm := fun _ _ => qAsk) (c := c) (P := Pt) (i := 1) rfl TB rfl (by simp) rfl
    (fun p hp _ => by rw [List.mem_singleton.mp hp])
    (show ∀ y ∈ (C8.fnScope sAsked).names, y.2 = .free → (defScope sFresh).names.lookup y.1 = some .cell ∨ (defScope sFresh).names.lookup y.1 = some .free by decide +kernel) rfl rfl rfl scFresh.nd rfl (.inl rfl) (.inr rfl)
  have h3 : ∀ pos, PE (cxOf CX0 P w K mg base ["_law_met", "_law_asked"] "_law_fresh" (defScope sFresh) f (.ref c) A outer s H E) (.Name "_law_asked" pos) _ := fun pos => pv 1
  show wpAny _ _ (execs [(defBody sFresh).getD 0 (.Pass ⟨0, 0, 0, 0⟩), sAsked, (defBody sFresh).getD 2 (.Pass ⟨0, 0, 0, 0⟩)] _) _ _ _
  refine wpAny_execs_cons (thn (h1.run [] s1 _ H { nx := fun σ H1 => ∃ d, H d = none ∧ H1 = upd H d (.dK []) ∧ σ = [some (.ref d), none], rt := fun _ _ => False } I fun d hd => ⟨d, hd, rfl, rfl⟩) fun fl s2 q2 => ?_)
  cases fl with
  | ret v => obtain ⟨_, _, _, _, _, z⟩ := q2; exact z.elim
  | brk => obtain ⟨_, _, _, z⟩ := q2; exact z.elim
  | cont => obtain ⟨_, _, _, z⟩ := q2; exact z.elim
  | next =>
  obtain ⟨_, _, I2, d, d0, rfl, rfl⟩ := q2
  have hT2 : TabsN [(Pt, fun _ _ => qAsk)] (upd H d (.dK [])) := hT.ext fun b o e => (upd_ne (ne_of_none e d0)).trans e
  refine wpAny_execs_cons (thn (h2.run [] s2 _ _ { nx := fun σ H2 => ∃ g c', σ = [some (.ref d), some (.ref g)] ∧ ExtN (upd H d (.dK [])) H2 ∧ TabsN [(Pt, fun _ _ => qAsk)] H2 ∧ upd H d (.dK []) g = none ∧ H2 g = some (FnO g (NF.of sAsked "_law_asked" qAsk _ c')) ∧ H2 c' = some (CodeO c' qAsk), rt := fun _ _ => False } I2
    ⟨hT2, fun g c' H2 x1 x2 x3 x4 x5 x6 => ⟨g, c', rfl, x1, x3, x4, x5, x6⟩⟩) fun fl s3 q3 => ?_)
  cases fl with
  | ret v => obtain ⟨_, _, _, _, _, z⟩ := q3; exact z.elim
  | brk => obtain ⟨_, _, _, z⟩ := q3; exact z.elim
  | cont => obtain ⟨_, _, _, z⟩ := q3; exact z.elim
  | next =>
  obtain ⟨_, H2, I3, g, c', rfl, xE, xT, g0, xg, xc⟩ := q3
  refine wpAny_execs_cons (wpAny_Return_some (thn ((h3 _).run [] s3 _ H2 (fun v H3 => v = .ref g ∧ H3 = H2) I3 ⟨_, rfl, rfl, rfl⟩) fun u s4 hu => ?_))
  obtain ⟨v, H3, J, rv, rfl, rfl⟩ := hu
  -- the cell
  obtain ⟨m, _, hl⟩ := J.loc
  obtain ⟨u2, r2, l2⟩ := hl 0 "_law_met" (.ref d) rfl rfl (.inr (.inl rfl))
  obtain rfl : u2 = Value.ref d := r2
  rcases l2 with ⟨k, _⟩ | ⟨_, cl, hc, hcell⟩
  · cases k
  have ecl : s.heap.objs.size + 1 = cl := Option.some.inj hc
  subst ecl
  have n2 : H3 (s.heap.objs.size + 1) = none := J.freeC "_law_met" _ hc
  have un := J.base
  have nS : ∀ b o, s.heap.get? b = some o → b ≠ s.heap.objs.size + 1 := fun b o e => Nat.ne_of_lt (Nat.lt_succ_of_lt (Heap.lt_size e))
  have hd0 : H3 d = some (.dK []) := xE d _ upd_same fun ps z => by cases z
  have xE' : ExtN H H3 := fun b o e n => xE b o ((upd_ne (ne_of_none e d0)).trans e) n
  have g0' : H g = none := upd_none g0
  refine ⟨.ref g, upd H3 (s.heap.objs.size + 1) (CellO (s.heap.objs.size + 1) d), J.os, J.bare, ?_, hok_cell J.hok n2 hcell, rv, ?_⟩
  · refine ⟨un.keep, un.slot, fun b o e n hx => ?_, un.there, fun b xs e => ?_, fun b o u e => ?_, fun b ps e => ?_⟩
    · rw [upd_ne (nS b o e)]
      exact un.free b o e n hx
    · have q := un.tups b xs e
      rw [upd_ne (ne_of_none q n2)]
      exact q
    · have q := un.frzs b o u e
      rw [upd_ne (ne_of_none q n2)]
      exact q
    · obtain ⟨more, q⟩ := un.tbls b ps e
      exact ⟨more, by rw [upd_ne (ne_of_none q n2)]; exact q⟩
  · refine q g d _ (fun b o e n => ?_) (xT.ext fun b o e => ?_) g0' d0 ⟨⟨s.heap.objs.size + 1, c', ?_, ?_, upd_same⟩, ?_, List.nodup_nil⟩
    · have z := xE' b o e n
      rw [upd_ne (ne_of_none z n2)]
      exact z
    · rw [upd_ne (ne_of_none e n2)]
      exact e
    · rw [upd_ne (ne_of_none xg n2)]
      exact xg
    · rw [upd_ne (ne_of_none xc n2)]
      exact xc
    · rw [upd_ne (ne_of_none hd0 n2)]
      exact hd0
end
end K78
/-! K78D: two rules more: sorted of a dict of texts of any length, two dicts of other lengths. -/
namespace K78
open PySem PySem.Spec PyProof.Rows L2
section
variable {X : Cx}
/-- sorted(d), d's keys texts, any number of them -/
theorem call_sortedT (hcalm : X.calm = true) : CallR X (.builtin "sorted") (fun xs H Q => ∃ (a : Addr) (kvs : List (L2.Key × V)) (ks : List Str), xs = [.ref a] ∧ Rd H a (.dK kvs) ∧ kvs.map (·.1) = ks.map Sum.inr ∧
    ∀ (ys : List Str) (p : Addr), ys.Perm ks → H p = none → Q (.ref p) (upd H p (.lst (ys.map V.str)))) := by
  intro pins s σ H args us Q I r h
  obtain ⟨a, kvs, ks, rfl, hd, hks, q⟩ := h
  obtain ⟨u, rfl, rx⟩ := vals1 r
  cases rx
  obtain ⟨z, lo, vs, rel, dd⟩ := dk_rd I.hok hd
  obtain ⟨ep, hat⟩ := dd.dictAt
  have hkeys : vs.map (·.1) = ks.map Sum.inr := rel.keys.symm.trans hks
  have hl : vs.length = ks.length := by
    have e := congrArg List.length hkeys
    simpa using e
  have hv : vs.length ≤ sizeLine := by rw [← rel.length]; exact z
  have hks2 : ks.length ≤ sizeLine := by rw [← hl]; exact hv
  refine Calls.call_function_entry kind_sorted plain_sorted entry_sorted (args_sorted1 _) ?_
  unfold Builtin.«sorted»
  refine wpAny_bind (m := checkCount "sorted" 1 1 _) (wpAny_pure ?_)
  refine wpAny_bind (PySem.W.kdu_collect (A := X.A.in1) (PySem.W.kdl_dict (knd := mixKind X.prog X.w) (kvs := vs) (ep := ep) lo) (I.ok.hd hcalm) hat hv fun h' tk acc hk hacc => ?_)
  have hal : acc.toList.length = ks.length := by rw [Array.length_toList, hacc.1, hl]
  have hS : StrsAre acc.toList ks := strs_at hal fun j v e => by
    obtain ⟨k, x, e1, e2⟩ := hacc.2 j v (by rw [← Array.getElem?_toList]; exact e)
    have e3 : (vs.map (·.1))[j]? = some k := by rw [List.getElem?_map, e1] <;> rfl
    rw [hkeys, List.getElem?_map] at e3
    cases e4 : ks[j]? with
    | none =>
      rw [e4] at e3
      cases e3
    | some y =>
      rw [e4] at e3
      have e5 : Sum.inr y = k := Option.some.inj e3
      subst e5
      obtain ⟨t, ev⟩ := Value.isStrOf_shape (x := y) (v := v) e2
      exact ⟨y, t, rfl, ev⟩
  have I1 : Inv X pins σ H { s with heap := h', toks := tk } := I.kept hk
  refine wpAny_bind (wpAny_newList ?_ (by rw [hal]; exact hks2))
  have hoL : (h'.push (seqObj "list" acc.toList.toArray 0)).get? h'.objs.size = some (seqObj "list" acc.toList.toArray 0) := Heap.get?_push_size _ rfl
  show wpAny _ _ _ _ _ { s with heap := h'.push (seqObj "list" acc.toList.toArray 0), toks := tk }
  refine wpAny_bind (wpAny_holding (wpAny_call_entry slot_list_sort ⟨_, hoL, rfl⟩ entry_list_sort
    (list_sort_treeKAny strKind_oneLt (s := { s with heap := h'.push (seqObj "list" acc.toList.toArray 0), toks := tk }) hoL hS.keysOf (fun v₁ v₂ rest e => keyKind_strs (by rw [← e]; exact hS)) (by rw [hal]; exact hks2) fun st' hp hs => ⟨_, rfl, ?_⟩) (args_list_sort _)))
  obtain ⟨ys, g1, g2, _⟩ := sorted_out_str hS hp hs
  obtain ⟨e', he'⟩ := sortedHeap_at (vs := acc.toList) (out := (arrOf st').map (·.2)) hoL
  have hlen : (ys.map V.str).length ≤ sizeLine := by rw [List.length_map, g2.length_eq]; exact hks2
  refine wpAny_pure ⟨_, rfl, .ref h'.objs.size, upd H h'.objs.size (.lst (ys.map V.str)), I1.laid (t' := tk) (fun b u e => ?_) (Nat.le_refl _)
    (show ObjOk X.prog X.w _ _ _ (.lst (ys.map V.str)) from ⟨hlen, ((arrOf st').map (·.2)).toList, e', vals_of_strs g1, by rw [Array.toArray_toList]; exact he'⟩), rfl, q ys _ g2 (I1.hok.fresh (Nat.le_refl _))⟩
  have hb : b < h'.objs.size := Heap.lt_size e
  rw [sortedHeap_old (Nat.ne_of_lt hb) (by rw [size_push']; exact Nat.lt_succ_of_lt hb)]
  exact Heap.get?_push_of_some _ e
/-- d != {}, d any dict -/
def rNeE : R2 := fun x y H Q => ∃ a b ks, x = .ref a ∧ y = .ref b ∧ H a = some (.dK ks) ∧ H b = some (.dK []) ∧ Q (.bl (!ks.isEmpty)) H
theorem op_ne_empty (hu : X.A.units < cLine) : OpR X (compareOp .NotEq) rNeE := by
  intro pins s σ H x y v u Q I rx ry h
  obtain ⟨a, b, ks, rfl, rfl, ea, eb, q⟩ := h
  cases ks with
  | nil => exact op_ne_dictA hu pins s σ H _ _ v u Q I rx ry ⟨a, b, [], [], rfl, rfl, ea, eb, rfl, (fun p hp => by cases hp), q⟩
  | cons k ks =>
    obtain rfl : v = Value.ref a := rx
    obtain rfl : u = Value.ref b := ry
    obtain ⟨_, ya, va, ra, da⟩ := (show ObjOk X.prog X.w H s.heap a (.dK (k :: ks)) from I.hok a _ ea)
    obtain ⟨_, yb, vb, rb, db⟩ := (show ObjOk X.prog X.w H s.heap b (.dK []) from I.hok b _ eb)
    have l1 := ra.length
    have l2 := rb.length
    refine PySem.W.keq_ne (knd := mixKind X.prog X.w) (r := false) ya yb da db hu (fun e => ?_) (fin_bl I q (by simp))
    rw [← l1, ← l2] at e
    cases e
end
end K78
/-! K78E: names, numbers, leaves, nodes. -/
namespace K78
open PySem PySem.Spec PyProof.Rows L2 TL
/-! ### what the module's names are -/
structure TX (K : PySem.W.Frag) (mg : Str → Option Value) : Prop where
  isi : mg "isinstance" = none
  str : mg "str" = none
  len : mg "len" = none
  all : mg "all" = none
  int : mg "int" = none
  bool : mg "bool" = none
  dict : mg "dict" = none
  range : mg "range" = none
  sorted : mg "sorted" = none
  tuple : mg "tuple" = none
  min : mg "min" = none
  sum : mg "sum" = none
  letters : ∃ t, mg "LETTERS" = some (.str "abcdefghijklmnopqrstuvwxyz" t)
  longest : ∃ t, mg "LONGEST" = some (.int 8 t)
  leaves : ∃ t, mg "MOST_LEAVES" = some (.int 64 t)
  number : ∃ t, mg "MOST_NUMBER" = some (.int 1000000000000 t)
  mark : ∃ t, mg "MOST_MARK" = some (.int 1000000000000000000000000000000 t)
  left : ∃ t, mg "LEFT" = some (.str "left" t)
  right : ∃ t, mg "RIGHT" = some (.str "right" t)
theorem yes_of {σ : L2.St} {H : Hp} {Q : Bool → Hp → Prop} (h : Q true H) : tYes σ H Q := h
/-! ### is_name -/
def spIsName : Sp := fun vs H Q _ => ∃ n, vs = [.str n] ∧ Nm n ∧ ∀ H', Same H H' → Q (.bl true) H'
theorem letters_tl : tl (Str.ofString "abcdefghijklmnopqrstuvwxyz") = (List.range 26).map (· + 97) := by decide +kernel
theorem in_letters {c : Nat} (h : 97 ≤ c ∧ c ≤ 122) : decide (c ∈ (Str.ofString "abcdefghijklmnopqrstuvwxyz").cps.toList) = true := by
  refine decide_eq_true ?_
  show c ∈ tl _
  rw [letters_tl]
  exact List.mem_map.mpr ⟨c - 97, List.mem_range.mpr (by omega), by omega⟩
section
variable {P : Program} {w : World} {K : PySem.W.Frag} {mg : Str → Option Value} {base : Heap}
theorem scIsName : FnScope ["thing", "sign"] ["thing"] (defScope sIsName) := ⟨rfl, rfl, rfl, by decide +kernel, rfl, by decide +kernel, by decide +kernel⟩
theorem ok_isName {f : Addr} {fd : FuncData} (F : FnP K "is_name" "is_name" sIsName f fd) (T : TX K mg) : FnOk P w K mg base CX0 1 f fd ["thing"] spIsName := by
  refine F.ok scIsName (fun vs H Q E h => ?_) (fun cdv A outer s H vs Q E hr h => ?_)
  · obtain ⟨n, rfl, _⟩ := h
    rfl
  · obtain ⟨n, rfl, hn, k⟩ := h
    obtain ⟨t1, g1⟩ := T.letters
    obtain ⟨t2, g2⟩ := T.longest
    have hz : n.length ≤ sizeLine := by rw [sizeLine_eq]; have := hn.2.1; omega
    refine ⟨_, pss_one (ps_ret (pe_and (pe_callB call_isi (by rfl) T.isi (by decide +kernel) (pa_cons (pv 0) (pa_cons (pe_bltn (v := .ty "str") (by rfl) T.str (by decide +kernel) rfl) pa_nil)))
      (pe_and (pe_chain op_le op_le pe_int (pe_callB call_len_str (by rfl) T.len PySem.boot_len (pa_cons (pv 0) pa_nil)) (pe_glob (by rfl) g2 (v := .int 8) ⟨_, rfl⟩))
        (pe_one (pe_callB (cr_all (by rfl)) (by rfl) T.all (by decide +kernel) (pa_cons
          (pe_lc (own := [("sign", 1)]) (g := gName 1) (tt := tYes) (by rfl) scIsName.nd (pi_str (pv 0)) (blkOk_by (own := [("sign", 1)]) (N := ["thing", "sign"]) (sc := defScope sIsName) (by decide +kernel))
            (fun _ _ _ _ _ => pg_name (i := 1) scIsName.nd rfl (Or.inl rfl)) (fun _ _ _ _ _ => pts_nil) (fun _ _ _ _ _ => pe_cmpR op_in_sign (pv 1) (pe_glob (v := .str "abcdefghijklmnopqrstuvwxyz") (by rfl) g1 ⟨_, rfl⟩) rfl)) pa_nil)))))), ?_⟩
    refine ⟨_, rfl, _, _, _, _, true, rfl, .ty "str", .base (.str n), kit_ty (by decide +kernel), true, rfl, iteT ?_⟩
    refine ⟨_, rfl, _, rfl, hz, _, _, rfl, rfl, _, rfl, ?_⟩
    rw [decide_eq_true (show (1 : Int) ≤ (n.length : Int) by have := hn.1; omega)]
    refine iteT ⟨_, _, rfl, rfl, _, rfl, ?_⟩
    rw [decide_eq_true (show (n.length : Int) ≤ 8 by have := hn.2.1; omega)]
    refine iteT ⟨_, rfl, _, rfl, fun D hD => ?_⟩
    refine lc_it (walk_str (z := n)) (fun i H' => Same H H' ∧ H' D = some (.lst (List.replicate i (V.bl true))) ) ⟨fun b o e => (upd_ne (ne_of_none e hD)).trans e, upd_same⟩ (fun _ _ _ _ => trivial) (fun i x H1 H2 hi p y => ?_) (fun H1 p => ?_)
    · obtain ⟨rfl, c, hc, rfl⟩ := y
      have hm : c ∈ tl n := by
        show c ∈ n.cps.toList
        exact List.mem_of_getElem? (by rw [Array.getElem?_toList]; exact hc)
      refine ⟨rfl, yes_of ?_⟩
      refine iteT ⟨_, rfl, _, _, rfl, rfl, _, p.2, ?_, ?_, ?_⟩
      · rw [List.length_replicate, sizeLine_eq]
        have := hn.2.1
        have e : i < n.length := hi
        omega
      · exact fun b o e => (upd_ne (fun z => by rw [z, hD] at e; cases e)).trans (p.1 b o e)
      · rw [in_letters (hn.2.2 c hm), upd_same, List.replicate_succ']
    · refine ⟨D, List.replicate n.cps.size true, rfl, ?_, ?_⟩
      · rw [List.map_replicate]
        exact SqL.of p.2
      · have e : (List.replicate n.cps.size true).all id = true := by simp
        rw [e]
        exact k _ p.1
/-! ### is_number -/
def spIsNumber : Sp := fun vs H Q _ => ∃ (i lo : Int) (hi : V), vs = [.int i, .int lo, hi] ∧ lo ≤ i ∧ (hi = .non ∨ ∃ h : Int, hi = .int h ∧ i ≤ h) ∧ Q (.bl true) H
theorem scIsNumber : FnScope ["thing", "low", "high"] ["thing", "low", "high"] (defScope sIsNumber) := ⟨rfl, rfl, rfl, by decide +kernel, rfl, by decide +kernel, by decide +kernel⟩
theorem ok_isNumber {f : Addr} {fd : FuncData} (F : FnP K "is_number" "is_number" sIsNumber f fd) (T : TX K mg) : FnOk P w K mg base CX0 1 f fd ["thing", "low", "high"] spIsNumber := by
  refine F.ok scIsNumber (fun vs H Q E h => ?_) (fun cdv A outer s H vs Q E hr h => ?_)
  · obtain ⟨i, lo, hi, rfl, _⟩ := h
    rfl
  · obtain ⟨i, lo, hi, rfl, h1, h2, k⟩ := h
    refine ⟨_, pss_cons (ps_if (PW.pt (pw_or (pt_not (pt_val (pe_callB call_isi (by rfl) T.isi (by decide +kernel) (pa_cons (pv 0) (pa_cons (pe_bltn (v := .ty "int") (by rfl) T.int (by decide +kernel) rfl) pa_nil)))))
        (pw_or (pt_val (pe_callB call_isi (by rfl) T.isi (by decide +kernel) (pa_cons (pv 0) (pa_cons (pe_bltn (v := .ty "bool") (by rfl) T.bool (by decide +kernel) rfl) pa_nil))))
        (pw_or1 (pt_cmpR op_lt (pv 0) (pv 1) (nomark _)))))) (pss_one (ps_ret pe_bl)) pss_nil)
      (pss_one (ps_ret (pe_or (pe_cmp (pc_isN (pv 2)) rfl) (pe_one (pe_cmpR op_le (pv 0) (pv 2) (nomark _)))))), ?_⟩
    refine ⟨_, rfl, _, _, _, _, true, rfl, .ty "int", .base (.int i), kit_ty (by decide +kernel), true, rfl, iteF ?_⟩
    refine ⟨_, rfl, _, _, _, _, false, rfl, .ty "bool", .base (.int i), kit_ty (by decide +kernel), false, rfl, iteF ?_⟩
    refine ⟨_, rfl, _, rfl, _, _, rfl, rfl, _, rfl, ?_⟩
    rw [decide_eq_false (show ¬ i < lo by omega)]
    refine iteF ⟨_, rfl, ?_⟩
    rcases h2 with rfl | ⟨h, rfl, h3⟩
    · rw [decide_eq_true rfl]
      exact ⟨true, rfl, iteT k⟩
    · rw [decide_eq_false (fun z => by cases z)]
      refine ⟨false, rfl, iteF ⟨_, rfl, _, rfl, _, _, rfl, rfl, ?_⟩⟩
      show Q (.bl (decide (i ≤ h))) H
      rw [decide_eq_true h3]
      exact k
/-! ### leaf_of, node_of -/
/-- numbers as they are met here -/
def Sm (x : Int) : Prop := 0 ≤ x ∧ x < 2 ^ 100
theorem Sm.len {x : Int} (h : Sm x) : (nt x).length ≤ 31 := by
  have e : (nt x).length = (tl (nt x)).length := len_tl _
  rw [e, tl_nt h.1]
  refine numL_len (by decide) ?_
  have := h.2
  omega
theorem Sm.log {x : Int} (h : Sm x) : x.natAbs.log2 < 1920 := small_log h.1 h.2
theorem Sm.fits {x : Int} (h : Sm x) {acc : Str} {k : Nat} (ha : acc.length ≤ k) : (acc ++ nt x).length ≤ k + 31 := by
  rw [PySem.strLen_append]
  have := h.len
  omega
theorem line_ge {n : Nat} (h : n ≤ 1000) : n ≤ sizeLine := by rw [sizeLine_eq]; omega
/-- what a leaf or a node is: a new pair of a mark of this text and a number; the digest has met at most one text more -/
def Pair1 (Q : VK) (H : Hp) (f d : Addr) (zs : List Str) (z : Str) (x : Int) : Prop := ∀ (zs' : List Str) (m : Int) (H' : Hp) (p : Addr), But d H H' → Dg H' f d zs' → zs <+: zs' → zs'.length ≤ zs.length + 1 → R zs' z m → H p = none → H' p = some (.tup [.int m, .int x]) → Q (.ref p) H'
theorem pair1_of {Q : VK} {H : Hp} {f d : Addr} {zs zs' : List Str} {z : Str} {x m : Int} (k : Pair1 Q H f d zs z x) (D : Dg H f d zs) (nd : zs'.Nodup) (pf : zs <+: zs') (ln : zs'.length ≤ zs.length + 1) (hm : R zs' z m) {p : Addr} (hp : upd H d (.dK (kvOf zs')) p = none) :
    Q (.ref p) (upd (upd H d (.dK (kvOf zs'))) p (.tup [.int m, .int x])) := by
  have npd : p ≠ d := fun z => by rw [z, upd_same] at hp; cases hp
  have hp0 : H p = none := by rw [upd_ne npd] at hp; exact hp
  have B : But d H (upd (upd H d (.dK (kvOf zs'))) p (.tup [.int m, .int x])) := fun b o n e => by
    rw [upd_ne (fun z => by rw [z, hp0] at e; cases e), upd_ne n]
    exact e
  exact k zs' m _ p B (D.but B (by rw [upd_ne npd.symm, upd_same]) nd) pf ln hm hp0 upd_same
def spLeaf : Sp := fun vs H Q _ => ∃ (n : Str) (x : Int) (f d : Addr) (zs : List Str), vs = [.str n, .int x, .ref f] ∧ Nm n ∧ Sm x ∧ Dg H f d zs ∧ zs.length ≤ 100000 ∧ Pair1 Q H f d zs (leafT n x) x
theorem scLeaf : FnScope ["name", "number", "digest"] ["name", "number", "digest"] (defScope sLeaf) := ⟨rfl, rfl, rfl, by decide +kernel, rfl, by decide +kernel, by decide +kernel⟩
theorem ok_leaf {f : Addr} {fd : FuncData} (F : FnP K "leaf_of" "leaf_of" sLeaf f fd) (T : TX K mg) : FnOk P w K mg base CX0 2 f fd ["name", "number", "digest"] spLeaf := by
  refine F.ok scLeaf (fun vs H Q E h => ?_) (fun cdv A outer s H vs Q E hr h => ?_)
  · obtain ⟨n, x, g, d, zs, rfl, _⟩ := h
    rfl
  · obtain ⟨n, x, g, d, zs, rfl, hn, hx, D, hl, k⟩ := h
    refine ⟨_, pss_one (ps_ret (pe_tup (pa_cons (pe_dig (i := 2) T.len hr (by decide) pass0 (pa_cons (pe_joined (PJ.cons pe_str (PJ.cons (pe_fmt (pv 0)) (PJ.cons pe_str (PJ.cons (pe_fmt (pv 1)) PJ.nil))))) pa_nil)) (pa_cons (pv 1) pa_nil)))), ?_⟩
    obtain ⟨c, cc, hf, _⟩ := D.ex
    have l0 : (Str.empty ++ Str.ofString "leaf ").length ≤ 5 := by decide +kernel
    have l1 : ((Str.empty ++ Str.ofString "leaf ") ++ n).length ≤ 13 := by
      rw [PySem.strLen_append]
      have := hn.2.1
      omega
    have l2 : (((Str.empty ++ Str.ofString "leaf ") ++ n) ++ Str.ofString " ").length ≤ 14 := by
      rw [PySem.strLen_append]
      have : (Str.ofString " ").length = 1 := by decide +kernel
      omega
    refine ⟨g, _, rfl, hf, ?_⟩
    refine ⟨_, rfl, line_ge (by omega), _, rfl, .inl ⟨n, rfl, line_ge (by have := hn.2.1; omega), n, rfl, line_ge (by omega), _, rfl, line_ge (by omega), _, rfl, .inr ⟨x, rfl, hx.log, nt x, rfl, line_ge (by have := hx.fits l2; omega), ?_⟩⟩⟩
    refine ⟨d, zs, leafT n x, rfl, D, hl, fun zs' m h1 h2 h3 h4 => ?_⟩
    refine ⟨_, rfl, by show 2 ≤ sizeLine; decide, fun p hp => ?_⟩
    exact pair1_of k D h1 h2 h3 h4 hp
def spNode : Sp := fun vs H Q _ => ∃ (a b f d : Addr) (m1 x1 m2 x2 : Int) (zs : List Str), vs = [.ref a, .ref b, .ref f] ∧ H a = some (.tup [.int m1, .int x1]) ∧ H b = some (.tup [.int m2, .int x2]) ∧ Sm m1 ∧ Sm x1 ∧ Sm m2 ∧ Sm x2 ∧
  Dg H f d zs ∧ zs.length ≤ 100000 ∧ Pair1 Q H f d zs (nodeT m1 x1 m2 x2) (x1 + x2)
theorem scNode : FnScope ["one", "other", "digest"] ["one", "other", "digest"] (defScope sNode) := ⟨rfl, rfl, rfl, by decide +kernel, rfl, by decide +kernel, by decide +kernel⟩
theorem ok_node {f : Addr} {fd : FuncData} (F : FnP K "node_of" "node_of" sNode f fd) (T : TX K mg) : FnOk P w K mg base CX0 2 f fd ["one", "other", "digest"] spNode := by
  refine F.ok scNode (fun vs H Q E h => ?_) (fun cdv A outer s H vs Q E hr h => ?_)
  · obtain ⟨a, b, g, d, m1, x1, m2, x2, zs, rfl, _⟩ := h
    rfl
  · obtain ⟨a, b, g, d, m1, x1, m2, x2, zs, rfl, ha, hb, s1, s2, s3, s4, D, hl, k⟩ := h
    refine ⟨_, pss_one (ps_ret (pe_tup (pa_cons (pe_dig (i := 2) T.len hr (by decide) pass0 (pa_cons (pe_joined (PJ.cons pe_str (PJ.cons (pe_fmt (pe_ix ix_tup (pv 0) pe_int (fun _ _ => rfl))) (PJ.cons pe_str (PJ.cons (pe_fmt (pe_ix ix_tup (pv 0) pe_int (fun _ _ => rfl)))
      (PJ.cons pe_str (PJ.cons (pe_fmt (pe_ix ix_tup (pv 1) pe_int (fun _ _ => rfl))) (PJ.cons pe_str (PJ.cons (pe_fmt (pe_ix ix_tup (pv 1) pe_int (fun _ _ => rfl))) PJ.nil))))))))) pa_nil))
      (pa_cons (pe_op op_add (pe_ix ix_tup (pv 0) pe_int (fun _ _ => rfl)) (pe_ix ix_tup (pv 1) pe_int (fun _ _ => rfl))) pa_nil)))), ?_⟩
    obtain ⟨c, cc, hf, _⟩ := D.ex
    have lb : (Str.ofString " ").length = 1 := by decide +kernel
    have l0 : (Str.empty ++ Str.ofString "node ").length ≤ 5 := by decide +kernel
    have l1 := s1.fits l0
    have l2 : (((Str.empty ++ Str.ofString "node ") ++ nt m1) ++ Str.ofString " ").length ≤ 37 := by
      rw [PySem.strLen_append]
      omega
    have l3 := s2.fits l2
    have l4 : (((((Str.empty ++ Str.ofString "node ") ++ nt m1) ++ Str.ofString " ") ++ nt x1) ++ Str.ofString " ").length ≤ 69 := by
      rw [PySem.strLen_append]
      omega
    have l5 := s3.fits l4
    have l6 : (((((((Str.empty ++ Str.ofString "node ") ++ nt m1) ++ Str.ofString " ") ++ nt x1) ++ Str.ofString " ") ++ nt m2) ++ Str.ofString " ").length ≤ 101 := by
      rw [PySem.strLen_append]
      omega
    have l7 := s4.fits l6
    refine ⟨g, _, rfl, hf, ?_⟩
    refine ⟨_, rfl, line_ge (by omega), ?_⟩
    refine ⟨_, rfl, a, _, _, _, rfl, rfl, SqT.of ha, atI_nat (j := 0) rfl, .inr ⟨m1, rfl, s1.log, nt m1, rfl, line_ge (by omega), _, rfl, line_ge (by omega), ?_⟩⟩
    refine ⟨_, rfl, a, _, _, _, rfl, rfl, SqT.of ha, atI_nat (j := 1) rfl, .inr ⟨x1, rfl, s2.log, nt x1, rfl, line_ge (by omega), _, rfl, line_ge (by omega), ?_⟩⟩
    refine ⟨_, rfl, b, _, _, _, rfl, rfl, SqT.of hb, atI_nat (j := 0) rfl, .inr ⟨m2, rfl, s3.log, nt m2, rfl, line_ge (by omega), _, rfl, line_ge (by omega), ?_⟩⟩
    refine ⟨_, rfl, b, _, _, _, rfl, rfl, SqT.of hb, atI_nat (j := 1) rfl, .inr ⟨x2, rfl, s4.log, nt x2, rfl, line_ge (by omega), ?_⟩⟩
    refine ⟨d, zs, nodeT m1 x1 m2 x2, rfl, D, hl, fun zs' m h1 h2 h3 h4 => ?_⟩
    have ka : upd H d (.dK (kvOf zs')) a = some (.tup [.int m1, .int x1]) := (upd_ne (D.ne ha fun _ z => by cases z)).trans ha
    have kb : upd H d (.dK (kvOf zs')) b = some (.tup [.int m2, .int x2]) := (upd_ne (D.ne hb fun _ z => by cases z)).trans hb
    refine ⟨_, rfl, a, _, _, _, rfl, rfl, SqT.of ka, atI_nat (j := 1) rfl, _, rfl, b, _, _, _, rfl, rfl, SqT.of kb, atI_nat (j := 1) rfl, _, _, rfl, rfl, ?_⟩
    refine ⟨by show 2 ≤ sizeLine; decide, fun p hp => ?_⟩
    exact pair1_of k D h1 h2 h3 h4 hp
end
end K78
/-! K78F: accounts, rows, the tree's making. -/
namespace K78
open PySem PySem.Spec PyProof.Rows L2 TL
/-- a def of the module that keeps a promise, ready to be called -/
structure Has (P : Program) (w : World) (K : PySem.W.Frag) (mg : Str → Option Value) (base : Heap) (k : Nat) (x : Str) (ps : List Str) (sp : Sp) (f : Addr) (fd : FuncData) : Prop where
  ok : FnOk P w K mg base CX0 k f fd ps sp
  gm : mg x = some (.ref f)
  kp : PySem.W.keepIn K (.ref f) = true
  bd : Binds K fd ps []
/-! ### accounts as a dict -/
def accK (ps : List (Str × Int)) : List (L2.Key × V) := ps.map fun p => (Sum.inr p.1, V.int p.2)
theorem accK_len (ps : List (Str × Int)) : (accK ps).length = ps.length := by
  unfold accK
  rw [List.length_map]
theorem accK_keys (ps : List (Str × Int)) : (accK ps).map (·.1) = (ps.map (·.1)).map Sum.inr := by
  unfold accK
  rw [List.map_map, List.map_map]
  rfl
theorem accK_val : ∀ (ps : List (Str × Int)) (n : Str), valV (accK ps) (Sum.inr n) = (ps.lookup n).map V.int
  | [], n => rfl
  | (k, x) :: r, n => by
    show valV ((Sum.inr k, V.int x) :: accK r) (Sum.inr n) = _
    by_cases e : k = n
    · subst e
      rw [valV_pos rfl]
      simp [List.lookup_cons]
    · rw [valV_neg (fun z => e (Sum.inr.inj z)), accK_val r n, List.lookup_cons]
      have q : (n == k) = false := by simp [Ne.symm e]
      rw [q]
theorem acc_at {ps : List (Str × Int)} {n : Str} (h : n ∈ ps.map (·.1)) : valV (accK ps) (Sum.inr n) = some (V.int (num ps n)) ∧ (n, num ps n) ∈ ps := by
  obtain ⟨x, h1, h2⟩ := look_mem h
  have e : num ps n = x := by
    unfold num
    rw [h1] <;> rfl
  rw [accK_val, h1, e]
  exact ⟨rfl, h2⟩
theorem Acc.nm {ps : List (Str × Int)} (A : Acc ps) {n : Str} (h : n ∈ ps.map (·.1)) : Nm n := by
  obtain ⟨p, hp, e⟩ := List.mem_map.mp h
  rw [← e]
  exact (A.1 p hp).1
theorem Acc.num {ps : List (Str × Int)} (A : Acc ps) {n : Str} (h : n ∈ ps.map (·.1)) : 0 ≤ num ps n ∧ num ps n ≤ 10 ^ 12 := (A.1 _ (acc_at h).2).2
/-- the dict at a can be read as these accounts -/
def AccAt (H : Hp) (a : Addr) (ps : List (Str × Int)) : Prop := H a = some (.dK (accK ps))
/-! ### are_accounts -/
def spAccounts : Sp := fun vs H Q _ => ∃ (a : Addr) (ps : List (Str × Int)), vs = [.ref a] ∧ AccAt H a ps ∧ Acc ps ∧ ∀ H', Same H H' → Q (.bl true) H'
section
variable {P : Program} {w : World} {K : PySem.W.Frag} {mg : Str → Option Value} {base : Heap}
theorem scAccounts : FnScope ["thing", "name"] ["thing"] (defScope sAccounts) := ⟨rfl, rfl, rfl, by decide +kernel, rfl, by decide +kernel, by decide +kernel⟩
theorem ok_accounts {f f1 f2 : Addr} {fd fd1 fd2 : FuncData} (F : FnP K "are_accounts" "are_accounts" sAccounts f fd) (T : TX K mg) (G1 : Has P w K mg base 1 "is_name" ["thing"] spIsName f1 fd1) (G2 : Has P w K mg base 1 "is_number" ["thing", "low", "high"] spIsNumber f2 fd2) :
    FnOk P w K mg base CX0 2 f fd ["thing"] spAccounts := by
  refine F.ok scAccounts (fun vs H Q E h => ?_) (fun cdv A outer s H vs Q E hr h => ?_)
  · obtain ⟨a, ps, rfl, _⟩ := h
    rfl
  · obtain ⟨a, ps, rfl, ha, hA, k⟩ := h
    obtain ⟨t1, g1⟩ := T.leaves
    obtain ⟨t2, g2⟩ := T.number
    have ha' : H a = some (.dK (accK ps)) := ha
    refine ⟨_, pss_cons (ps_if (PW.pt (pw_or (pt_not (pt_val (pe_callB call_isi (by rfl) T.isi (by decide +kernel) (pa_cons (pv 0) (pa_cons (pe_bltn (v := .ty "dict") (by rfl) T.dict (by decide +kernel) rfl) pa_nil)))))
        (pw_or1 (pt_not (pt_chain op_le op_le pe_int (pe_callB call_lenD (by rfl) T.len PySem.boot_len (pa_cons (pv 0) pa_nil)) (pe_glob (v := .int 64) (by rfl) g1 ⟨_, rfl⟩)))))) (pss_one (ps_ret pe_bl)) pss_nil)
      (pss_one (ps_ret (pe_lock (pe_callB (cr_all (by rfl)) (by rfl) T.all (by decide +kernel) (pa_cons
        (pe_lc (own := [("name", 1)]) (g := gName 1) (tt := tYes) (by rfl) scAccounts.nd (pi_keys (pv 0)) (blkOk_by (own := [("name", 1)]) (N := ["thing", "name"]) (sc := defScope sAccounts) (by decide +kernel))
          (fun _ _ _ _ _ => pg_name (i := 1) scAccounts.nd rfl (Or.inl rfl)) (fun _ _ _ _ _ => pts_nil)
          (fun _ _ _ _ _ => pe_and (pe_call G1.ok hr (by rfl) G1.gm G1.kp G1.bd .nil pass0 (pa_cons (pv 1) pa_nil))
            (pe_one (pe_call G2.ok hr (by rfl) G2.gm G2.kp G2.bd .nil pass0 (pa_cons (pe_dget (hu_of hr) (pv 0) (pv 1) (fun _ _ => rfl)) (pa_cons pe_int (pa_cons (pe_glob (v := .int 1000000000000) (by rfl) g2 ⟨_, rfl⟩) pa_nil))))))) pa_nil))))), ?_⟩
    refine ⟨_, rfl, _, _, _, _, true, rfl, .ty "dict", .base (.dK ha'), kit_ty (by decide +kernel), true, rfl, iteF ?_⟩
    refine ⟨_, rfl, _, _, rfl, ha', _, _, rfl, rfl, _, rfl, ?_⟩
    rw [accK_len, decide_eq_true (show (1 : Int) ≤ (ps.length : Int) by have := hA.2.2.1; omega)]
    refine iteT ⟨_, _, rfl, rfl, _, rfl, ?_⟩
    rw [decide_eq_true (show (ps.length : Int) ≤ 64 by have := hA.2.2.2; omega)]
    refine iteF ?_
    refine ⟨a, _, ha', trivial, fun od => ?_⟩
    refine ⟨_, rfl, a, od, rfl, .inl ⟨_, upd_same, fun D hD => ?_⟩⟩
    have naD : a ≠ D := fun z => by rw [← z, upd_same] at hD; cases hD
    refine lc_it (walk_keys (kvs := accK ps)) (fun i H' => Same (upd H a (.frz od (.dK (accK ps)))) H' ∧ H' D = some (.lst (List.replicate i (V.bl true)))) ⟨fun b o e => (upd_ne (ne_of_none e hD)).trans e, upd_same⟩ (fun i H' _ p => p.1 _ _ upd_same) (fun i x H1 H2 hi p y => ?_) (fun H1 p => ?_)
    · obtain ⟨rfl, kk, v, hk, rfl⟩ := y
      have hi' : i < ps.length := by rw [← accK_len]; exact hi
      have hkv : kk = Sum.inr ps[i].1 ∧ v = V.int ps[i].2 := by
        unfold accK at hk
        rw [List.getElem?_map, List.getElem?_eq_getElem hi'] at hk
        have e := Option.some.inj hk
        exact ⟨(Prod.mk.inj e).1.symm, (Prod.mk.inj e).2.symm⟩
      obtain ⟨rfl, rfl⟩ := hkv
      have hm : ps[i].1 ∈ ps.map (·.1) := List.mem_map.mpr ⟨_, List.getElem_mem hi', rfl⟩
      refine ⟨rfl, yes_of ?_⟩
      refine iteT ⟨_, rfl, ps[i].1, rfl, hA.nm hm, fun H3 s3 => ⟨true, rfl, iteT ?_⟩⟩
      refine ⟨_, rfl, _, rfl, a, V.int (num ps ps[i].1), rfl, .inl ⟨accK ps, Sum.inr ps[i].1, .inr ⟨od, s3 _ _ (p.1 _ _ upd_same)⟩, rfl, (acc_at hm).1.symm⟩, ?_⟩
      refine ⟨_, _, _, rfl, (hA.num hm).1, .inr ⟨_, rfl, by have := (hA.num hm).2; omega⟩, ?_⟩
      refine ⟨_, s3 _ _ p.2, ?_, ?_, ?_⟩
      · rw [List.length_replicate, sizeLine_eq]
        have := hA.2.2.2
        omega
      · exact fun b o e => (upd_ne (ne_of_none e hD)).trans (s3 b o (p.1 b o e))
      · rw [upd_same, List.replicate_succ']
    · refine ⟨D, List.replicate (accK ps).length true, rfl, ?_, p.1 _ _ upd_same, ?_⟩
      · rw [List.map_replicate]
        exact SqL.of p.2
      · have e : (List.replicate (accK ps).length true).all id = true := by simp
        rw [e]
        refine k _ fun b o e => ?_
        by_cases hb : b = a
        · rw [hb, ha'] at e
          cases e
          rw [hb, upd_same]
        · rw [upd_ne hb]
          exact p.1 b o ((upd_ne hb).trans e)
end
end K78
/-! K78G: a row above a row. -/
namespace K78
open PySem PySem.Spec PyProof.Rows L2 TL LamX NdefX
/-! ### rows in the heap -/
def PairAt (H : Hp) (p : Addr) (t : T) : Prop := H p = some (.tup [.int t.mk, .int t.sm])
def RowIs (H : Hp) (a : Addr) (ts : List T) : Prop := ∃ ps : List Addr, H a = some (.lst (ps.map V.ref)) ∧ Paired (PairAt H) ps ts
theorem paired_get {α β : Type} {F : α → β → Prop} : ∀ {l : List α} {m : List β} {i : Nat} {b : β}, Paired F l m → m[i]? = some b → ∃ a, l[i]? = some a ∧ F a b
  | _, _, _, _, .nil, h => by cases h
  | _, _, 0, b, .cons f _, h => ⟨_, rfl, by rw [← Option.some.inj h]; exact f⟩
  | _, _, i + 1, b, .cons _ r, h => paired_get (i := i) r h
theorem paired_app {α β : Type} {F : α → β → Prop} : ∀ {l l' : List α} {m m' : List β}, Paired F l m → Paired F l' m' → Paired F (l ++ l') (m ++ m')
  | _, _, _, _, .nil, h => h
  | _, _, _, _, .cons f r, h => .cons f (paired_app r h)
theorem paired_drop {α β : Type} {F : α → β → Prop} : ∀ {l : List α} {m : List β} (k : Nat), Paired F l m → Paired F (l.drop k) (m.drop k)
  | _, _, 0, h => h
  | _, _, _ + 1, .nil => .nil
  | _, _, k + 1, .cons _ r => paired_drop k r
theorem paired_mono {α β : Type} {F G : α → β → Prop} {l : List α} {m : List β} (h : Paired F l m) (f : ∀ a b, F a b → G a b) : Paired G l m := Paired.mapP h f
theorem PairAt.but {H H' : Hp} {d p : Addr} {t : T} {f : Addr} {zs : List Str} (h : PairAt H p t) (D : Dg H f d zs) (b : But d H H') : PairAt H' p t := b _ _ (D.ne h fun _ z => by cases z) h
theorem RowIs.but {H H' : Hp} {d a : Addr} {ts : List T} {f : Addr} {zs : List Str} (h : RowIs H a ts) (D : Dg H f d zs) (b : But d H H') : RowIs H' a ts := by
  obtain ⟨ps, h1, h2⟩ := h
  exact ⟨ps, b _ _ (D.ne h1 fun _ z => by cases z) h1, paired_mono h2 fun p t q => q.but D b⟩
theorem RowIs.same {H H' : Hp} {a : Addr} {ts : List T} (h : RowIs H a ts) (b : Same H H') : RowIs H' a ts := by
  obtain ⟨ps, h1, h2⟩ := h
  exact ⟨ps, b _ _ h1, paired_mono h2 fun p t q => b _ _ q⟩
theorem RowIs.get {H : Hp} {a : Addr} {ts : List T} (h : RowIs H a ts) : ∃ ps : List Addr, H a = some (.lst (ps.map V.ref)) ∧ ps.length = ts.length ∧ ∀ (i : Nat) (t : T), ts[i]? = some t → ∃ p, (ps.map V.ref)[i]? = some (V.ref p) ∧ PairAt H p t := by
  obtain ⟨ps, h1, h2⟩ := h
  refine ⟨ps, h1, Paired.length h2, fun i t e => ?_⟩
  obtain ⟨p, e1, e2⟩ := paired_get h2 e
  exact ⟨p, by rw [List.getElem?_map, e1] <;> rfl, e2⟩
theorem Dg.set {H : Hp} {f d L : Addr} {zs : List Str} {xs : List V} {o : HO} (D : Dg H f d zs) (h : H L = some (.lst xs)) : Dg (upd H L o) f d zs := by
  obtain ⟨c, cc, h1, h2, h3⟩ := D.ex
  refine ⟨⟨c, cc, ?_, ?_, ?_⟩, ?_, D.nd⟩
  · rw [upd_ne (ne_of h1 h (by intro z; unfold FnO at z; cases z))]
    exact h1
  · rw [upd_ne (ne_of h2 h (by intro z; unfold CodeO at z; cases z))]
    exact h2
  · rw [upd_ne (ne_of h3 h (by intro z; unfold CellO at z; cases z))]
    exact h3
  · rw [upd_ne (ne_of D.dic h (by intro z; cases z))]
    exact D.dic
theorem PairAt.set {H : Hp} {L p : Addr} {xs : List V} {o : HO} {t : T} (h : PairAt H p t) (hL : H L = some (.lst xs)) : PairAt (upd H L o) p t := (upd_ne (ne_of h hL (by intro z; cases z))).trans h
theorem take_two {α : Type} {l : List α} {k : Nat} {a b : α} (ha : l[k]? = some a) (hb : l[k + 1]? = some b) : l.take (k + 2) = l.take k ++ [a, b] := by
  rw [List.take_add_one, List.take_add_one, ha, hb, List.append_assoc]
  rfl
/-! ### row_above -/
theorem rg_all : ∀ n : Fin 65, Builtin.Range.small 0 ((n.val : Int) - 1) 2 = true ∧ Builtin.Range.rangeSize 0 ((n.val : Int) - 1) 2 = n.val / 2 := by decide +kernel
theorem rg_of {n : Nat} (h : n ≤ 64) : RgC 0 ((n : Int) - 1) 2 (n / 2) := by
  obtain ⟨h1, h2⟩ := rg_all ⟨n, by omega⟩
  exact ⟨by decide, by decide, h1, h2⟩
/-- sums that are small enough -/
def Row0 (zs : List Str) (ts : List T) : Prop := (∀ t ∈ ts, Ok zs t) ∧ (ts.map T.sm).sum < 2 ^ 90
theorem Row0.sm {zs : List Str} {ts : List T} (r : Row0 zs ts) {t : T} (h : t ∈ ts) : Sm t.sm := by
  have h1 := (r.1 t h).sm0
  have h2 := le_sum (fun u hu => (r.1 u hu).sm0) h
  have h3 := r.2
  exact ⟨h1, by omega⟩
theorem Row0.mk {zs : List Str} {ts : List T} (r : Row0 zs ts) (hl : zs.length ≤ 100000) {t : T} (h : t ∈ ts) : Sm t.mk := by
  have h1 := (r.1 t h).mk0
  have h2 := (r.1 t h).mkLt
  exact ⟨h1, by omega⟩
def spAbove : Sp := fun vs H Q _ => ∃ (a f d : Addr) (zs : List Str) (ts : List T), vs = [.ref a, .ref f] ∧ RowIs H a ts ∧ Row0 zs ts ∧ 1 ≤ ts.length ∧ ts.length ≤ 64 ∧ Dg H f d zs ∧ zs.length ≤ 90000 ∧
  ∀ (zs' : List Str) (us : List T) (H' : Hp) (p : Addr), But d H H' → Dg H' f d zs' → zs <+: zs' → zs'.length + us.length ≤ zs.length + ts.length → Up ts us → (∀ u ∈ us, Ok zs' u) → H p = none → RowIs H' p us → Q (.ref p) H'
section
variable {P : Program} {w : World} {K : PySem.W.Frag} {mg : Str → Option Value} {base : Heap}
theorem scAbove : FnScope ["row", "digest", "found", "at"] ["row", "digest"] (defScope sAbove) := ⟨rfl, rfl, rfl, by decide +kernel, rfl, by decide +kernel, by decide +kernel⟩
theorem ok_above {f f1 : Addr} {fd fd1 : FuncData} (F : FnP K "row_above" "row_above" sAbove f fd) (tx : TX K mg) (G1 : Has P w K mg base 2 "node_of" ["one", "other", "digest"] spNode f1 fd1) : FnOk P w K mg base CX0 3 f fd ["row", "digest"] spAbove := by
  refine F.ok scAbove (fun vs H Q E h => ?_) (fun cdv A outer s H vs Q E hr h => ?_)
  · obtain ⟨a, g, d, zs, ts, rfl, _⟩ := h
    rfl
  · obtain ⟨a, g, d, zs, ts, rfl, hrow, r0, hl1, hl64, D, hz, k⟩ := h
    obtain ⟨ps, hps, lps, gps⟩ := hrow.get
    have lmap : (ps.map V.ref).length = ts.length := by rw [List.length_map, lps]
    refine ⟨_, pss_cons (ps_setLc (i := 2) (own := [("at", 3)]) (g := gName 3) (tt := tYes) (by rfl) scAbove.nd rfl rfl (sw_true rfl rfl rfl (by decide +kernel))
        (pi_range3 (by rfl) tx.range (pa_cons pe_int (pa_cons (pe_op op_sub (pe_callB call_len_seq (by rfl) tx.len PySem.boot_len (pa_cons (pv 0) pa_nil)) pe_int) (pa_cons pe_int pa_nil))))
        (blkOk_by (own := [("at", 3)]) (N := ["row", "digest", "found", "at"]) (sc := defScope sAbove) (by decide +kernel))
        (fun _ _ _ _ _ => pg_name (i := 3) scAbove.nd rfl (Or.inl rfl)) (fun _ _ _ _ _ => pts_nil)
        (fun _ _ _ _ _ => pe_call G1.ok hr (by rfl) G1.gm G1.kp G1.bd .nil pass0 (pa_cons (pe_ix (r := rIxL K) ix_list (pv 0) (pv 3) (fun _ _ => rfl)) (pa_cons (pe_ix (r := rIxL K) ix_list (pv 0) (pe_op op_add (pv 3) pe_int) (fun _ _ => rfl)) (pa_cons (pv 1) pa_nil)))))
      (pss_one (ps_ret (pe_op op_cat (pv 2) (pe_slice sl_list (pv 0) (po_some (pe_op op_sub (pe_callB call_len_seq (by rfl) tx.len PySem.boot_len (pa_cons (pv 0) pa_nil))
        (pe_op op_mod (pe_callB call_len_seq (by rfl) tx.len PySem.boot_len (pa_cons (pv 0) pa_nil)) pe_int))) po_none)))), ?_⟩
    refine ⟨_, rfl, a, _, rfl, .inl (SqL.of hps), _, _, rfl, rfl, ?_⟩
    rw [lmap]
    refine ⟨0, _, 2, _, rfl, rg_of hl64, fun L hL => ?_⟩
    have D0 := D
    have ndL : L ≠ d := fun z => by rw [z, D.dic] at hL; cases hL
    have hps' : ∀ H1, But d H H1 → H1 a = some (.lst (ps.map V.ref)) := fun H1 b => b _ _ (D.ne hps fun _ z => by cases z) hps
    refine lc_it (walk_rangeC (lo := 0) (c := 2) (n := ts.length / 2)) (fun i H1 => ∃ (zs1 : List Str) (us : List T) (ps1 : List Addr), But d H H1 ∧ Dg H1 g d zs1 ∧ zs <+: zs1 ∧ zs1.length ≤ zs.length + i ∧ us.length = i ∧ Up (ts.take (2 * i)) us ∧
      (∀ u ∈ us, Ok zs1 u) ∧ H1 L = some (.lst (ps1.map V.ref)) ∧ Paired (PairAt H1) ps1 us) ?_ (fun _ _ _ _ => trivial) (fun i x H1 H2 hi pv y => ?_) (fun H1 pv => ?_)
    · have S : Same H (upd H L (.lst [])) := fun b o e => (upd_ne (ne_of_none e hL)).trans e
      exact ⟨zs, [], [], But.of S, D.same S, List.prefix_refl _, Nat.le_refl _, rfl, rfl, (fun u hu => by cases hu), upd_same, .nil⟩
    · obtain ⟨rfl, rfl⟩ := y
      obtain ⟨zs1, us, ps1, B, D, pf, ln, lu, up, ok, hLL, pr⟩ := pv
      have hi2 : 2 * i + 1 < ts.length := by omega
      obtain ⟨a', ea⟩ : ∃ a', ts[2 * i]? = some a' := ⟨_, List.getElem?_eq_getElem (by omega)⟩
      obtain ⟨b', eb⟩ : ∃ b', ts[2 * i + 1]? = some b' := ⟨_, List.getElem?_eq_getElem hi2⟩
      obtain ⟨p1, g1, q1⟩ := gps _ _ ea
      obtain ⟨p2, g2, q2⟩ := gps _ _ eb
      have ma := List.mem_of_getElem? ea
      have mb := List.mem_of_getElem? eb
      refine ⟨rfl, yes_of ?_⟩
      refine iteT ⟨_, rfl, _, rfl, a, _, _, _, rfl, rfl, SqL.of (hps' _ B), at_of (j := 2 * i) (by omega) g1, ?_⟩
      refine ⟨_, rfl, _, rfl, _, _, rfl, rfl, a, _, _, _, rfl, rfl, SqL.of (hps' _ B), at_of (j := 2 * i + 1) (by omega) g2, ?_⟩
      refine ⟨_, rfl, p1, p2, g, d, _, _, _, _, zs1, rfl, q1.but D0 B, q2.but D0 B, r0.mk (by omega) ma, r0.sm ma, r0.mk (by omega) mb, r0.sm mb, D, by omega, fun zs2 m H3 p B3 D3 pf3 ln3 hm np hp => ?_⟩
      have hL3 := B3 _ _ ndL hLL
      refine ⟨_, hL3, ?_, zs2, us ++ [.node a' b' m], ps1 ++ [p], ?_, D3.set hL3, pf.trans pf3, by omega, by rw [List.length_append, lu] <;> rfl, ?_, ?_, ?_, ?_⟩
      · rw [List.length_map, Paired.length pr, lu, sizeLine_eq]
        omega
      · intro b o n e
        rw [upd_ne (ne_of_none e hL)]
        exact B3 b o n (B b o n e)
      · rw [show 2 * (i + 1) = 2 * i + 2 by omega, take_two ea eb]
        exact Up.snoc a' b' m up (by rw [List.length_take, lu]; omega)
      · intro u hu
        rcases List.mem_append.mp hu with e | e
        · exact (ok u e).mono pf3
        · rw [List.mem_singleton.mp e]
          exact ⟨(r0.1 _ ma).mono (pf.trans pf3), (r0.1 _ mb).mono (pf.trans pf3), hm⟩
      · rw [upd_same, List.map_append]
        rfl
      · exact paired_app (paired_mono pr fun q t z => (z.but D B3).set hL3) (.cons (PairAt.set (t := .node a' b' m) hp hL3) .nil)
    · obtain ⟨zs1, us, ps1, B, D, pf, ln, lu, up, ok, hLL, pr⟩ := pv
      have hr1 : SqL K H1 a (ps.map V.ref) := SqL.of (hps' _ B)
      have cut : cutV (ps.map V.ref) (some ((ts.length : Int) - (ts.length : Int) % 2)) none = (ps.drop (2 * (ts.length / 2))).map V.ref := by
        unfold cutV
        have e1 : ((ts.length : Int) - (ts.length : Int) % 2) = ((2 * (ts.length / 2) : Nat) : Int) := by omega
        rw [e1, HT.sIx_nat, HT.sIx_none, lmap, Nat.min_eq_left (by omega), List.take_of_length_le (by rw [List.length_drop, lmap]; omega), List.map_drop]
      refine ⟨_, rfl, _, rfl, ?_⟩
      refine ⟨_, rfl, a, _, rfl, .inl hr1, _, rfl, a, _, rfl, .inl hr1, _, _, rfl, rfl, (by show (0 : Int) < 2; decide), _, _, rfl, rfl, _, rfl, a, _, rfl, hr1, fun q hq => ?_⟩
      have nqL : L ≠ q := ne_of_none hLL hq
      have ld : (ps.drop (2 * (ts.length / 2))).length ≤ 1 := by rw [List.length_drop, lps]; omega
      rw [lmap]
      refine ⟨L, q, ps1.map V.ref, (ps.drop (2 * (ts.length / 2))).map V.ref, rfl, rfl, (upd_ne nqL).trans hLL, ?_, ?_, fun p hp => ?_⟩
      · rw [← cut]
        exact upd_same
      · rw [List.length_map, List.length_map, Paired.length pr, sizeLine_eq]
        omega
      · have nqp : p ≠ q := fun z => by rw [z, upd_same] at hp; cases hp
        have hp1 : H1 p = none := by rw [upd_ne nqp] at hp; exact hp
        have B2 : But d H1 (upd (upd H1 q (.lst (cutV (ps.map V.ref) (some ((ts.length : Int) - (ts.length : Int) % 2)) none))) p (.lst (ps1.map V.ref ++ (ps.drop (2 * (ts.length / 2))).map V.ref))) := fun b o n e => by
          rw [upd_ne (ne_of_none e hp1), upd_ne (ne_of_none e hq)]
          exact e
        have S2 : Same H1 (upd (upd H1 q (.lst (cutV (ps.map V.ref) (some ((ts.length : Int) - (ts.length : Int) % 2)) none))) p (.lst (ps1.map V.ref ++ (ps.drop (2 * (ts.length / 2))).map V.ref))) := fun b o e => by
          rw [upd_ne (ne_of_none e hp1), upd_ne (ne_of_none e hq)]
          exact e
        obtain ⟨ps', hps2, pr2⟩ := hrow
        have eps : ps' = ps := by
          rw [hps] at hps2
          have e := (HO.lst.inj (Option.some.inj hps2)).symm
          exact (List.map_inj_right (fun x y z => V.ref.inj z)).mp e
        subst eps
        refine k zs1 (us ++ ts.drop (2 * (ts.length / 2))) _ p (fun b o n e => B2 b o n (B b o n e)) (D.same S2) pf ?_ ?_ ?_ ?_ ⟨ps1 ++ ps'.drop (2 * (ts.length / 2)), ?_, ?_⟩
        · rw [List.length_append, List.length_drop]
          omega
        · have e := Up.fin (r := ts.drop (2 * (ts.length / 2))) up (by rw [List.length_take, lu]; omega) (by rw [List.length_drop]; omega)
          rw [List.take_append_drop] at e
          exact e
        · intro u hu
          rcases List.mem_append.mp hu with e | e
          · exact ok u e
          · exact (r0.1 u (List.mem_of_mem_drop e)).mono pf
        · cases e : H p with
          | none => rfl
          | some o =>
            by_cases z : p = d
            · rw [z, D.dic] at hp1
              cases hp1
            · rw [B p o z e] at hp1
              cases hp1
        · rw [upd_same, List.map_append]
        · exact paired_app (paired_mono pr fun q t z => S2 _ _ z) (paired_drop _ (paired_mono pr2 fun q t z => S2 _ _ (z.but D0 B)))
end
end K78
/-! K78I: a tree is made. -/
namespace K78
open PySem PySem.Spec PyProof.Rows L2 TL LamX NdefX
section
variable {P : Program} {w : World} {K : PySem.W.Frag} {mg : Str → Option Value} {base : Heap}
/-- a def with loops: no exception is asked for within -/
theorem okN {x qual : Str} {st : Stmt} {f : Addr} {fd : FuncData} {N ps : List Str} {k : Nat} {sp : Sp} (F : FnP K x qual st f fd) (S : FnScope N ps (defScope st)) (len : ∀ vs H Q E, sp vs H Q E → vs.length = ps.length)
    (hb : ∀ (cdv : Value) (A : Around) (outer : List Env) (s : Shared) (H : Hp) (vs : List V) (Q : VK) (E : XK), Room k (A.deeper (envOfC qual (defScope st) s.heap.objs.size f cdv)) → sp vs H Q E →
      ∃ t, PSs (cxOf CX0 P w K mg base N qual (defScope st) f cdv A outer s H E).nox (defBody st) t ∧ t { nx := fun _ H' => Q .non H', rt := Q } (start N vs) H) : FnOk P w K mg base CX0 (k + 1) f fd ps sp :=
  F.ok S len fun cdv A outer s H vs Q E hr hsp => by
    obtain ⟨t, h, q⟩ := hb cdv A outer s H vs Q E hr hsp
    exact ⟨t, h.nox, q⟩
end
/-! ### what a tree's object holds -/
def tfl (lo lf : Addr) : List (Str × V) := putF "floors" (.ref lf) (putF "order" (.ref lo) [])
theorem of_ : ¬ (("order" : Str) = "floors") := by decide +kernel
theorem fo_ : ¬ (("floors" : Str) = "order") := by decide +kernel
theorem tfl_order (lo lf : Addr) : (tfl lo lf).lookup ("order" : Str) = some (.ref lo) := by
  unfold tfl
  rw [lookup_putF, if_neg of_, lookup_putF, if_pos rfl]
theorem tfl_floors (lo lf : Addr) : (tfl lo lf).lookup ("floors" : Str) = some (.ref lf) := by
  unfold tfl
  rw [lookup_putF, if_pos rfl]
theorem tfl_no (lo lf : Addr) {m : Str} (h1 : ¬ m = "floors") (h2 : ¬ m = "order") : (tfl lo lf).lookup m = none := by
  unfold tfl
  rw [lookup_putF, if_neg h1, lookup_putF, if_neg h2]
  rfl
/-- the class, as it is called -/
structure CT (K : PySem.W.Frag) (mg : Str → Option Value) (C : Addr) : Prop where
  cl : Cls K C
  nO : NoAttr K C "order"
  nF : NoAttr K C "floors"
  gm : mg "Tree" = some (.ref C)
/-- at p stands a tree with these floors -/
def TreeIs (C : Addr) (H : Hp) (p : Addr) (ys : List Str) (fs : List (List T)) : Prop := ∃ (dx lo lf : Addr) (fl : List Addr), H p = some (.ins C dx (tfl lo lf)) ∧ H lo = some (.lst (ys.map V.str)) ∧ H lf = some (.lst (fl.map V.ref)) ∧ Paired (RowIs H) fl fs
/-- leaves of names -/
def Lv (ps : List (Str × Int)) : List Str → List T → Prop := Paired fun n t => ∃ m, t = .leaf n (num ps n) m
theorem Lv.flat {ps : List (Str × Int)} : ∀ {ys : List Str} {ls : List T}, Lv ps ys ls → ls.flatMap T.flat = rowOf ys ps
  | _, _, .nil => rfl
  | _, _, .cons ⟨m, e⟩ r => by
    rw [List.flatMap_cons, Lv.flat r, e]
    rfl
/-- what is true of the floors -/
structure TreeOk (zs : List Str) (ps : List (Str × Int)) (ys : List Str) (fs : List (List T)) (t0 : T) : Prop where
  perm : ys.Perm (ps.map (·.1))
  lv : ∃ ls, fs[0]? = some ls ∧ Lv ps ys ls
  ch : Ch fs
  top : ∃ pre, fs = pre ++ [[t0]]
  many : fs.length ≤ 7
  ok : ∀ r ∈ fs, ∀ t ∈ r, Ok zs t
  flat : t0.flat = rowOf ys ps
def But2 (d p : Addr) (H H' : Hp) : Prop := ∀ b o, b ≠ d → b ≠ p → H b = some o → H' b = some o
theorem Dg.put {H : Hp} {f d L : Addr} {zs : List Str} {o o' : HO} (D : Dg H f d zs) (h : H L = some o') (n1 : ∀ φ, o' ≠ .ext φ) (n2 : L ≠ d) : Dg (upd H L o) f d zs := by
  obtain ⟨c, cc, h1, h2, h3⟩ := D.ex
  refine ⟨⟨c, cc, ?_, ?_, ?_⟩, (upd_ne n2.symm).trans D.dic, D.nd⟩
  · exact (upd_ne (ne_of h1 h (fun z => n1 _ z.symm))).trans h1
  · exact (upd_ne (ne_of h2 h (fun z => n1 _ z.symm))).trans h2
  · exact (upd_ne (ne_of h3 h (fun z => n1 _ z.symm))).trans h3
theorem RowIs.set {H : Hp} {a L : Addr} {ts : List T} {xs : List V} {o : HO} (h : RowIs H a ts) (hL : H L = some (.lst xs)) (n : a ≠ L) : RowIs (upd H L o) a ts := by
  obtain ⟨ps, h1, h2⟩ := h
  exact ⟨ps, (upd_ne n).trans h1, paired_mono h2 fun p t q => q.set hL⟩
theorem sum_bound : ∀ (l : List (Str × Int)) (B : Int), (∀ p ∈ l, p.2 ≤ B) → (l.map (·.2)).sum ≤ (l.length : Int) * B
  | [], B, _ => by simp
  | p :: r, B, h => by
    have h1 := sum_bound r B fun q hq => h q (List.mem_cons_of_mem _ hq)
    have h2 := h p List.mem_cons_self
    rw [List.map_cons, List.sum_cons, List.length_cons]
    have e : ((r.length + 1 : Nat) : Int) * B = (r.length : Int) * B + B := by
      rw [Int.natCast_add, Int.add_mul]
      simp
    omega
theorem row_small {ps : List (Str × Int)} {ys : List Str} (A : Acc ps) (h : ys.Perm (ps.map (·.1))) : ((rowOf ys ps).map (·.2)).sum ≤ 64 * 10 ^ 12 := by
  have h1 := sum_bound (rowOf ys ps) (10 ^ 12) fun p hp => by
    obtain ⟨n, hn, e⟩ := List.mem_map.mp hp
    rw [← e]
    exact (A.num (h.mem_iff.mp hn)).2
  have h2 : (rowOf ys ps).length ≤ 64 := by
    unfold rowOf
    rw [List.length_map, h.length_eq, List.length_map]
    exact A.2.2.2
  have h3 : (((rowOf ys ps).length : Nat) : Int) ≤ 64 := by omega
  omega
/-- between two turns of the loop that puts floors on -/
structure WI (C p dx lo lf d g : Addr) (H : Hp) (zs : List Str) (ys : List Str) (ps : List (Str × Int)) (ls : List T) (m : Nat) (H4 : Hp) : Prop where
  ex : ∃ (zs2 : List Str) (pre : List (List T)) (r : List T) (fl : List Addr) (q : Addr), H4 p = some (.ins C dx (tfl lo lf)) ∧ H4 lo = some (.lst (ys.map V.str)) ∧ H4 lf = some (.lst (fl.map V.ref ++ [.ref q])) ∧ Paired (RowIs H4) fl pre ∧ RowIs H4 q r ∧
    (∀ b ∈ fl, b ≠ lf) ∧ q ≠ lf ∧ But2 d p H H4 ∧ Dg H4 g d zs2 ∧ zs <+: zs2 ∧ zs2.length + r.length ≤ zs.length + 2 * ys.length ∧ Ch (pre ++ [r]) ∧ (∀ r' ∈ pre ++ [r], ∀ t ∈ r', Ok zs2 t) ∧ r.flatMap T.flat = rowOf ys ps ∧
    1 ≤ r.length ∧ r.length ≤ 64 ∧ (r.length - 1) * 2 ^ pre.length ≤ 63 ∧ pre.length ≤ 6 ∧ (pre ++ [r])[0]? = some ls ∧ m = r.length
theorem paired_all {α β : Type} {F : α → β → Prop} : ∀ {l : List α} {m : List β}, Paired F l m → ∀ {G : α → β → Prop}, (∀ a ∈ l, ∀ b, F a b → G a b) → Paired G l m
  | _, _, .nil, _, _ => .nil
  | _, _, .cons f r, G, h => .cons (h _ List.mem_cons_self _ f) (paired_all r fun a ha b => h a (List.mem_cons_of_mem _ ha) b)
/-! ### Tree.__init__ -/
def spInit (C : Addr) : Sp := fun vs H Q _ => ∃ (p dx a f d : Addr) (ps : List (Str × Int)) (zs : List Str), vs = [.ref p, .ref a, .ref f] ∧ H p = some (.ins C dx []) ∧ AccAt H a ps ∧ Acc ps ∧ Dg H f d zs ∧ a ≠ d ∧ zs.length ≤ 50000 ∧
  ∀ (zs' : List Str) (H' : Hp) (ys : List Str) (fs : List (List T)) (t0 : T), But2 d p H H' → Dg H' f d zs' → zs <+: zs' → zs'.length ≤ zs.length + 128 → TreeIs C H' p ys fs → TreeOk zs' ps ys fs t0 → Q .non H'
section
variable {P : Program} {w : World} {K : PySem.W.Frag} {mg : Str → Option Value} {base : Heap}
theorem scInit : FnScope ["self", "accounts", "digest", "name"] ["self", "accounts", "digest"] (defScope sInit) := ⟨rfl, rfl, rfl, by decide +kernel, rfl, by decide +kernel, by decide +kernel⟩
theorem ok_init {f f1 f2 f3 C : Addr} {fd fd1 fd2 fd3 : FuncData} (F : FnP K "__init__" "Tree.__init__" sInit f fd) (tx : TX K mg) (ct : CT K mg C) (G1 : Has P w K mg base 2 "are_accounts" ["thing"] spAccounts f1 fd1)
    (G2 : Has P w K mg base 2 "leaf_of" ["name", "number", "digest"] spLeaf f2 fd2) (G3 : Has P w K mg base 3 "row_above" ["row", "digest"] spAbove f3 fd3) : FnOk P w K mg base CX0 4 f fd ["self", "accounts", "digest"] (spInit C) := by
  refine okN F scInit (fun vs H Q E h => ?_) (fun cdv A outer s H vs Q E hr h => ?_)
  · obtain ⟨p, dx, a, g, d, ps, zs, rfl, _⟩ := h
    rfl
  · obtain ⟨p, dx, a, g, d, ps, zs, rfl, hp, ha, hA, D, nad, hz, k⟩ := h
    have ha0 : H a = some (.dK (accK ps)) := ha
    refine ⟨_, pss_cons (ps_if (pt_not (pt_val (pe_call G1.ok (hr.mono (by decide)) (by rfl) G1.gm G1.kp G1.bd .nil pass0 (pa_cons (pv 1) pa_nil)))) (pss_one ps_never) pss_nil)
      (pss_cons (ps_fld (pv 0) (pe_callB (call_sortedT (by rfl)) (by rfl) tx.sorted (by decide +kernel) (pa_cons (pv 1) pa_nil)) rfl)
      (pss_cons (ps_fld (pv 0) (pe_lst (pa_cons (pe_lc (own := [("name", 3)]) (g := gName 3) (tt := tYes) (by rfl) scInit.nd (pi_list (pe_fld (pv 0) rfl)) (blkOk_by (own := [("name", 3)]) (N := ["self", "accounts", "digest", "name"]) (sc := defScope sInit) (by decide +kernel))
          (fun _ _ _ _ _ => pg_name (i := 3) scInit.nd rfl (Or.inl rfl)) (fun _ _ _ _ _ => pts_nil)
          (fun _ _ _ _ _ => pe_call G2.ok (hr.mono (by decide)) (by rfl) G2.gm G2.kp G2.bd .nil pass0 (pa_cons (pv 3) (pa_cons (pe_dget (hu_of hr) (pv 1) (pv 3) (fun _ _ => rfl)) (pa_cons (pv 2) pa_nil))))) pa_nil)) rfl)
      (pss_one (ps_while PassesOwn.never (pt_cmpR op_gt (pe_callB call_len_seq (by rfl) tx.len PySem.boot_len (pa_cons (pe_ix ix_list (pe_fld (pv 0) rfl) (pe_un un_neg pe_int) (fun _ _ => rfl)) pa_nil)) pe_int (nomark _))
        (pss_one (ps_expr (pe_bm PySem.F.plainAttrs_list PySem.F.slot_list_append PySem.F.type_list_append mt_append (pe_fld (pv 0) rfl) (pa_cons (pe_call G3.ok hr (by rfl) G3.gm G3.kp G3.bd .nil pass0 (pa_cons (pe_ix ix_list (pe_fld (pv 0) rfl) (pe_un un_neg pe_int) (fun _ _ => rfl)) (pa_cons (pv 2) pa_nil))) pa_nil)))))))), ?_⟩
    refine ⟨_, rfl, a, ps, rfl, ha, hA, fun H1 S1 => ⟨true, rfl, iteF ?_⟩⟩
    -- self.order = sorted(accounts)
    refine ⟨_, rfl, a, accK ps, ps.map (·.1), rfl, Rd.of (S1 _ _ ha0), accK_keys ps, fun ys lo hperm hlo => ?_⟩
    have npl : p ≠ lo := ne_of_none (S1 _ _ hp) hlo
    have npd : p ≠ d := D.ne hp fun _ z => by cases z
    have nap : a ≠ p := ne_of ha0 hp (by intro z; cases z)
    refine ⟨_, rfl, p, C, dx, [], rfl, (upd_ne npl).trans (S1 _ _ hp), ct.cl, ct.nO, (by show 0 < 1000; decide), ?_⟩
    generalize hH2 : upd (upd H1 lo (.lst (ys.map V.str))) p (.ins C dx (putF "order" (.ref lo) [])) = H2
    have S12 : ∀ b o, b ≠ p → H b = some o → H2 b = some o := fun b o n e => by
      have e1 := S1 b o e
      rw [← hH2, upd_ne n, upd_ne (ne_of_none e1 hlo)]
      exact e1
    have p2 : H2 p = some (.ins C dx (putF "order" (.ref lo) [])) := by rw [← hH2, upd_same]
    have lo2 : H2 lo = some (.lst (ys.map V.str)) := by rw [← hH2, upd_ne npl.symm, upd_same]
    have a2 : H2 a = some (.dK (accK ps)) := S12 _ _ nap ha0
    have D2 : Dg H2 g d zs := by
      have q : Dg (upd H1 lo (.lst (ys.map V.str))) g d zs := (D.same S1).same fun b o e => (upd_ne (ne_of_none e hlo)).trans e
      rw [← hH2]
      exact q.put ((upd_ne npl).trans (S1 _ _ hp)) (fun _ z => by cases z) npd
    have lkO : ∀ v : V, (putF "order" v []).lookup ("order" : Str) = some v := fun v => by rw [lookup_putF, if_pos rfl]
    -- self.floors = [[leaf_of(..) for name in self.order]]
    refine ⟨_, rfl, p, C, dx, _, _, rfl, p2, ct.cl, ct.nO, lkO _, lo, rfl, ⟨_, SqL.of lo2⟩, fun L hL => ?_⟩
    have ndL : L ≠ d := fun z => by rw [z, D2.dic] at hL; cases hL
    have nl64 : ys.length ≤ 64 := by rw [hperm.length_eq, List.length_map]; exact hA.2.2.2
    have nl1 : 1 ≤ ys.length := by rw [hperm.length_eq, List.length_map]; exact hA.2.2.1
    refine lc_list (K := K) (a := lo) (xs := ys.map V.str) (fun i H' => ∃ (zs1 : List Str) (ls : List T) (ps1 : List Addr), But d H2 H' ∧ Dg H' g d zs1 ∧ zs <+: zs1 ∧ zs1.length ≤ zs.length + i ∧ Lv ps (ys.take i) ls ∧ (∀ t ∈ ls, Ok zs1 t) ∧
      H' L = some (.lst (ps1.map V.ref)) ∧ Paired (PairAt H') ps1 ls) ?_ (fun i H' _ pv => ?_) (fun i x H' hx pv => ?_) (fun H' pv => ?_)
    · have S : Same H2 (upd H2 L (.lst [])) := fun b o e => (upd_ne (ne_of_none e hL)).trans e
      exact ⟨zs, [], [], But.of S, D2.same S, List.prefix_refl _, Nat.le_refl _, .nil, (fun u hu => by cases hu), upd_same, .nil⟩
    · obtain ⟨zs1, ls, ps1, B, _⟩ := pv
      exact SqL.of (B _ _ (D2.ne lo2 fun _ z => by cases z) lo2)
    · obtain ⟨zs1, ls, ps1, B, D3, pf, ln, lv, ok, hLL, pr⟩ := pv
      obtain ⟨n, en, rfl⟩ : ∃ n, ys[i]? = some n ∧ x = V.str n := by
        rw [List.getElem?_map] at hx
        cases e : ys[i]? with
        | none => rw [e] at hx; cases hx
        | some n => rw [e] at hx; exact ⟨n, rfl, (Option.some.inj hx).symm⟩
      have hi : i < ys.length := (List.getElem?_eq_some_iff.mp en).1
      have mn : n ∈ ps.map (·.1) := hperm.mem_iff.mp (List.mem_of_getElem? en)
      obtain ⟨q1, q2⟩ := hA.num mn
      have a3 : H' a = some (.dK (accK ps)) := B _ _ nad a2
      refine ⟨rfl, yes_of ?_⟩
      refine iteT ⟨_, rfl, _, rfl, _, rfl, a, _, rfl, by rw [← (acc_at mn).1]; exact DGet.k (k := Sum.inr n) a3, _, rfl, ?_⟩
      refine ⟨n, num ps n, g, d, zs1, rfl, hA.nm mn, ⟨q1, by omega⟩, D3, by omega, fun zs2 m H4 q B4 D4 pf4 ln4 hm nq hq => ?_⟩
      have hL4 := B4 _ _ ndL hLL
      refine ⟨_, hL4, ?_, zs2, ls ++ [.leaf n (num ps n) m], ps1 ++ [q], ?_, D4.set hL4, pf.trans pf4, by omega, ?_, ?_, ?_, ?_⟩
      · rw [List.length_map, Paired.length pr, ← Paired.length lv, List.length_take, sizeLine_eq]
        omega
      · intro b o nb e
        rw [upd_ne (ne_of_none e hL)]
        exact B4 b o nb (B b o nb e)
      · rw [List.take_add_one, en]
        exact paired_app lv (.cons ⟨m, rfl⟩ .nil)
      · intro u hu
        rcases List.mem_append.mp hu with e | e
        · exact (ok u e).mono pf4
        · rw [List.mem_singleton.mp e]
          exact ⟨hA.nm mn, q1, hm⟩
      · rw [upd_same, List.map_append]
        rfl
      · exact paired_app (paired_mono pr fun q t z => (z.but D3 B4).set hL4) (.cons (PairAt.set (t := .leaf n (num ps n) m) hq hL4) .nil)
    · obtain ⟨zs1, ls, ps1, B, D3, pf, ln, lv, ok, hLL, pr⟩ := pv
      have lm : (ys.map V.str).length = ys.length := by rw [List.length_map]
      rw [lm] at ln lv
      rw [List.take_length] at lv
      have lls : ls.length = ys.length := (Paired.length lv).symm
      refine ⟨by show 1 ≤ sizeLine; decide, fun lf hlf => ?_⟩
      have p3 : H' p = some (.ins C dx (putF "order" (.ref lo) [])) := B _ _ npd p2
      have npf : p ≠ lf := ne_of_none p3 hlf
      refine ⟨_, rfl, p, C, dx, _, rfl, (upd_ne npf).trans p3, ct.cl, ct.nF, (by show 1 < 1000; decide), ?_⟩
      have lo3 : H' lo = some (.lst (ys.map V.str)) := B _ _ (D2.ne lo2 fun _ z => by cases z) lo2
      have nol : lo ≠ lf := ne_of_none lo3 hlf
      have nlf : L ≠ lf := ne_of_none hLL hlf
      have ndf : lf ≠ d := fun z => by rw [z, D3.dic] at hlf; cases hlf
      refine ⟨fun m σ H4 => σ = [some (.ref p), some (.ref a), some (.ref g), none] ∧ WI C p dx lo lf d g H zs ys ps ls m H4, ⟨_, rfl, ⟨zs1, [], ls, [], L, upd_same, ?_, ?_, .nil, ?_, (fun b hb => by cases hb), nlf, ?_, ?_, pf, ?_, Ch.one ls, ?_, lv.flat, ?_, ?_, ?_, ?_, rfl, rfl⟩⟩, ?_⟩
      · rw [upd_ne npl.symm, upd_ne nol]
        exact lo3
      · rw [upd_ne npf.symm, upd_same]
        rfl
      · have q1 : RowIs H' L ls := ⟨ps1, hLL, pr⟩
        have q2 : RowIs (upd H' lf (.lst [.ref L])) L ls := q1.same fun b o e => (upd_ne (ne_of_none e hlf)).trans e
        obtain ⟨ps2, z1, z2⟩ := q2
        exact ⟨ps2, (upd_ne (ne_of z1 ((upd_ne npf).trans p3) (by intro z; cases z))).trans z1, paired_mono z2 fun b t z => (upd_ne (ne_of z ((upd_ne npf).trans p3) (by intro y; cases y))).trans z⟩
      · intro b o n1 n2 e
        have e3 := B b o n1 (S12 b o n2 e)
        rw [upd_ne n2, upd_ne (ne_of_none e3 hlf)]
        exact e3
      · have q : Dg (upd H' lf (.lst [.ref L])) g d zs1 := D3.same fun b o e => (upd_ne (ne_of_none e hlf)).trans e
        exact q.put ((upd_ne npf).trans p3) (fun _ z => by cases z) npd
      · omega
      · intro r' hr' t ht
        rw [List.mem_singleton.mp hr'] at ht
        exact ok t ht
      · omega
      · omega
      · show (ls.length - 1) * 1 ≤ 63
        omega
      · show 0 ≤ 6
        decide
      · rintro m σ H4 ⟨rfl, ⟨zs2, pre, r, fl, q, p4, lo4, lf4, pfl, hq, nfl, nq, B4, D4, pf4, ln4, ch, ok4, fl4, h1, h64, hpow, hpre, h0, rfl⟩⟩
        obtain ⟨qs, hqs, lqs, _⟩ := hq.get
        refine ⟨_, rfl, p, C, dx, _, _, rfl, p4, ct.cl, ct.nF, tfl_floors _ _, _, rfl, lf, _, _, _, rfl, rfl, SqL.of lf4, atI_last _ _, q, _, rfl, .inl (SqL.of hqs), _, _, rfl, rfl, _, rfl, ?_⟩
        rw [List.length_map, lqs]
        refine ite2 (fun hgt => ?_) (fun hle => ?_)
        · have hgt' : 1 < r.length := by
            have z := of_decide_eq_true hgt
            omega
          have r0 : Row0 zs2 r := ⟨fun t ht => ok4 r (List.mem_append_right _ List.mem_cons_self) t ht, by
            rw [sums_flat, fl4]
            have := row_small hA hperm
            omega⟩
          refine ⟨fun σ' H' => ∃ m', m' < r.length ∧ σ' = [some (.ref p), some (.ref a), some (.ref g), none] ∧ WI C p dx lo lf d g H zs ys ps ls m' H', fun σ' H' z => z, ?_⟩
          refine ⟨_, rfl, p, C, dx, _, _, rfl, p4, ct.cl, ct.nF, tfl_floors _ _, .inl ⟨rfl, _, SqL.of lf4⟩, ?_⟩
          refine ⟨_, rfl, p, C, dx, _, _, rfl, p4, ct.cl, ct.nF, tfl_floors _ _, _, rfl, lf, _, _, _, rfl, rfl, SqL.of lf4, atI_last _ _, _, rfl, q, g, d, zs2, r, rfl, hq, r0, h1, h64, D4, by omega, fun zs3 us H5 q2 B5 D5 pf5 ln5 up5 ok5 nq2 hrow5 => ?_⟩
          have lf5 := B5 _ _ ndf lf4
          have nq2f : q2 ≠ lf := fun z => by rw [z, lf4] at nq2; cases nq2
          refine ⟨lf, _, _, rfl, rfl, lf5, ?_, ?_⟩
          · rw [List.length_append, List.length_map, Paired.length pfl, sizeLine_eq]
            simp only [List.length_singleton]
            omega
          · have ul := up5.len
            refine ⟨us.length, by omega, rfl, ⟨zs3, pre ++ [r], us, fl ++ [q], q2, ?_, ?_, ?_, ?_, ?_, ?_, nq2f, ?_, D5.set lf5, pf4.trans pf5, by omega, ch.snoc up5, ?_, ?_, by omega, by omega, ?_, ?_, ?_, rfl⟩⟩
            · rw [upd_ne npf]
              exact B5 _ _ npd p4
            · rw [upd_ne nol]
              exact B5 _ _ (D4.ne lo4 fun _ z => by cases z) lo4
            · rw [upd_same, List.map_append]
              rfl
            · refine paired_app (paired_all pfl fun b hb r' z => (z.but D4 B5).set lf5 (nfl b hb)) (.cons ((hq.but D4 B5).set lf5 nq) .nil)
            · exact hrow5.set lf5 nq2f
            · intro b hb
              rcases List.mem_append.mp hb with e | e
              · exact nfl b e
              · rw [List.mem_singleton.mp e]
                exact nq
            · intro b o n1 n2 e
              have e4 := B4 b o n1 n2 e
              have nbf : b ≠ lf := by
                intro z
                rw [z] at e
                have e3 := B lf o ndf (S12 lf o (by rw [← z]; exact n2) e)
                rw [hlf] at e3
                cases e3
              rw [upd_ne nbf]
              exact B5 b o n1 e4
            · intro r' hr' t ht
              rcases List.mem_append.mp hr' with e | e
              · exact (ok4 r' e t ht).mono pf5
              · rw [List.mem_singleton.mp e] at ht
                exact ok5 t ht
            · rw [up5.flat, fl4]
            · rw [List.length_append, List.length_singleton, Nat.pow_succ]
              refine Nat.le_trans ?_ hpow
              rw [Nat.mul_comm (2 ^ pre.length) 2, ← Nat.mul_assoc]
              exact Nat.mul_le_mul_right _ (by omega)
            · rw [List.length_append, List.length_singleton]
              by_cases h6 : pre.length ≤ 5
              · omega
              · exfalso
                have e6 : pre.length = 6 := by omega
                rw [e6] at hpow
                omega
            · rw [List.getElem?_append_left (by simp)]
              exact h0
        · have hr1 : r.length = 1 := by
            have z : ¬ (1 : Int) < (r.length : Int) := fun z => hle (decide_eq_true z)
            omega
          obtain ⟨t0, rfl⟩ := List.length_eq_one_iff.mp hr1
          refine k zs2 H4 ys (pre ++ [[t0]]) t0 B4 D4 pf4 (by omega) ⟨dx, lo, lf, fl ++ [q], p4, lo4, ?_, paired_app pfl (.cons hq .nil)⟩ ⟨hperm, ⟨ls, h0, lv⟩, ch, ⟨pre, rfl⟩, ?_, ok4, ?_⟩
          · rw [List.map_append]
            exact lf4
          · rw [List.length_append, List.length_singleton]
            omega
          · rw [← fl4]
            simp
end
end K78
/-! K78J: a tree's root and shares. -/
namespace K78
open PySem PySem.Spec PyProof.Rows L2 TL LamX NdefX
theorem TreeIs.same {C : Addr} {H H' : Hp} {p : Addr} {ys : List Str} {fs : List (List T)} (t : TreeIs C H p ys fs) (b : Same H H') : TreeIs C H' p ys fs := by
  obtain ⟨dx, lo, lf, fl, h1, h2, h3, h4⟩ := t
  exact ⟨dx, lo, lf, fl, b _ _ h1, b _ _ h2, b _ _ h3, paired_mono h4 fun a r q => q.same b⟩
theorem TreeIs.but {C : Addr} {H H' : Hp} {p d : Addr} {ys : List Str} {fs : List (List T)} {f : Addr} {zs : List Str} (t : TreeIs C H p ys fs) (D : Dg H f d zs) (b : But d H H') : TreeIs C H' p ys fs := by
  obtain ⟨dx, lo, lf, fl, h1, h2, h3, h4⟩ := t
  exact ⟨dx, lo, lf, fl, b _ _ (D.ne h1 fun _ z => by cases z) h1, b _ _ (D.ne h2 fun _ z => by cases z) h2, b _ _ (D.ne h3 fun _ z => by cases z) h3, paired_mono h4 fun a r q => q.but D b⟩
theorem map_last {α β : Type} {F : α → β → Prop} : ∀ {pre : List β} {r : β} {fl : List α}, Paired F fl (pre ++ [r]) → ∃ (fl' : List α) (q : α), fl = fl' ++ [q] ∧ Paired F fl' pre ∧ F q r
  | [], r, _, .cons h .nil => ⟨[], _, rfl, .nil, h⟩
  | b :: pre, r, _, .cons h t => by
    obtain ⟨fl', q, e, h1, h2⟩ := map_last (pre := pre) t
    exact ⟨_ :: fl', q, by rw [e] <;> rfl, .cons h h1, h2⟩
/-! ### root -/
def spRoot (C : Addr) : Sp := fun vs H Q _ => ∃ (p : Addr) (ys : List Str) (fs pre : List (List T)) (t0 : T), vs = [.ref p] ∧ TreeIs C H p ys fs ∧ fs = pre ++ [[t0]] ∧ ∀ q, PairAt H q t0 → Q (.ref q) H
section
variable {P : Program} {w : World} {K : PySem.W.Frag} {mg : Str → Option Value} {base : Heap}
theorem scRoot : FnScope ["self"] ["self"] (defScope sRoot) := ⟨rfl, rfl, rfl, by decide +kernel, rfl, by decide +kernel, by decide +kernel⟩
theorem ok_root {f C : Addr} {fd : FuncData} (F : FnP K "root" "Tree.root" sRoot f fd) (ct : CT K mg C) : FnOk P w K mg base CX0 1 f fd ["self"] (spRoot C) := by
  refine F.ok scRoot (fun vs H Q E h => ?_) (fun cdv A outer s H vs Q E hr h => ?_)
  · obtain ⟨p, ys, fs, pre, t0, rfl, _⟩ := h
    rfl
  · obtain ⟨p, ys, fs, pre, t0, rfl, ⟨dx, lo, lf, fl, h1, h2, h3, h4⟩, rfl, k⟩ := h
    obtain ⟨fl', q, rfl, h5, h6⟩ := map_last h4
    obtain ⟨qs, g1, g2, g3⟩ := h6.get
    obtain ⟨b, e1, e2⟩ := g3 0 t0 rfl
    rw [List.map_append] at h3
    refine ⟨_, pss_one (ps_ret (pe_ix ix_list (pe_ix ix_list (pe_fld (pv 0) rfl) (pe_un un_neg pe_int) (fun _ _ => rfl)) pe_int (fun _ _ => rfl))), ?_⟩
    exact ⟨_, rfl, p, C, dx, _, _, rfl, h1, ct.cl, ct.nF, tfl_floors _ _, _, rfl, lf, _, _, _, rfl, rfl, SqL.of h3, atI_last _ _, q, _, _, _, rfl, rfl, SqL.of g1, atI_nat (j := 0) e1, k b e2⟩
end
/-! ### share -/
def side (b : Bool) : Str := if b then Str.ofString "left" else Str.ofString "right"
def StepAt (H : Hp) (a : Addr) (s : Bool × T) : Prop := H a = some (.tup [.str (side s.1), .int s.2.mk, .int s.2.sm])
def ShareAt (H : Hp) (q : Addr) (path : Path) : Prop := ∃ qs : List Addr, H q = some (.tup (qs.map V.ref)) ∧ Paired (StepAt H) qs path
def spShare (C : Addr) : Sp := fun vs H Q _ => ∃ (p : Addr) (n : Str) (ps : List (Str × Int)) (ys zs : List Str) (fs : List (List T)) (t0 : T), vs = [.ref p, .str n] ∧ TreeIs C H p ys fs ∧ TreeOk zs ps ys fs t0 ∧ n ∈ ys ∧ ys.Nodup ∧ Nm n ∧ ys.length ≤ 64 ∧
  ∀ (path : Path) (m0 : Int) (H' : Hp) (q : Addr), Same H H' → ShareAt H' q path → Plug (.leaf n (num ps n) m0) path t0 → path.length ≤ 6 → Q (.ref q) H'
theorem flat_strs : ∀ ys : List Str, (ys.map V.str).all flatV = true
  | [] => rfl
  | _ :: r => flat_strs r
theorem inV_strs {n : Str} : ∀ {ys : List Str}, n ∈ ys → inV (.str n) (ys.map V.str) = true
  | y :: r, h => by
    show (eqV (.str y) (.str n) || inV (.str n) (r.map V.str)) = true
    rcases List.mem_cons.mp h with e | e
    · have q : eqV (.str y) (.str n) = true := by
        rw [e]
        show (y == y) = true
        simp
      rw [q] <;> rfl
    · rw [inV_strs e, Bool.or_true]
theorem step_set {H : Hp} {L a : Addr} {xs : List V} {o : HO} {s : Bool × T} (h : StepAt H a s) (hL : H L = some (.lst xs)) : StepAt (upd H L o) a s := (upd_ne (ne_of h hL (by intro z; cases z))).trans h
/-- between two turns of the walk up the floors -/
structure SI (p L : Addr) (n : Str) (HS : Hp) (fs : List (List T)) (leaf : T) (i : Nat) (σ : L2.St) (H1 : Hp) : Prop where
  ex : ∃ (k : Nat) (path : Path) (qs : List Addr) (r : List T) (u : T) (v4 v5 : Option V), σ = [some (.ref p), some (.str n), some (.int (k : Int)), some (.ref L), v4, v5] ∧ (∀ b o, b ≠ L → HS b = some o → H1 b = some o) ∧ H1 L = some (.lst (qs.map V.ref)) ∧ Paired (StepAt H1) qs path ∧
    fs[i]? = some r ∧ r[k]? = some u ∧ Plug leaf path u ∧ path.length ≤ i ∧ r.length ≤ 64
section
variable {P : Program} {w : World} {K : PySem.W.Frag} {mg : Str → Option Value} {base : Heap}
theorem scShare : FnScope ["self", "name", "at", "found", "floor", "beside"] ["self", "name"] (defScope sShare) := ⟨rfl, rfl, rfl, by decide +kernel, rfl, by decide +kernel, by decide +kernel⟩
theorem ok_share {f f1 C : Addr} {fd fd1 : FuncData} (F : FnP K "share" "Tree.share" sShare f fd) (tx : TX K mg) (ct : CT K mg C) (G1 : Has P w K mg base 1 "is_name" ["thing"] spIsName f1 fd1) : FnOk P w K mg base CX0 2 f fd ["self", "name"] (spShare C) := by
  refine okN F scShare (fun vs H Q E h => ?_) (fun cdv A outer s H vs Q E hr h => ?_)
  · obtain ⟨p, n, ps, ys, zs, fs, t0, rfl, _⟩ := h
    rfl
  · obtain ⟨p, n, ps, ys, zs, fs, t0, rfl, ht, O, hn, nd, nm, l64, k⟩ := h
    obtain ⟨t1, g1⟩ := tx.left
    obtain ⟨t2, g2⟩ := tx.right
    refine ⟨_, pss_cons (ps_if (PW.pt (pw_or (pt_not (pt_val (pe_call G1.ok hr (by rfl) G1.gm G1.kp G1.bd .nil pass0 (pa_cons (pv 1) pa_nil)))) (pw_or1 (pt_cmpR op_notIn_seq (pv 1) (pe_fld (pv 0) rfl) rfl)))) (pss_one ps_never) pss_nil)
      (pss_cons (ps_par (i := 2) (j := 3) rfl scShare.nd rfl rfl (by decide) rfl rfl (pa_cons (pe_bm PySem.F.plainAttrs_list PySem.F.slot_list_index PySem.F.type_list_index mt_index (pe_fld (pv 0) rfl) (pa_cons (pv 1) pa_nil)) (pa_cons (pe_lst pa_nil) pa_nil)) (by rfl))
      (pss_cons (ps_for PassesOwn.never rfl (pi_list (pe_slice sl_list (pe_fld (pv 0) rfl) po_none (po_some (pe_un un_neg pe_int)))) (pg_name (i := 4) scShare.nd rfl (Or.inl rfl))
        (pss_cons (ps_set (i := 5) scShare.nd rfl (Or.inl rfl) (pe_ifExp (pt_cmpR op_eq (pe_op op_mod (pv 2) pe_int) pe_int (nomark _)) (pe_op op_sub (pv 2) pe_int) (pe_op op_add (pv 2) pe_int)))
        (pss_cons (ps_if (pt_cmpR op_lt (pv 5) (pe_callB call_len_seq (by rfl) tx.len PySem.boot_len (pa_cons (pv 4) pa_nil)) (nomark _))
          (pss_one (ps_expr (pe_bm PySem.F.plainAttrs_list PySem.F.slot_list_append PySem.F.type_list_append mt_append (pv 3) (pa_cons (pe_op op_catT (pe_tup (pa_cons (pe_ifExp (pt_cmpR op_lt (pv 5) (pv 2) (nomark _))
            (pe_glob (v := .str "left") (by rfl) g1 ⟨_, rfl⟩) (pe_glob (v := .str "right") (by rfl) g2 ⟨_, rfl⟩)) pa_nil)) (pe_ix ix_list (pv 4) (pv 5) (fun _ _ => rfl))) pa_nil)))) pss_nil)
        (pss_one (ps_set (i := 2) scShare.nd rfl (Or.inl rfl) (pe_op op_fdiv (pv 2) pe_int))))))
      (pss_one (ps_ret (pe_callTy call_tuple_of (by rfl) tx.tuple (by decide +kernel) (pa_cons (pv 3) pa_nil)))))), ?_⟩
    refine ⟨_, rfl, n, rfl, nm, fun H1 S1 => ⟨true, rfl, iteF ?_⟩⟩
    obtain ⟨dx, lo, lf, fl, h1, h2, h3, h4⟩ := ht.same S1
    refine ⟨_, rfl, _, rfl, p, C, dx, _, _, rfl, h1, ct.cl, ct.nO, tfl_order _ _, lo, _, rfl, .inl (SqL.of h2), rfl, flat_strs ys, _, rfl, ?_⟩
    rw [inV_strs hn]
    refine iteF ?_
    -- at, found = self.order.index(name), []
    obtain ⟨j, hj, ej⟩ := List.mem_iff_getElem.mp hn
    have ej1 : ys[j]? = some n := by rw [List.getElem?_eq_getElem hj, ej]
    have ej2 : (ys.map V.str)[j]? = some (V.str n) := by rw [List.getElem?_map, ej1] <;> rfl
    have early : ∀ (m : Nat) (z' : V), m < j → (ys.map V.str)[m]? = some z' → eqV z' (.str n) = false := fun m z' hm hz => by
      rw [List.getElem?_map, List.getElem?_eq_getElem (by omega)] at hz
      have e := Option.some.inj hz
      subst e
      show (ys[m] == n) = false
      rw [beq_eq_false_iff_ne]
      intro e2
      have e3 : m = j := (List.getElem_inj nd).mp (e2.trans ej.symm)
      omega
    refine ⟨_, rfl, p, C, dx, _, _, rfl, h1, ct.cl, ct.nO, tfl_order _ _, .inl ⟨rfl, _, SqL.of h2⟩, _, rfl, lo, _, _, j, V.str n, rfl, rfl, SqL.of h2, rfl, flat_strs ys, ej2, (by show (n == n) = true; simp), early, Nat.zero_le _, fun L hL => ⟨_, _, rfl, ?_⟩⟩
    have S1L : Same H1 (upd H1 L (.lst [])) := fun b o e => (upd_ne (ne_of_none e hL)).trans e
    obtain ⟨pre, rfl⟩ := O.top
    obtain ⟨fl', q0, rfl, h5, h6⟩ := map_last h4
    obtain ⟨ls, hls, lv⟩ := O.lv
    obtain ⟨m0, em0⟩ : ∃ m0, ls[j]? = some (.leaf n (num ps n) m0) := by
      have lj : j < ls.length := by rw [← Paired.length lv]; exact hj
      obtain ⟨n', e1, m0, e2⟩ := paired_get lv (List.getElem?_eq_getElem lj)
      rw [ej1] at e1
      have e3 := Option.some.inj e1
      subst e3
      exact ⟨m0, by rw [List.getElem?_eq_getElem lj, e2]⟩
    have lls : ls.length ≤ 64 := by rw [← Paired.length lv]; exact l64
    have cut : cutV ((fl' ++ [q0]).map V.ref) none (some (-1)) = fl'.map V.ref := by
      unfold cutV
      rw [HT.sIx_none]
      have e : HT.sIx ((fl' ++ [q0]).map V.ref).length ((fl' ++ [q0]).map V.ref).length (some (-1)) = fl'.length := by
        show (if (-1 : Int) < 0 then ((-1 : Int) + (((fl' ++ [q0]).map V.ref).length : Int)).toNat else min (-1 : Int).toNat ((fl' ++ [q0]).map V.ref).length) = _
        rw [if_pos (by decide), List.length_map, List.length_append, List.length_singleton]
        omega
      rw [e, List.drop_zero, Nat.sub_zero, List.map_append, List.take_append_of_le_length (by simp), List.take_of_length_le (by simp)]
    refine ⟨_, rfl, p, C, dx, _, _, rfl, S1L _ _ h1, ct.cl, ct.nF, tfl_floors _ _, _, rfl, _, rfl, lf, _, rfl, SqL.of (S1L _ _ h3), fun S hS => ?_⟩
    have nLS : L ≠ S := fun z => by rw [← z, upd_same] at hS; cases hS
    rw [cut]
    generalize hH3 : upd (upd H1 L (.lst [])) S (.lst (fl'.map V.ref)) = H3
    have hS3 : H3 S = some (.lst (fl'.map V.ref)) := by rw [← hH3, upd_same]
    have hL3 : H3 L = some (.lst []) := by rw [← hH3, upd_ne nLS, upd_same]
    have S13 : Same H1 H3 := fun b o e => by
      have e1 := S1L b o e
      rw [← hH3, upd_ne (ne_of_none e1 hS)]
      exact e1
    refine ⟨S, rfl, ⟨_, SqL.of hS3⟩, for_list (K := K) (a := S) (xs := fl'.map V.ref) (SI p L n H3 (pre ++ [[t0]]) (.leaf n (num ps n) m0))
      ⟨j, [], [], ls, _, none, none, rfl, (fun b o _ e => e), hL3, .nil, hls, em0, rfl, Nat.le_refl _, lls⟩ (fun i σ H4 _ I => ?_) ?_ ?_⟩
    · obtain ⟨_, _, _, _, _, _, _, _, B, _⟩ := I.ex
      exact SqL.of (B S _ nLS.symm hS3)
    · rintro i x σ H4 hx ⟨kk, path, qs, r, u, v4, v5, rfl, B, hLL, pr, hri, hu, hpl, hpath, r64⟩
      have hi : i < pre.length := by
        have z := (List.getElem?_eq_some_iff.mp hx).1
        rw [List.length_map, Paired.length h5] at z
        exact z
      obtain ⟨b, eb, hb⟩ : ∃ b, (fl' ++ [q0])[i]? = some b ∧ RowIs H1 b r := paired_get h4 hri
      have exb : x = V.ref b := by
        rw [List.getElem?_append_left (by rw [Paired.length h5]; exact hi)] at eb
        rw [List.getElem?_map, eb] at hx
        exact (Option.some.inj hx).symm
      subst exb
      have S14 : Same H1 H4 := fun a o e => B a o (ne_of_none e hL) (S13 a o e)
      obtain ⟨bs, g3, g4, g5⟩ := (hb.same S14).get
      obtain ⟨s, hs⟩ : ∃ s, (pre ++ [[t0]])[i + 1]? = some s := ⟨_, List.getElem?_eq_getElem (by rw [List.length_append, List.length_singleton]; omega)⟩
      have up := O.ch i r s hri hs
      obtain ⟨st1, st2, st3⟩ := step_up hpl up hu
      have s64 : s.length ≤ 64 := by rw [up.len]; omega
      have kl : kk < r.length := (List.getElem?_eq_some_iff.mp hu).1
      have div : ((kk : Int) / 2) = ((kk / 2 : Nat) : Int) := by omega
      -- what was appended
      have fin : ∀ (bb : Bool) (t' u' : T) (x5 : Option V) (tp q : Addr), H4 tp = none → upd H4 tp (.tup [.str (side bb)]) q = none → Plug (.leaf n (num ps n) m0) (path ++ [(bb, t')]) u' → s[kk / 2]? = some u' →
          SI p L n H3 (pre ++ [[t0]]) (.leaf n (num ps n) m0) (i + 1) [some (.ref p), some (.str n), some (.int ((kk : Int) / 2)), some (.ref L), some (.ref b), x5]
            (upd (upd (upd H4 tp (.tup [.str (side bb)])) q (.tup [.str (side bb), .int t'.mk, .int t'.sm])) L (.lst (qs.map V.ref ++ [.ref q]))) := fun bb t' u' x5 tp q htp hq hp' hs' => by
        have e1 : ∀ a o, H4 a = some o → upd (upd H4 tp (.tup [.str (side bb)])) q (.tup [.str (side bb), .int t'.mk, .int t'.sm]) a = some o := fun a o e => by
          have e2 : upd H4 tp (.tup [.str (side bb)]) a = some o := (upd_ne (ne_of_none e htp)).trans e
          rw [upd_ne (ne_of_none e2 hq)]
          exact e2
        have eL := e1 _ _ hLL
        refine ⟨kk / 2, path ++ [(bb, t')], qs ++ [q], s, u', _, _, by rw [div], fun a o n1 e => ?_, ?_, ?_, hs, hs', hp', by rw [List.length_append, List.length_singleton]; omega, s64⟩
        · rw [upd_ne n1]
          exact e1 a o (B a o n1 e)
        · rw [upd_same, List.map_append]
          rfl
        · exact paired_app (paired_mono pr fun a y z => step_set (e1 _ _ z) eL) (.cons (step_set (s := (bb, t')) upd_same eL) .nil)
      have llb : (bs.map V.ref).length = r.length := by rw [List.length_map, g4]
      refine ⟨_, rfl, _, _, rfl, rfl, (by show (0 : Int) < 2; decide), rfl, _, rfl, ?_⟩
      have szq : (qs.map V.ref).length < sizeLine := by
        rw [List.length_map, Paired.length pr, sizeLine_eq]
        have := O.many
        rw [List.length_append, List.length_singleton] at this
        omega
      by_cases odd : kk % 2 = 1
      · rw [decide_eq_true (show V.int ((kk : Int) % 2) = V.int 1 by rw [show ((kk : Int) % 2) = 1 by omega])]
        refine iteT ⟨_, rfl, _, _, rfl, rfl, ?_⟩
        refine ⟨_, rfl, _, rfl, b, _, rfl, .inl (SqL.of g3), _, _, rfl, rfl, _, rfl, ?_⟩
        rw [llb, decide_eq_true (show (kk : Int) - 1 < (r.length : Int) by omega)]
        refine iteT ⟨_, rfl, .inl ⟨rfl, _, SqL.of hLL⟩, ?_⟩
        refine ⟨_, rfl, _, rfl, _, _, rfl, rfl, _, rfl, ?_⟩
        rw [decide_eq_true (show (kk : Int) - 1 < (kk : Int) by omega)]
        obtain ⟨b', eb'⟩ : ∃ b', r[kk - 1]? = some b' := ⟨_, List.getElem?_eq_getElem (by omega)⟩
        obtain ⟨pb, e1, e2⟩ := g5 _ _ eb'
        obtain ⟨m, st4, st5⟩ := st1 b' odd eb'
        refine iteT ⟨(by show 1 ≤ sizeLine; decide), fun tp htp => ?_⟩
        refine ⟨_, rfl, _, rfl, b, _, _, _, rfl, rfl, SqL.of ((upd_ne (ne_of_none g3 htp)).trans g3), at_of (j := kk - 1) (by omega) e1, ?_⟩
        refine ⟨tp, pb, _, _, rfl, rfl, SqT.of upd_same, SqT.of ((upd_ne (ne_of_none e2 htp)).trans e2), by simp, (by show 3 ≤ sizeLine; decide), (fun z => by cases z), fun _ q hq => ?_⟩
        have eL1 : upd H4 tp (.tup [.str (Str.ofString "left")]) L = some (.lst (qs.map V.ref)) := (upd_ne (ne_of_none hLL htp)).trans hLL
        refine ⟨L, _, _, rfl, rfl, (upd_ne (ne_of_none eL1 hq)).trans eL1, szq, ?_⟩
        refine ⟨_, rfl, _, _, rfl, rfl, ⟨by decide, by decide⟩, ?_⟩
        exact fin true b' _ _ tp q htp hq st4 st5
      · rw [decide_eq_false (show ¬ V.int ((kk : Int) % 2) = V.int 1 from fun z => by have := V.int.inj z; omega)]
        refine iteF ⟨_, rfl, _, _, rfl, rfl, ?_⟩
        refine ⟨_, rfl, _, rfl, b, _, rfl, .inl (SqL.of g3), _, _, rfl, rfl, _, rfl, ?_⟩
        rw [llb]
        refine ite2 (fun hlt => ?_) (fun hge => ?_)
        · have hlt' : (kk : Int) + 1 < (r.length : Int) := of_decide_eq_true hlt
          refine ⟨_, rfl, .inl ⟨rfl, _, SqL.of hLL⟩, ?_⟩
          refine ⟨_, rfl, _, rfl, _, _, rfl, rfl, _, rfl, ?_⟩
          rw [decide_eq_false (show ¬ (kk : Int) + 1 < (kk : Int) by omega)]
          obtain ⟨b', eb'⟩ : ∃ b', r[kk + 1]? = some b' := ⟨_, List.getElem?_eq_getElem (by omega)⟩
          obtain ⟨pb, e1, e2⟩ := g5 _ _ eb'
          obtain ⟨m, st4, st5⟩ := st2 b' odd eb'
          refine iteF ⟨(by show 1 ≤ sizeLine; decide), fun tp htp => ?_⟩
          refine ⟨_, rfl, _, rfl, b, _, _, _, rfl, rfl, SqL.of ((upd_ne (ne_of_none g3 htp)).trans g3), at_of (j := kk + 1) (by omega) e1, ?_⟩
          refine ⟨tp, pb, _, _, rfl, rfl, SqT.of upd_same, SqT.of ((upd_ne (ne_of_none e2 htp)).trans e2), by simp, (by show 3 ≤ sizeLine; decide), (fun z => by cases z), fun _ q hq => ?_⟩
          have eL1 : upd H4 tp (.tup [.str (Str.ofString "right")]) L = some (.lst (qs.map V.ref)) := (upd_ne (ne_of_none hLL htp)).trans hLL
          refine ⟨L, _, _, rfl, rfl, (upd_ne (ne_of_none eL1 hq)).trans eL1, szq, ?_⟩
          refine ⟨_, rfl, _, _, rfl, rfl, ⟨by decide, by decide⟩, ?_⟩
          exact fin false b' _ _ tp q htp hq st4 st5
        · have hge' : ¬ (kk : Int) + 1 < (r.length : Int) := fun z => hge (decide_eq_true z)
          refine ⟨_, rfl, _, _, rfl, rfl, ⟨by decide, by decide⟩, ?_⟩
          exact ⟨kk / 2, path, qs, s, u, _, _, by rw [← div] <;> rfl, B, hLL, pr, hs, st3 odd (List.getElem?_eq_none_iff.mpr (by omega)), hpl, by omega, s64⟩
    · rintro σ H4 ⟨kk, path, qs, r, u, v4, v5, rfl, B, hLL, pr, hri, hu, hpl, hpath, r64⟩
      have S14 : Same H1 H4 := fun a o e => B a o (ne_of_none e hL) (S13 a o e)
      have lfl : (fl'.map V.ref).length = pre.length := by rw [List.length_map, Paired.length h5]
      rw [lfl] at hri hpath
      have er : r = [t0] := by
        rw [List.getElem?_append_right (Nat.le_refl _), Nat.sub_self] at hri
        exact (Option.some.inj hri).symm
      have eu : u = t0 := by
        rw [er] at hu
        have kl := (List.getElem?_eq_some_iff.mp hu).1
        have k0 : kk = 0 := by simp at kl; omega
        rw [k0] at hu
        exact (Option.some.inj hu).symm
      subst eu
      refine ⟨_, rfl, L, _, rfl, .inl ⟨SqL.of hLL, fun q hq => ?_⟩⟩
      have S4 : Same H4 (upd H4 q (.tup (qs.map V.ref))) := fun b o e => (upd_ne (ne_of_none e hq)).trans e
      refine k path m0 _ q ((S1.trans S14).trans S4) ⟨qs, upd_same, paired_mono pr fun a y z => S4 _ _ z⟩ hpl ?_
      have := O.many
      rw [List.length_append, List.length_singleton] at this
      omega
end
end K78
/-! K78K: what shows. -/
namespace K78
open PySem PySem.Spec PyProof.Rows L2 TL LamX NdefX
section
variable {P : Program} {w : World} {K : PySem.W.Frag} {mg : Str → Option Value} {base : Heap}
/-! ### is_pair -/
def MostMark (m : Int) : Prop := 0 ≤ m ∧ m ≤ 1000000000000000000000000000000
def spIsPair : Sp := fun vs H Q _ => ∃ (a : Addr) (m x : Int), vs = [.ref a] ∧ H a = some (.tup [.int m, .int x]) ∧ MostMark m ∧ 0 ≤ x ∧ Q (.bl true) H
theorem scIsPair : FnScope ["thing"] ["thing"] (defScope sIsPair) := ⟨rfl, rfl, rfl, by decide +kernel, rfl, by decide +kernel, by decide +kernel⟩
theorem ok_isPair {f f1 : Addr} {fd fd1 : FuncData} (F : FnP K "is_pair" "is_pair" sIsPair f fd) (tx : TX K mg) (G1 : Has P w K mg base 1 "is_number" ["thing", "low", "high"] spIsNumber f1 fd1) : FnOk P w K mg base CX0 2 f fd ["thing"] spIsPair := by
  refine F.ok scIsPair (fun vs H Q E h => ?_) (fun cdv A outer s H vs Q E hr h => ?_)
  · obtain ⟨a, m, x, rfl, _⟩ := h
    rfl
  · obtain ⟨a, m, x, rfl, ha, hm, hx, k⟩ := h
    obtain ⟨t1, g1⟩ := tx.mark
    refine ⟨_, pss_cons (ps_if (PW.pt (pw_or (pt_not (pt_val (pe_callB call_isi (by rfl) tx.isi (by decide +kernel) (pa_cons (pv 0) (pa_cons (pe_bltn (v := .ty "tuple") (by rfl) tx.tuple (by decide +kernel) rfl) pa_nil)))))
        (pw_or1 (pt_cmpR op_ne (pe_callB call_len_seq (by rfl) tx.len PySem.boot_len (pa_cons (pv 0) pa_nil)) pe_int (nomark _))))) (pss_one (ps_ret pe_bl)) pss_nil)
      (pss_one (ps_ret (pe_and (pe_call G1.ok hr (by rfl) G1.gm G1.kp G1.bd .nil pass0 (pa_cons (pe_ix ix_tup (pv 0) pe_int (fun _ _ => rfl)) (pa_cons pe_int (pa_cons (pe_glob (v := .int 1000000000000000000000000000000) (by rfl) g1 ⟨_, rfl⟩) pa_nil))))
        (pe_one (pe_call G1.ok hr (by rfl) G1.gm G1.kp G1.bd .nil pass0 (pa_cons (pe_ix ix_tup (pv 0) pe_int (fun _ _ => rfl)) (pa_cons pe_int (pa_cons pe_non pa_nil)))))))), ?_⟩
    refine ⟨_, rfl, _, _, _, _, true, rfl, .ty "tuple", .base (.tup ha), kit_ty (by decide +kernel), true, rfl, iteF ?_⟩
    refine ⟨_, rfl, a, _, rfl, .inr (SqT.of ha), rfl, _, rfl, ?_⟩
    refine iteF ?_
    refine ⟨_, rfl, a, _, _, _, rfl, rfl, SqT.of ha, atI_nat (j := 0) rfl, _, _, _, rfl, hm.1, .inr ⟨_, rfl, hm.2⟩, true, rfl, iteT ?_⟩
    exact ⟨_, rfl, a, _, _, _, rfl, rfl, SqT.of ha, atI_nat (j := 1) rfl, _, _, _, rfl, hx, .inl rfl, k⟩
/-! ### is_beside -/
def spIsBeside : Sp := fun vs H Q _ => ∃ (a : Addr) (s : Bool × T), vs = [.ref a] ∧ StepAt H a s ∧ MostMark s.2.mk ∧ 0 ≤ s.2.sm ∧ ∀ H', Same H H' → Q (.bl true) H'
theorem scIsBeside : FnScope ["thing"] ["thing"] (defScope sIsBeside) := ⟨rfl, rfl, rfl, by decide +kernel, rfl, by decide +kernel, by decide +kernel⟩
theorem side_in (b : Bool) : inV (.str (side b)) [.str (Str.ofString "left"), .str (Str.ofString "right")] = true := by
  cases b <;> decide +kernel
theorem ok_isBeside {f f1 : Addr} {fd fd1 : FuncData} (F : FnP K "is_beside" "is_beside" sIsBeside f fd) (tx : TX K mg) (G1 : Has P w K mg base 2 "is_pair" ["thing"] spIsPair f1 fd1) : FnOk P w K mg base CX0 3 f fd ["thing"] spIsBeside := by
  refine F.ok scIsBeside (fun vs H Q E h => ?_) (fun cdv A outer s H vs Q E hr h => ?_)
  · obtain ⟨a, s, rfl, _⟩ := h
    rfl
  · obtain ⟨a, st, rfl, ha, hm, hx, k⟩ := h
    have ha' : H a = some (.tup [.str (side st.1), .int st.2.mk, .int st.2.sm]) := ha
    obtain ⟨t1, g1⟩ := tx.left
    obtain ⟨t2, g2⟩ := tx.right
    refine ⟨_, pss_cons (ps_if (PW.pt (pw_or (pt_not (pt_val (pe_callB call_isi (by rfl) tx.isi (by decide +kernel) (pa_cons (pv 0) (pa_cons (pe_bltn (v := .ty "tuple") (by rfl) tx.tuple (by decide +kernel) rfl) pa_nil)))))
        (pw_or (pt_cmpR op_ne (pe_callB call_len_seq (by rfl) tx.len PySem.boot_len (pa_cons (pv 0) pa_nil)) pe_int (nomark _))
        (pw_or1 (pt_not (pt_val (pe_callB call_isi (by rfl) tx.isi (by decide +kernel) (pa_cons (pe_ix ix_tup (pv 0) pe_int (fun _ _ => rfl)) (pa_cons (pe_bltn (v := .ty "str") (by rfl) tx.str (by decide +kernel) rfl) pa_nil)))))))))
        (pss_one (ps_ret pe_bl)) pss_nil)
      (pss_one (ps_ret (pe_and (pe_cmpR op_in_seq (pe_ix ix_tup (pv 0) pe_int (fun _ _ => rfl)) (pe_tup (pa_cons (pe_glob (v := .str "left") (by rfl) g1 ⟨_, rfl⟩) (pa_cons (pe_glob (v := .str "right") (by rfl) g2 ⟨_, rfl⟩) pa_nil))) rfl)
        (pe_one (pe_call G1.ok hr (by rfl) G1.gm G1.kp G1.bd .nil pass0 (pa_cons (pe_slice sl_tup (pv 0) (po_some pe_int) po_none) pa_nil)))))), ?_⟩
    refine ⟨_, rfl, _, _, _, _, true, rfl, .ty "tuple", .base (.tup ha'), kit_ty (by decide +kernel), true, rfl, iteF ?_⟩
    refine ⟨_, rfl, a, _, rfl, .inr (SqT.of ha'), rfl, _, rfl, iteF ?_⟩
    refine ⟨_, rfl, a, _, _, _, rfl, rfl, SqT.of ha', atI_nat (j := 0) rfl, _, _, _, _, true, rfl, .ty "str", .base (.str _), kit_ty (by decide +kernel), true, rfl, iteF ?_⟩
    refine ⟨_, rfl, a, _, _, _, rfl, rfl, SqT.of ha', atI_nat (j := 0) rfl, (by show 2 ≤ sizeLine; decide), fun p hp => ?_⟩
    refine ⟨p, _, rfl, .inr (SqT.of upd_same), rfl, rfl, ?_⟩
    refine ⟨true, congrArg V.bl (side_in st.1), iteT ?_⟩
    have ha2 : upd H p (.tup [.str (Str.ofString "left"), .str (Str.ofString "right")]) a = some (.tup [.str (side st.1), .int st.2.mk, .int st.2.sm]) := (upd_ne (ne_of_none ha' hp)).trans ha'
    refine ⟨_, rfl, _, rfl, a, _, rfl, SqT.of ha2, (fun z => absurd z.1 (by show ¬ (HT.sIx 3 0 (some 1) = 0); decide)), fun q hq => ?_⟩
    refine ⟨q, st.2.mk, st.2.sm, rfl, upd_same, hm, hx, k _ fun b o e => ?_⟩
    have e1 : upd H p (.tup [.str (Str.ofString "left"), .str (Str.ofString "right")]) b = some o := (upd_ne (ne_of_none e hp)).trans e
    exact (upd_ne (ne_of_none e1 hq)).trans e1
/-! ### shows -/
theorem ShareAt.same {H H' : Hp} {q : Addr} {path : Path} (h : ShareAt H q path) (b : Same H H') : ShareAt H' q path := by
  obtain ⟨qs, h1, h2⟩ := h
  exact ⟨qs, b _ _ h1, paired_mono h2 fun a s z => b _ _ z⟩
theorem ShareAt.but {H H' : Hp} {d q f : Addr} {zs : List Str} {path : Path} (h : ShareAt H q path) (D : Dg H f d zs) (b : But d H H') : ShareAt H' q path := by
  obtain ⟨qs, h1, h2⟩ := h
  exact ⟨qs, b _ _ (D.ne h1 fun _ z => by cases z) h1, paired_mono h2 fun a s z => b _ _ (D.ne z fun _ y => by cases y) z⟩
/-- a share's parts, as they are met: of the texts zs, not great -/
def PathOk (zs : List Str) (path : Path) : Prop := path.length ≤ 6 ∧ ∀ s ∈ path, Ok zs s.2 ∧ s.2.sm ≤ 10 ^ 15
theorem ok_mm {zs : List Str} {t : T} (h : Ok zs t) (hl : zs.length ≤ 100000) : MostMark t.mk := by
  have h1 := h.mk0
  have h2 := h.mkLt
  exact ⟨h1, by omega⟩
def spShows : Sp := fun vs H Q _ => ∃ (rt sh f d : Addr) (n : Str) (x : Int) (zs : List Str) (path : Path) (t0 : T), vs = [.ref rt, .str n, .int x, .ref sh, .ref f] ∧ PairAt H rt t0 ∧ Ok zs t0 ∧ Nm n ∧ 0 ≤ x ∧ x ≤ 10 ^ 13 ∧ ShareAt H sh path ∧ PathOk zs path ∧ Dg H f d zs ∧ zs.length ≤ 90000 ∧
  ∀ (zs' : List Str) (m : Int) (u : T) (b : Bool) (H' : Hp), But d H H' → Dg H' f d zs' → zs <+: zs' → zs'.length ≤ zs.length + 7 → Plug (.leaf n x m) path u → Ok zs' u → (b = true ↔ u = t0) → Q (.bl b) H'
theorem scShows : FnScope ["root", "name", "number", "share", "digest", "found", "side", "mark", "more", "one"] ["root", "name", "number", "share", "digest"] (defScope sShows) := ⟨rfl, rfl, rfl, by decide +kernel, rfl, by decide +kernel, by decide +kernel⟩
theorem side_eq (b : Bool) : decide (V.str (side b) = V.str (Str.ofString "left")) = b := by
  cases b <;> decide +kernel
theorem eqv_pair (a b c d : Int) : PyData.eqv (.tuple [.int a, .int b]) (.tuple [.int c, .int d]) = true ↔ a = c ∧ b = d := by
  simp [PyData.eqv, PyData.eqvAll]
/-- between two turns of the walk up a share -/
structure ShI (rt sh f d : Addr) (n : Str) (x : Int) (zs : List Str) (path : Path) (H : Hp) (i : Nat) (σ : L2.St) (H1 : Hp) : Prop where
  ex : ∃ (zs1 : List Str) (m : Int) (u : T) (fa : Addr) (v6 v7 v8 : Option V), σ = [some (.ref rt), some (.str n), some (.int x), some (.ref sh), some (.ref f), some (.ref fa), v6, v7, v8, none] ∧ But d H H1 ∧ Dg H1 f d zs1 ∧ zs <+: zs1 ∧ zs1.length ≤ zs.length + 1 + i ∧ PairAt H1 fa u ∧ Ok zs1 u ∧
    Plug (.leaf n x m) (path.take i) u ∧ u.sm ≤ 10 ^ 13 + (i : Int) * 10 ^ 15
theorem plug_step {p : Path} {t u : T} {i : Nat} {b : Bool} {s : T} (h : Plug t (p.take i) u) (e : p[i]? = some (b, s)) (m : Int) : Plug t (p.take (i + 1)) (if b then .node s u m else .node u s m) := by
  rw [List.take_add_one, e]
  exact Plug.snoc b s m h
theorem ok_shows {f f1 f2 f3 f4 f5 f6 : Addr} {fd fd1 fd2 fd3 fd4 fd5 fd6 : FuncData} (F : FnP K "shows" "shows" sShows f fd) (tx : TX K mg) (G1 : Has P w K mg base 2 "is_pair" ["thing"] spIsPair f1 fd1) (G2 : Has P w K mg base 1 "is_name" ["thing"] spIsName f2 fd2)
    (G3 : Has P w K mg base 1 "is_number" ["thing", "low", "high"] spIsNumber f3 fd3) (G4 : Has P w K mg base 3 "is_beside" ["thing"] spIsBeside f4 fd4) (G5 : Has P w K mg base 2 "leaf_of" ["name", "number", "digest"] spLeaf f5 fd5)
    (G6 : Has P w K mg base 2 "node_of" ["one", "other", "digest"] spNode f6 fd6) : FnOk P w K mg base CX0 4 f fd ["root", "name", "number", "share", "digest"] spShows := by
  refine okN F scShows (fun vs H Q E h => ?_) (fun cdv A outer s H vs Q E hr h => ?_)
  · obtain ⟨rt, sh, g, d, n, x, zs, path, t0, rfl, _⟩ := h
    rfl
  · obtain ⟨rt, sh, g, d, n, x, zs, path, t0, rfl, hrt, hok0, hn, hx0, hx1, hsh, hpath, D, hz, k⟩ := h
    obtain ⟨t1, g1⟩ := tx.left
    obtain ⟨qs, hqs, pqs⟩ := hsh
    have lqs : (qs.map V.ref).length = path.length := by rw [List.length_map, Paired.length pqs]
    refine ⟨_, pss_cons (ps_if (PW.pt (pw_or (pt_not (pt_val (pe_call G1.ok (hr.mono (by decide)) (by rfl) G1.gm G1.kp G1.bd .nil pass0 (pa_cons (pv 0) pa_nil)))) (pw_or (pt_not (pt_val (pe_call G2.ok (hr.mono (by decide)) (by rfl) G2.gm G2.kp G2.bd .nil pass0 (pa_cons (pv 1) pa_nil))))
        (pw_or1 (pt_not (pt_val (pe_call G3.ok (hr.mono (by decide)) (by rfl) G3.gm G3.kp G3.bd .nil pass0 (pa_cons (pv 2) (pa_cons pe_int (pa_cons pe_non pa_nil)))))))))) (pss_one (ps_ret pe_bl)) pss_nil)
      (pss_cons (ps_if (PW.pt (pw_or (pt_not (pt_val (pe_callB call_isi (by rfl) tx.isi (by decide +kernel) (pa_cons (pv 3) (pa_cons (pe_bltn (v := .ty "tuple") (by rfl) tx.tuple (by decide +kernel) rfl) pa_nil)))))
        (pw_or1 (pt_not (pt_val (pe_callB (cr_all (by rfl)) (by rfl) tx.all (by decide +kernel) (pa_cons
          (pe_lc (own := [("one", 9)]) (g := gName 9) (tt := tYes) (by rfl) scShows.nd (pi_tup (pv 3)) (blkOk_by (own := [("one", 9)]) (N := ["root", "name", "number", "share", "digest", "found", "side", "mark", "more", "one"]) (sc := defScope sShows) (by decide +kernel))
            (fun _ _ _ _ _ => pg_name (i := 9) scShows.nd rfl (Or.inl rfl)) (fun _ _ _ _ _ => pts_nil)
            (fun _ _ _ _ _ => pe_call G4.ok (hr.mono (by decide)) (by rfl) G4.gm G4.kp G4.bd .nil pass0 (pa_cons (pv 9) pa_nil))) pa_nil))))))) (pss_one (ps_ret pe_bl)) pss_nil)
      (pss_cons (ps_set (i := 5) scShows.nd rfl (Or.inl rfl) (pe_call G5.ok (hr.mono (by decide)) (by rfl) G5.gm G5.kp G5.bd .nil pass0 (pa_cons (pv 1) (pa_cons (pv 2) (pa_cons (pv 4) pa_nil)))))
      (pss_cons (ps_for PassesOwn.never rfl (pi_tup (pv 3)) (pg_tup rfl (pgs_cons (pg_name (i := 6) scShows.nd rfl (Or.inl rfl)) (pgs_cons (pg_name (i := 7) scShows.nd rfl (Or.inl rfl)) (pgs_cons (pg_name (i := 8) scShows.nd rfl (Or.inl rfl)) pgs_nil))))
        (pss_one (ps_set (i := 5) scShows.nd rfl (Or.inl rfl) (pe_ifExp (pt_cmpR op_eq (pv 6) (pe_glob (v := .str "left") (by rfl) g1 ⟨_, rfl⟩) (nomark _))
          (pe_call G6.ok (hr.mono (by decide)) (by rfl) G6.gm G6.kp G6.bd .nil pass0 (pa_cons (pe_tup (pa_cons (pv 7) (pa_cons (pv 8) pa_nil))) (pa_cons (pv 5) (pa_cons (pv 4) pa_nil))))
          (pe_call G6.ok (hr.mono (by decide)) (by rfl) G6.gm G6.kp G6.bd .nil pass0 (pa_cons (pv 5) (pa_cons (pe_tup (pa_cons (pv 7) (pa_cons (pv 8) pa_nil))) (pa_cons (pv 4) pa_nil))))))))
      (pss_one (ps_ret (pe_cmpR (op_eqD hr.units) (pv 5) (pv 0) (nomark _))))))), ?_⟩
    refine ⟨_, rfl, rt, t0.mk, t0.sm, rfl, hrt, ok_mm hok0 (by omega), hok0.sm0, true, rfl, iteF ?_⟩
    refine ⟨_, rfl, n, rfl, hn, fun H1 S1 => ⟨true, rfl, iteF ?_⟩⟩
    refine ⟨_, rfl, _, _, _, rfl, hx0, .inl rfl, true, rfl, iteF ?_⟩
    have hqs1 := S1 _ _ hqs
    refine ⟨_, rfl, _, _, _, _, true, rfl, .ty "tuple", .base (.tup hqs1), kit_ty (by decide +kernel), true, rfl, iteF ?_⟩
    refine ⟨_, rfl, sh, rfl, ⟨_, SqT.of hqs1⟩, fun L hL => ?_⟩
    refine lc_tup (K := K) (a := sh) (xs := qs.map V.ref) (fun i H' => Same H1 H' ∧ H' L = some (.lst (List.replicate i (V.bl true)))) ⟨fun b o e => (upd_ne (ne_of_none e hL)).trans e, upd_same⟩ (fun i H' _ p => SqT.of (p.1 _ _ hqs1)) (fun i y H' hy p => ?_) (fun H' p => ?_)
    · have hi : i < path.length := by
        have z := (List.getElem?_eq_some_iff.mp hy).1
        rw [lqs] at z
        exact z
      obtain ⟨b, eb, hb⟩ := paired_get pqs (List.getElem?_eq_getElem hi)
      have ey : y = V.ref b := by
        rw [List.getElem?_map, eb] at hy
        exact (Option.some.inj hy).symm
      subst ey
      have ms := hpath.2 _ (List.getElem_mem hi)
      refine ⟨rfl, yes_of ?_⟩
      refine iteT ⟨_, rfl, b, path[i], rfl, p.1 _ _ (S1 _ _ hb), ok_mm ms.1 (by omega), ms.1.sm0, fun H3 s3 => ⟨_, s3 _ _ p.2, ?_, ?_, ?_⟩⟩
      · rw [List.length_replicate, sizeLine_eq]
        have := hpath.1
        omega
      · exact fun a o e => (upd_ne (ne_of_none e hL)).trans (s3 a o (p.1 a o e))
      · rw [upd_same, List.replicate_succ']
    · refine ⟨L, List.replicate (qs.map V.ref).length true, rfl, ?_, ?_⟩
      · rw [List.map_replicate]
        exact SqL.of p.2
      have eall : (List.replicate (qs.map V.ref).length true).all id = true := by simp
      rw [eall]
      refine ⟨true, rfl, iteF ?_⟩
      have S2 : Same H H' := S1.trans p.1
      refine ⟨_, rfl, _, rfl, _, rfl, n, x, g, d, zs, rfl, hn, ⟨hx0, by omega⟩, D.same S2, by omega, fun zs1 m H2 fa B1 D1 pf1 ln1 hm nfa hfa => ?_⟩
      have B02 : But d H H2 := fun b o nb e => B1 b o nb (S2 b o e)
      have ndsh : sh ≠ d := D.ne hqs fun _ z => by cases z
      refine ⟨_, rfl, sh, rfl, ⟨_, SqT.of (B02 _ _ ndsh hqs)⟩, for_tup (K := K) (a := sh) (xs := qs.map V.ref) (ShI rt sh g d n x zs path H)
        ⟨zs1, m, .leaf n x m, fa, none, none, none, rfl, B02, D1, pf1, ln1, hfa, ⟨hn, hx0, hm⟩, rfl, by show x ≤ _; omega⟩ (fun i σ H3 _ I => ?_) ?_ ?_⟩
      · obtain ⟨_, _, _, _, _, _, _, _, B, _⟩ := I.ex
        exact SqT.of (B _ _ ndsh hqs)
      · rintro i y σ H3 hy ⟨zs2, m2, u, fb, v6, v7, v8, rfl, B, D2, pf2, ln2, hfb, hu, hpl, hsm⟩
        have hi : i < path.length := by
          have z := (List.getElem?_eq_some_iff.mp hy).1
          rw [lqs] at z
          exact z
        have hi6 : i < 6 := Nat.lt_of_lt_of_le hi hpath.1
        have epi : path[i]? = some (path[i].1, path[i].2) := List.getElem?_eq_getElem hi
        obtain ⟨b, eb, hb⟩ := paired_get pqs (List.getElem?_eq_getElem hi)
        have ey : y = V.ref b := by
          rw [List.getElem?_map, eb] at hy
          exact (Option.some.inj hy).symm
        subst ey
        obtain ⟨ms1, ms2⟩ := hpath.2 _ (List.getElem_mem hi)
        have hb3 : H3 b = some (.tup [.str (side path[i].1), .int path[i].2.mk, .int path[i].2.sm]) := B _ _ (D.ne hb fun _ z => by cases z) hb
        have s1 : Sm path[i].2.mk := ⟨ms1.mk0, by have := ms1.mkLt; omega⟩
        have s2 : Sm path[i].2.sm := ⟨ms1.sm0, by omega⟩
        have s3 : Sm u.mk := ⟨hu.mk0, by have := hu.mkLt; omega⟩
        have s4 : Sm u.sm := ⟨hu.sm0, by omega⟩
        have next : ∀ (zs3 : List Str) (m3 : Int) (H5 : Hp) (q : Addr) (u' : T), But d H3 H5 → Dg H5 g d zs3 → zs2 <+: zs3 → zs3.length ≤ zs2.length + 1 → H5 q = some (.tup [.int u'.mk, .int u'.sm]) → Ok zs3 u' → Plug (.leaf n x m2) (path.take (i + 1)) u' → u'.sm = path[i].2.sm + u.sm →
            ShI rt sh g d n x zs path H (i + 1) [some (.ref rt), some (.str n), some (.int x), some (.ref sh), some (.ref g), some (.ref q), some (.str (side path[i].1)), some (.int path[i].2.mk), some (.int path[i].2.sm), none] H5 := fun zs3 m3 H5 q u' b3 d3 p3 l3 hq o3 pl3 e3 =>
          ⟨zs3, m2, u', q, _, _, _, rfl, B.trans b3, d3, pf2.trans p3, by omega, hq, o3, pl3, by rw [e3]; omega⟩
        refine ⟨b, _, rfl, SqT.of hb3, rfl, _, _, rfl, _, _, rfl, _, _, rfl, rfl, ?_⟩
        refine ⟨_, rfl, rfl, _, rfl, ?_⟩
        rw [side_eq]
        refine ite2 (fun hl => ?_) (fun hl => ?_)
        · refine ⟨_, rfl, _, rfl, (by show 2 ≤ sizeLine; decide), fun tp htp => ?_⟩
          have ST : Same H3 (upd H3 tp (.tup [.int path[i].2.mk, .int path[i].2.sm])) := fun a o e => (upd_ne (ne_of_none e htp)).trans e
          refine ⟨_, rfl, _, rfl, tp, fb, g, d, _, _, _, _, zs2, rfl, upd_same, ST _ _ hfb, s1, s2, s3, s4, D2.same ST, by omega, fun zs3 m3 H5 q b5 d5 p5 l5 hm5 nq hq => ?_⟩
          have pls := plug_step hpl epi m3
          rw [hl] at pls
          exact next zs3 m3 H5 q (.node path[i].2 u m3) (fun a o na e => b5 a o na (ST a o e)) d5 p5 l5 hq ⟨ms1.mono (pf2.trans p5), hu.mono p5, hm5⟩ pls rfl
        · have hl' : path[i].1 = false := by simpa using hl
          refine ⟨_, rfl, _, rfl, _, rfl, (by show 2 ≤ sizeLine; decide), fun tp htp => ?_⟩
          have ST : Same H3 (upd H3 tp (.tup [.int path[i].2.mk, .int path[i].2.sm])) := fun a o e => (upd_ne (ne_of_none e htp)).trans e
          refine ⟨_, rfl, fb, tp, g, d, _, _, _, _, zs2, rfl, ST _ _ hfb, upd_same, s3, s4, s1, s2, D2.same ST, by omega, fun zs3 m3 H5 q b5 d5 p5 l5 hm5 nq hq => ?_⟩
          have pls := plug_step hpl epi m3
          rw [hl'] at pls
          exact next zs3 m3 H5 q (.node u path[i].2 m3) (fun a o na e => b5 a o na (ST a o e)) d5 p5 l5 hq ⟨hu.mono p5, ms1.mono (pf2.trans p5), hm5⟩ pls (Int.add_comm _ _)
      · rintro σ H3 ⟨zs2, m2, u, fb, v6, v7, v8, rfl, B, D2, pf2, ln2, hfb, hu, hpl, hsm⟩
        rw [lqs] at hpl ln2
        rw [List.take_length] at hpl
        have hrt3 : H3 rt = some (.tup [.int t0.mk, .int t0.sm]) := B _ _ (D.ne hrt fun _ z => by cases z) hrt
        refine ⟨_, rfl, _, rfl, .tuple [.int u.mk, .int u.sm], .tuple [.int t0.mk, .int t0.sm], .tup (SqT.of hfb) (.cons (.int _) (.cons (.int _) .nil)), .tup (SqT.of hrt3) (.cons (.int _) (.cons (.int _) .nil)), rfl, rfl, ?_⟩
        refine k zs2 m2 u _ H3 B D2 pf2 (by have := hpath.1; omega) hpl hu ?_
        rw [eqv_pair]
        exact ⟨fun z => hu.inj (hok0.mono pf2) z.1, fun z => by rw [z]; exact ⟨rfl, rfl⟩⟩
end
end K78
/-! K78L: what draws are taken from. -/
namespace K78
open PySem PySem.Spec PyProof.Rows L2 TL LamX NdefX
/-! ### the state of the draws -/
def stK (a : Addr) (b c d e : Int) : List (L2.Key × V) := [(Sum.inr "cells", V.ref a), (Sum.inr "at", V.int b), (Sum.inr "rest", V.int c), (Sum.inr "turn", V.int d), (Sum.inr "more", V.int e)]
section
variable (a : Addr) (b c d e x : Int)
theorem st_cells : valV (stK a b c d e) (Sum.inr "cells") = some (V.ref a) := by kernel_rfl
theorem st_at : valV (stK a b c d e) (Sum.inr "at") = some (V.int b) := by kernel_rfl
theorem st_rest : valV (stK a b c d e) (Sum.inr "rest") = some (V.int c) := by kernel_rfl
theorem st_turn : valV (stK a b c d e) (Sum.inr "turn") = some (V.int d) := by kernel_rfl
theorem st_more : valV (stK a b c d e) (Sum.inr "more") = some (V.int e) := by kernel_rfl
theorem put_at : putK (stK a b c d e) (Sum.inr "at") (V.int x) = stK a x c d e := by kernel_rfl
theorem put_rest : putK (stK a b c d e) (Sum.inr "rest") (V.int x) = stK a b x d e := by kernel_rfl
theorem put_turn : putK (stK a b c d e) (Sum.inr "turn") (V.int x) = stK a b c x e := by kernel_rfl
theorem put_more : putK (stK a b c d e) (Sum.inr "more") (V.int x) = stK a b c d x := by kernel_rfl
end
theorem sqlBut {K : PySem.W.Frag} {H H' : Hp} {d s : Addr} {xs : List V} {kvs : List (L2.Key × V)} (h : SqL K H s xs) (e : H d = some (.dK kvs)) (b : But d H H') : SqL K H' s xs := by
  rcases h with (h | ⟨o, h⟩) | h
  · exact .inl (.inl (b _ _ (ne_of h e (by intro z; cases z)) h))
  · exact .inl (.inr ⟨o, b _ _ (ne_of h e (by intro z; cases z)) h⟩)
  · exact .inr h
section
variable {H : Hp} {st a : Addr} {b c d e : Int} (h : H st = some (.dK (stK a b c d e)))
include h
theorem dg_cells : DGet H st (.str "cells") (some (.ref a)) := by
  rw [← st_cells a b c d e]
  exact DGet.k (k := Sum.inr "cells") h
theorem dg_at : DGet H st (.str "at") (some (.int b)) := by
  rw [← st_at a b c d e]
  exact DGet.k (k := Sum.inr "at") h
theorem dg_rest : DGet H st (.str "rest") (some (.int c)) := by
  rw [← st_rest a b c d e]
  exact DGet.k (k := Sum.inr "rest") h
theorem dg_turn : DGet H st (.str "turn") (some (.int d)) := by
  rw [← st_turn a b c d e]
  exact DGet.k (k := Sum.inr "turn") h
theorem dg_more : DGet H st (.str "more") (some (.int e)) := by
  rw [← st_more a b c d e]
  exact DGet.k (k := Sum.inr "more") h
theorem dp_at (x : Int) : DPut H st (.str "at") (.int x) (upd H st (.dK (stK a x c d e))) := by
  rw [← put_at a b c d e x]
  exact DPut.k (k := Sum.inr "at") h (by show 5 < sizeLine; decide)
theorem dp_rest (x : Int) : DPut H st (.str "rest") (.int x) (upd H st (.dK (stK a b x d e))) := by
  rw [← put_rest a b c d e x]
  exact DPut.k (k := Sum.inr "rest") h (by show 5 < sizeLine; decide)
theorem dp_turn (x : Int) : DPut H st (.str "turn") (.int x) (upd H st (.dK (stK a b c x e))) := by
  rw [← put_turn a b c d e x]
  exact DPut.k (k := Sum.inr "turn") h (by show 5 < sizeLine; decide)
theorem dp_more (x : Int) : DPut H st (.str "more") (.int x) (upd H st (.dK (stK a b c d x))) := by
  rw [← put_more a b c d e x]
  exact DPut.k (k := Sum.inr "more") h (by show 5 < sizeLine; decide)
end
/-- at st stands a state over the script ns, which lies at scr -/
structure StAt (K : PySem.W.Frag) (H : Hp) (st scr : Addr) (ns : List Int) : Prop where
  ex : ∃ (b c d e : Int), H st = some (.dK (stK scr b c d e)) ∧ 0 ≤ b ∧ 0 ≤ c ∧ 0 ≤ e ∧ e < 2147483647
  sq : SqL K H scr (ns.map V.int)
  len : ns.length ≤ 63
section
variable {K : PySem.W.Frag} {H H' : Hp} {st scr d L : Addr} {ns : List Int}
theorem StAt.dic (s : StAt K H st scr ns) : ∃ kvs, H st = some (.dK kvs) := by
  obtain ⟨b, c, d, e, h, _⟩ := s.ex
  exact ⟨_, h⟩
/-- what else is changed leaves it -/
theorem StAt.but {kvs : List (L2.Key × V)} (s : StAt K H st scr ns) (e : H d = some (.dK kvs)) (n : st ≠ d) (b : But d H H') : StAt K H' st scr ns := by
  obtain ⟨b1, c1, d1, e1, h, r⟩ := s.ex
  exact ⟨⟨b1, c1, d1, e1, b _ _ n h, r⟩, sqlBut s.sq e b, s.len⟩
theorem StAt.same (s : StAt K H st scr ns) (b : Same H H') : StAt K H' st scr ns := by
  obtain ⟨b1, c1, d1, e1, h, r⟩ := s.ex
  exact ⟨⟨b1, c1, d1, e1, b _ _ h, r⟩, b.seq s.sq, s.len⟩
/-- the script lies elsewhere than L -/
def Apart (K : PySem.W.Frag) (scr : Addr) (ns : List Int) (L : Addr) : Prop := scr ≠ L ∨ ∀ H : Hp, SqL K H scr (ns.map V.int)
theorem StAt.apart (s : StAt K H st scr ns) (n : H L = none) : Apart K scr ns L := by
  rcases s.sq with (h | ⟨o, h⟩) | h
  · exact .inl (ne_of_none h n)
  · exact .inl (ne_of_none h n)
  · exact .inr fun _ => .inr h
theorem StAt.set {o : HO} {xs : List V} (s : StAt K H st scr ns) (hL : H L = some (.lst xs)) (a : Apart K scr ns L) : StAt K (upd H L o) st scr ns := by
  obtain ⟨b1, c1, d1, e1, h, r⟩ := s.ex
  refine ⟨⟨b1, c1, d1, e1, (upd_ne (ne_of h hL (by intro z; cases z))).trans h, r⟩, ?_, s.len⟩
  rcases a with a | a
  · rcases s.sq with (h | ⟨o, h⟩) | h
    · exact .inl (.inl ((upd_ne a).trans h))
    · exact .inl (.inr ⟨o, (upd_ne a).trans h⟩)
    · exact .inr h
  · exact a _
end
/-! ### _law_begun -/
def spBegun (K : PySem.W.Frag) : Sp := fun vs H Q _ => ∃ (a : Addr) (ns : List Int), vs = [.ref a] ∧ SqL K H a (ns.map V.int) ∧ ns.length ≤ 63 ∧ ∀ (H' : Hp) (st : Addr), Same H H' → H st = none → StAt K H' st a ns → Q (.ref st) H'
section
variable {P : Program} {w : World} {K : PySem.W.Frag} {mg : Str → Option Value} {base : Heap}
theorem scBegun : FnScope ["_law_script"] ["_law_script"] (defScope sBegun) := ⟨rfl, rfl, rfl, by decide +kernel, rfl, by decide +kernel, by decide +kernel⟩
theorem ok_begun {f : Addr} {fd : FuncData} (F : FnP K "_law_begun" "_law_begun" sBegun f fd) : FnOk P w K mg base CX0 1 f fd ["_law_script"] (spBegun K) := by
  refine F.ok scBegun (fun vs H Q E h => ?_) (fun cdv A outer s H vs Q E hr h => ?_)
  · obtain ⟨a, ns, rfl, _⟩ := h
    rfl
  · obtain ⟨a, ns, rfl, hs, hl, k⟩ := h
    refine ⟨_, pss_one (ps_ret (pe_disp (pps_cons pe_str (pv 0) (pps_cons pe_str pe_int (pps_cons pe_str pe_int (pps_cons pe_str pe_int (pps_cons pe_str pe_int pps_nil))))) (by rfl) (by rfl) (fun z => by cases z) (by decide))), ?_⟩
    intro p hp
    refine ⟨_, rfl, upd_same, stK a 0 0 0 17, rfl, (by show 5 ≤ 15; decide), ?_⟩
    have e : mergeK [] (stK a 0 0 0 17) = stK a 0 0 0 17 := by kernel_rfl
    rw [e, upd_upd]
    have S : Same H (upd H p (.dK (stK a 0 0 0 17))) := fun b o z => (upd_ne (ne_of_none z hp)).trans z
    exact k _ p S hp ⟨⟨0, 0, 0, 17, upd_same, by decide, by decide, by decide, by decide⟩, S.seq hs, hl⟩
/-! ### _law_take -/
theorem tAnd_by {t u : TT} {σ : L2.St} {H : Hp} {Q : Bool → Hp → Prop} {a b : Bool} (ha : ∀ Q' : Bool → Hp → Prop, Q' a H → t σ H Q') (hb : a = true → ∀ Q' : Bool → Hp → Prop, Q' b H → u σ H Q') (q : Q (a && b) H) : tAnd t u σ H Q := by
  refine ha _ ?_
  cases a with
  | true => exact hb rfl _ q
  | false => exact q
def spTake (K : PySem.W.Frag) : Sp := fun vs H Q _ => ∃ (st scr : Addr) (ns : List Int) (many : Int), vs = [.ref st, .int many] ∧ StAt K H st scr ns ∧ 1 ≤ many ∧ many < 2 ^ 62 ∧ ∀ (r : Int) (H' : Hp), But st H H' → StAt K H' st scr ns → 0 ≤ r → r < many → Q (.int r) H'
theorem scTake : FnScope ["_law_state", "_law_many", "_law_cells", "_law_found", "_law_cell"] ["_law_state", "_law_many"] (defScope sTake) := ⟨rfl, rfl, rfl, by decide +kernel, rfl, by decide +kernel, by decide +kernel⟩
theorem ok_take {f : Addr} {fd : FuncData} (F : FnP K "_law_take" "_law_take" sTake f fd) (tx : TX K mg) : FnOk P w K mg base CX0 1 f fd ["_law_state", "_law_many"] (spTake K) := by
  refine okN F scTake (fun vs H Q E h => ?_) (fun cdv A outer s H vs Q E hr h => ?_)
  · obtain ⟨st, scr, ns, many, rfl, _⟩ := h
    rfl
  · obtain ⟨st, scr, ns, many, rfl, hst, hm1, hm2, k⟩ := h
    have hu := hu_of hr
    refine ⟨_, pss_cons (ps_set (i := 2) scTake.nd rfl (Or.inl rfl) (pe_dget hu (pv 0) pe_str (fun _ _ => rfl)))
      (pss_cons (ps_while PassesOwn.never (PW.pt (pw_and (pt_cmpR op_lt (pe_dget hu (pv 0) pe_str (fun _ _ => rfl)) pe_int (nomark _)) (pw_and1 (pt_cmpR op_lt (pe_dget hu (pv 0) pe_str (fun _ _ => rfl)) (pe_callB call_len_seq (by rfl) tx.len PySem.boot_len (pa_cons (pv 2) pa_nil)) (nomark _)))))
        (pss_cons (ps_if (pt_cmpR op_ge (pe_ix ix_list (pv 2) (pe_dget hu (pv 0) pe_str (fun _ _ => rfl)) (fun _ _ => rfl)) (pe_op op_pow pe_int pe_int) (nomark _))
          (pss_one (ps_dput hu (pv 0) pe_str (pe_ix ix_list (pv 2) (pe_dget hu (pv 0) pe_str (fun _ _ => rfl)) (fun _ _ => rfl)) rfl)) pss_nil)
        (pss_one (ps_dput hu (pv 0) pe_str (pe_op op_add (pe_dget hu (pv 0) pe_str (fun _ _ => rfl)) pe_int) rfl))))
      (pss_cons (ps_if (pt_cmpR op_gt (pe_dget hu (pv 0) pe_str (fun _ _ => rfl)) pe_int (nomark _))
        (pss_cons (ps_set (i := 3) scTake.nd rfl (Or.inl rfl) (pe_op op_mod (pe_dget hu (pv 0) pe_str (fun _ _ => rfl)) (pv 1)))
        (pss_cons (ps_dput hu (pv 0) pe_str (pe_op op_fdivW (pe_dget hu (pv 0) pe_str (fun _ _ => rfl)) (pv 1)) rfl)
        (pss_one (ps_ret (pv 3))))) pss_nil)
      (pss_cons (ps_set (i := 4) scTake.nd rfl (Or.inl rfl) pe_int)
      (pss_cons (ps_if (pt_cmpR op_gt (pe_callB call_len_seq (by rfl) tx.len PySem.boot_len (pa_cons (pv 2) pa_nil)) pe_int (nomark _))
        (pss_one (ps_set (i := 4) scTake.nd rfl (Or.inl rfl) (pe_ix ix_list (pv 2) (pe_op op_mod (pe_dget hu (pv 0) pe_str (fun _ _ => rfl)) (pe_callB call_len_seq (by rfl) tx.len PySem.boot_len (pa_cons (pv 2) pa_nil))) (fun _ _ => rfl)))) pss_nil)
      (pss_cons (ps_dput hu (pv 0) pe_str (pe_op op_add (pe_dget hu (pv 0) pe_str (fun _ _ => rfl)) pe_int) rfl)
      (pss_cons (ps_dput hu (pv 0) pe_str (pe_op op_mod (pe_op op_add (pe_op op_add (pe_op op_mul (pe_dget hu (pv 0) pe_str (fun _ _ => rfl)) pe_int) (pv 4)) (pe_dget hu (pv 0) pe_str (fun _ _ => rfl))) pe_int) rfl)
      (pss_one (ps_ret (pe_op op_mod (pe_op op_mod (pe_op op_add (pe_op op_mul (pe_dget hu (pv 0) pe_str (fun _ _ => rfl)) (pe_dget hu (pv 0) pe_str (fun _ _ => rfl))) (pe_op op_mul pe_int (pe_dget hu (pv 0) pe_str (fun _ _ => rfl)))) pe_int) (pv 1)))))))))), ?_⟩
    obtain ⟨⟨b0, c0, d0, e0, h0, hb0, hc0, he0, he1⟩, hs, hlen⟩ := hst
    have sq : ∀ b c d e, SqL K (upd H st (.dK (stK scr b c d e))) scr (ns.map V.int) := fun b c d e => sqlBut hs h0 But.upd
    have lm : (ns.map V.int).length = ns.length := by rw [List.length_map]
    refine ⟨_, rfl, st, _, rfl, dg_cells h0, ?_⟩
    refine ⟨fun m σ H1 => ∃ b c, σ = [some (.ref st), some (.int many), some (.ref scr), none, none] ∧ H1 = upd H st (.dK (stK scr b c d0 e0)) ∧ 0 ≤ b ∧ 0 ≤ c ∧ m = ns.length - b.toNat, ⟨_, b0, c0, rfl, (upd_id h0).symm, hb0, hc0, rfl⟩, ?_⟩
    rintro m σ H1 ⟨b, c, rfl, rfl, hb, hc, rfl⟩
    refine tAnd_by (a := decide (c < 2)) (b := decide (b < (ns.length : Int))) (fun Q' q => ⟨_, rfl, st, _, rfl, dg_rest upd_same, _, _, rfl, rfl, _, rfl, q⟩)
      (fun _ Q' q => ⟨_, rfl, st, _, rfl, dg_at upd_same, _, rfl, scr, _, rfl, .inl (sq _ _ _ _), _, _, rfl, rfl, _, rfl, by rw [lm]; exact q⟩) ?_
    refine ite2 (fun hh => ?_) (fun hh => ?_)
    · -- one number more is looked at
      have h2 : b < (ns.length : Int) := by
        rw [Bool.and_eq_true] at hh
        exact of_decide_eq_true hh.2
      obtain ⟨z, ez⟩ : ∃ z, ns[b.toNat]? = some z := ⟨_, List.getElem?_eq_getElem (by omega)⟩
      have ez2 : (ns.map V.int)[b.toNat]? = some (V.int z) := by rw [List.getElem?_map, ez] <;> rfl
      have eb : b = ((b.toNat : Nat) : Int) := by omega
      refine ⟨fun σ' H' => ∃ m', m' < ns.length - b.toNat ∧ ∃ b c, σ' = [some (.ref st), some (.int many), some (.ref scr), none, none] ∧ H' = upd H st (.dK (stK scr b c d0 e0)) ∧ 0 ≤ b ∧ 0 ≤ c ∧ m' = ns.length - b.toNat, fun σ' H' y => y, ?_⟩
      refine ⟨_, rfl, _, rfl, st, _, rfl, dg_at upd_same, scr, _, _, _, rfl, rfl, sq _ _ _ _, at_of eb ez2, ?_⟩
      refine ⟨_, _, rfl, rfl, ⟨by decide, by decide, by decide⟩, _, _, rfl, rfl, _, rfl, ?_⟩
      have fin : ∀ c', 0 ≤ c' → ∃ m', m' < ns.length - b.toNat ∧ ∃ b' c, ([some (.ref st), some (.int many), some (.ref scr), none, none] : L2.St) = [some (.ref st), some (.int many), some (.ref scr), none, none] ∧ upd H st (.dK (stK scr (b + 1) c' d0 e0)) = upd H st (.dK (stK scr b' c d0 e0)) ∧ 0 ≤ b' ∧ 0 ≤ c ∧ m' = ns.length - b'.toNat :=
        fun c' hc' => ⟨_, by omega, b + 1, c', rfl, rfl, by omega, hc', rfl⟩
      refine ite2 (fun hz => ?_) (fun hz => ?_)
      · have hz2 : (0 : Int) ≤ z := Int.le_trans (by decide) (of_decide_eq_true hz)
        refine ⟨_, rfl, _, rfl, st, _, rfl, dg_at upd_same, scr, _, _, _, rfl, rfl, sq _ _ _ _, at_of eb ez2, _, rfl, st, _, rfl, dp_rest upd_same z, ?_⟩
        rw [upd_upd]
        refine ⟨_, rfl, st, _, rfl, dg_at upd_same, _, _, rfl, rfl, _, rfl, st, _, rfl, dp_at upd_same _, ?_⟩
        rw [upd_upd]
        exact fin z hz2
      · refine ⟨_, rfl, st, _, rfl, dg_at upd_same, _, _, rfl, rfl, _, rfl, st, _, rfl, dp_at upd_same _, ?_⟩
        rw [upd_upd]
        exact fin c hc
    · -- behind the loop
      refine ⟨_, rfl, st, _, rfl, dg_rest upd_same, _, _, rfl, rfl, _, rfl, ite2 (fun h1 => ?_) (fun h1 => ?_)⟩
      · refine ⟨_, rfl, st, _, rfl, dg_rest upd_same, _, rfl, _, _, rfl, rfl, (by show 0 < many; omega), ?_⟩
        refine ⟨_, rfl, st, _, rfl, dg_rest upd_same, _, rfl, _, _, rfl, rfl, wide_div (b := 62) (by omega) (by omega) (by decide) (by decide), _, rfl, st, _, rfl, dp_rest upd_same _, ?_⟩
        rw [upd_upd]
        refine ⟨_, rfl, ?_⟩
        exact k _ _ But.upd ⟨⟨b, c / many, d0, e0, upd_same, hb, Int.ediv_nonneg hc (by omega), he0, he1⟩, sq _ _ _ _, hlen⟩ (Int.emod_nonneg _ (by omega)) (Int.emod_lt_of_pos _ (by omega))
      · refine ⟨_, rfl, scr, _, rfl, .inl (sq _ _ _ _), _, _, rfl, rfl, _, rfl, ?_⟩
        rw [lm]
        have hne : ∀ hn : 0 < (ns.length : Int), ∃ z, (ns.map V.int)[(d0 % (ns.length : Int)).toNat]? = some (V.int z) ∧ d0 % (ns.length : Int) = (((d0 % (ns.length : Int)).toNat : Nat) : Int) := fun hn => by
          have h3 := Int.emod_nonneg d0 (show (ns.length : Int) ≠ 0 by omega)
          have h4 := Int.emod_lt_of_pos d0 hn
          exact ⟨ns[(d0 % (ns.length : Int)).toNat], by rw [List.getElem?_map, List.getElem?_eq_getElem (by omega)] <;> rfl, by omega⟩
        refine ite2 (fun h2 => ?_) (fun h2 => ?_)
        all_goals
          try (
            have hn : 0 < (ns.length : Int) := of_decide_eq_true h2
            obtain ⟨z, z1, z2⟩ := hne hn
            refine ⟨_, rfl, _, rfl, st, _, rfl, dg_turn upd_same, _, rfl, scr, _, rfl, .inl (sq _ _ _ _), _, _, rfl, rfl, (by show 0 < ((ns.map V.int).length : Int); rw [lm]; exact hn), ?_⟩
            rw [lm]
            refine ⟨scr, _, _, _, rfl, rfl, sq _ _ _ _, at_of z2 z1, ?_⟩)
          refine ⟨_, rfl, st, _, rfl, dg_turn upd_same, _, _, rfl, rfl, _, rfl, st, _, rfl, dp_turn upd_same _, ?_⟩
          rw [upd_upd]
          refine ⟨_, rfl, st, _, rfl, dg_more upd_same, _, _, rfl, rfl, .inl ⟨by omega, by omega⟩, _, rfl, _, _, rfl, rfl, _, rfl, st, _, rfl, dg_turn upd_same, _, _, rfl, rfl, _, _, rfl, rfl, (by show (0 : Int) < 2147483647; decide), _, rfl, st, _, rfl, dp_more upd_same _, ?_⟩
          rw [upd_upd]
          have m1 := fun y : Int => Int.emod_nonneg y (show (2147483647 : Int) ≠ 0 by decide)
          have m2 := fun y : Int => Int.emod_lt_of_pos y (show (0 : Int) < 2147483647 by decide)
          refine ⟨_, rfl, st, _, rfl, dg_more upd_same, _, rfl, st, _, rfl, dg_more upd_same, _, _, rfl, rfl, .inl ⟨Int.lt_of_lt_of_le (by decide) (m1 _), Int.lt_trans (m2 _) (by decide)⟩, _, rfl, st, _, rfl, dg_more upd_same, _, _, rfl, rfl, .inl ⟨by decide, by decide⟩, _, _, rfl, rfl, _, _, rfl, rfl, (by show (0 : Int) < 2147483629; decide), _, rfl, _, _, rfl, rfl, (by show 0 < many; omega), ?_⟩
          exact k _ _ But.upd ⟨⟨b, c, _, _, upd_same, hb, hc, m1 _, m2 _⟩, sq _ _ _ _, hlen⟩ (Int.emod_nonneg _ (by omega)) (Int.emod_lt_of_pos _ (by omega))
end
end K78
/-! K78M: names that are drawn. -/
namespace K78
open PySem PySem.Spec PyProof.Rows L2 TL LamX NdefX
/-! ### texts of letters -/
def lets : Str := Str.ofString "abcdefghijklmnopqrstuvwxyz"
theorem lets_mem {c : Nat} (h : c ∈ tl lets) : 97 ≤ c ∧ c ≤ 122 := by
  have h' : c ∈ (List.range 26).map (· + 97) := by
    rw [← letters_tl]
    exact h
  obtain ⟨k, hk, e⟩ := List.mem_map.mp h'
  have := List.mem_range.mp hk
  have e' : k + 97 = c := e
  omega
theorem lets_len : lets.length = 26 := by decide +kernel
theorem lets_nodup : (tl lets).Nodup := by decide +kernel
theorem len_of_tl (z : Str) : z.length = (tl z).length := len_tl z
theorem nm_of {z : Str} {l : List Nat} (e : tl z = l) (h1 : 1 ≤ l.length) (h8 : l.length ≤ 8) (h : ∀ c ∈ l, 97 ≤ c ∧ c ≤ 122) : Nm z := by
  refine ⟨?_, ?_, ?_⟩
  · rw [len_of_tl, e]; exact h1
  · rw [len_of_tl, e]; exact h8
  · rw [e]; exact h
def sgn (c : Nat) : Str := ⟨#[c]⟩
theorem tl_sgn (c : Nat) : tl (sgn c) = [c] := rfl
theorem tl_joined (cs : List Nat) : tl (Txt.join Str.empty (cs.map sgn)) = cs := by
  rw [join_eq, tl_join]
  have e0 : tl Str.empty = [] := rfl
  rw [e0, List.map_map]
  induction cs with
  | nil => rfl
  | cons c r ih =>
    cases r with
    | nil => rfl
    | cons d r =>
      show [c] ++ ([] ++ joinL [] (List.map (tl ∘ sgn) (d :: r))) = c :: d :: r
      rw [ih] <;> rfl
/-- the other names that a word gives -/
def cut7 (z : Str) (c : Nat) : Str := cutS z none (some 7) ++ sgn c
theorem tl_cut7 {z : Str} (h : Nm z) (c : Nat) : tl (cut7 z c) = (tl z).take 7 ++ [c] := by
  unfold cut7
  rw [tl_append, tl_sgn]
  unfold cutS
  rw [HT.sIx_none, tl_mk]
  have e : HT.sIx z.length z.length (some 7) = min 7 z.length := HT.sIx_nat _ _ 7
  rw [e, List.drop_zero, Nat.sub_zero]
  have e2 : List.take (min 7 z.length) z.cps.toList = (tl z).take 7 := by
    rw [len_of_tl]
    by_cases h7 : 7 ≤ (tl z).length
    · rw [Nat.min_eq_left h7]
    · rw [Nat.min_eq_right (by omega), List.take_length, List.take_of_length_le (by omega)]
  rw [e2]
theorem cut7_nm {z : Str} (h : Nm z) {c : Nat} (hc : c ∈ tl lets) : Nm (cut7 z c) := by
  have l8 : (tl z).length ≤ 8 := by rw [← len_of_tl]; exact h.2.1
  refine nm_of (tl_cut7 h c) (by simp) (by rw [List.length_append, List.length_take, List.length_singleton]; omega) fun d hd => ?_
  rcases List.mem_append.mp hd with e | e
  · exact h.2.2 d (List.mem_of_mem_take e)
  · rw [List.mem_singleton.mp e]
    exact lets_mem hc
theorem cut7_inj {z : Str} (h : Nm z) {c d : Nat} (e : cut7 z c = cut7 z d) : c = d := by
  have q := congrArg tl e
  rw [tl_cut7 h, tl_cut7 h] at q
  have q2 := List.append_cancel_left q
  exact (List.cons.inj q2).1
theorem nodup_sub : ∀ {l m : List Str}, l.Nodup → (∀ a ∈ l, a ∈ m) → l.length ≤ m.length
  | [], _, _, _ => Nat.zero_le _
  | a :: r, m, nd, h => by
    obtain ⟨h1, h2⟩ := List.nodup_cons.mp nd
    have ha := h a List.mem_cons_self
    have q := nodup_sub (m := m.erase a) h2 fun b hb => (List.mem_erase_of_ne (fun z => h1 (by rw [← z]; exact hb))).mpr (h b (List.mem_cons_of_mem _ hb))
    have e := List.length_erase_of_mem ha
    have pos : 0 < m.length := List.length_pos_of_mem ha
    rw [List.length_cons]
    omega
/-- what may be the next name -/
def cands (z : Str) : List Str := z :: (tl lets).map (cut7 z)
theorem cands_nm {z : Str} (h : Nm z) : ∀ a ∈ cands z, Nm a := fun a ha => by
  rcases List.mem_cons.mp ha with e | e
  · rw [e]
    exact h
  · obtain ⟨c, hc, e2⟩ := List.mem_map.mp e
    rw [← e2]
    exact cut7_nm h hc
theorem cands_some {z : Str} (h : Nm z) {fnd : List Str} (hl : fnd.length ≤ 25) : ∃ y r, (cands z).filter (fun y => !decide (y ∈ fnd)) = y :: r ∧ Nm y ∧ y ∉ fnd := by
  cases e : (cands z).filter (fun y => !decide (y ∈ fnd)) with
  | nil =>
    exfalso
    have hall : ∀ a ∈ (tl lets).map (cut7 z), a ∈ fnd := fun a ha => by
      have q := List.filter_eq_nil_iff.mp e a (List.mem_cons_of_mem _ ha)
      by_cases hm : a ∈ fnd
      · exact hm
      · exact absurd (by simp [hm]) q
    have nd : ((tl lets).map (cut7 z)).Nodup := by
      have q := lets_nodup
      rw [List.Nodup, List.pairwise_map]
      exact q.imp fun {a b} hne e2 => hne (cut7_inj h e2)
    have q := nodup_sub nd hall
    rw [List.length_map, ← len_of_tl, lets_len] at q
    omega
  | cons y r =>
    have hy : y ∈ (cands z).filter (fun y => !decide (y ∈ fnd)) := by rw [e]; exact List.mem_cons_self
    obtain ⟨h1, h2⟩ := List.mem_filter.mp hy
    refine ⟨y, r, rfl, cands_nm h y h1, ?_⟩
    intro hm
    simp [hm] at h2
theorem inV_iff (n : Str) : ∀ ys : List Str, inV (.str n) (ys.map V.str) = decide (n ∈ ys)
  | [] => by simp [inV]
  | y :: r => by
    show (eqV (.str y) (.str n) || inV (.str n) (r.map V.str)) = _
    rw [inV_iff n r]
    show ((y == n) || decide (n ∈ r)) = _
    by_cases e : y = n
    · subst e
      simp
    · have e' : ¬ n = y := fun z => e z.symm
      simp [e, e']
/-! ### _law_pick -/
def spPick (K : PySem.W.Frag) : Sp := fun vs H Q _ => ∃ (st scr : Addr) (ns : List Int), StAt K H st scr ns ∧
  ((∃ (l : Addr) (xs : List Str), vs = [.ref st, .ref l] ∧ SqL K H l (xs.map V.str) ∧ 1 ≤ xs.length ∧ xs.length ≤ 1000 ∧ ∀ (y : Str) (H' : Hp), y ∈ xs → But st H H' → StAt K H' st scr ns → Q (.str y) H') ∨
   (vs = [.ref st, .str lets] ∧ ∀ (c : Nat) (H' : Hp), c ∈ tl lets → But st H H' → StAt K H' st scr ns → Q (.str (sgn c)) H'))
section
variable {P : Program} {w : World} {K : PySem.W.Frag} {mg : Str → Option Value} {base : Heap}
theorem scPick : FnScope ["_law_state", "_law_some"] ["_law_state", "_law_some"] (defScope sPick) := ⟨rfl, rfl, rfl, by decide +kernel, rfl, by decide +kernel, by decide +kernel⟩
theorem ok_pick {f f1 : Addr} {fd fd1 : FuncData} (F : FnP K "_law_pick" "_law_pick" sPick f fd) (tx : TX K mg) (G1 : Has P w K mg base 1 "_law_take" ["_law_state", "_law_many"] (spTake K) f1 fd1) : FnOk P w K mg base CX0 2 f fd ["_law_state", "_law_some"] (spPick K) := by
  refine F.ok scPick (fun vs H Q E h => ?_) (fun cdv A outer s H vs Q E hr h => ?_)
  · obtain ⟨st, scr, ns, _, ⟨l, xs, rfl, _⟩ | ⟨rfl, _⟩⟩ := h <;> rfl
  · obtain ⟨st, scr, ns, hst, h⟩ := h
    refine ⟨_, pss_one (ps_ret (pe_ix ix_seq (pv 1) (pe_call G1.ok hr (by rfl) G1.gm G1.kp G1.bd .nil pass0 (pa_cons (pv 0) (pa_cons (pe_callB call_len (by rfl) tx.len PySem.boot_len (pa_cons (pv 1) pa_nil)) pa_nil))) (fun _ _ => rfl))), ?_⟩
    obtain ⟨kvs, hk⟩ := hst.dic
    rcases h with ⟨l, xs, rfl, hl, h1, h2, k⟩ | ⟨rfl, k⟩
    · have lm : (xs.map V.str).length = xs.length := by rw [List.length_map]
      refine ⟨_, rfl, _, rfl, _, rfl, _, xs.length, rfl, .inl ⟨_, hl, lm.symm⟩, st, scr, ns, _, rfl, hst, by omega, by omega, fun r H' b s' r0 r1 => ?_⟩
      have e : xs[r.toNat]? = some xs[r.toNat] := List.getElem?_eq_getElem (by omega)
      refine .inl ⟨l, _, _, _, rfl, rfl, sqlBut hl hk b, at_of (j := r.toNat) (v := V.str xs[r.toNat]) (by omega) (by rw [List.getElem?_map, e] <;> rfl), ?_⟩
      exact k _ H' (List.getElem_mem _) b s'
    · have l26 := lets_len
      refine ⟨_, rfl, _, rfl, _, rfl, _, lets.length, rfl, ⟨by rw [l26]; decide, rfl⟩, st, scr, ns, ((lets.length : Nat) : Int), rfl, hst, by omega, by omega, fun r H' b s' r0 r1 => ?_⟩
      have hr2 : r.toNat < (tl lets).length := by rw [← len_of_tl]; omega
      have e : (tl lets)[r.toNat]? = some (tl lets)[r.toNat] := List.getElem?_eq_getElem hr2
      refine .inr (.inr ⟨lets, r, (tl lets)[r.toNat], rfl, rfl, by rw [l26]; decide, by have q := atI_nat e; rw [Int.toNat_of_nonneg r0] at q; exact q, ?_⟩)
      exact k _ H' (List.getElem_mem _) b s'
end
end K78
/-! K78N: names that are drawn, further. -/
namespace K78
open PySem PySem.Spec PyProof.Rows L2 TL LamX NdefX
theorem tl_joined2 {a : Str} (e0 : tl a = []) (cs : List Nat) : tl (Txt.join a (cs.map sgn)) = cs := by
  have e1 : a = Str.empty := tl_inj e0
  rw [e1]
  exact tl_joined cs
def own : List Str := ["order", "split", "short", "less", "like", "best", "great", "pay", "give", "claim", "leaf", "node", "none"]
def nmB (z : Str) : Bool := decide (1 ≤ z.length) && (decide (z.length ≤ 8) && (tl z).all fun c => decide (97 ≤ c) && decide (c ≤ 122))
theorem nm_by {z : Str} (h : nmB z = true) : Nm z := by
  unfold nmB at h
  simp only [Bool.and_eq_true, decide_eq_true_eq, List.all_eq_true] at h
  exact ⟨h.1, h.2.1, h.2.2⟩
theorem own_nm : ∀ y ∈ own, Nm y := fun y hy => nm_by (List.all_eq_true.mp (show own.all nmB = true by decide +kernel) y hy)
def spNames (K : PySem.W.Frag) : Sp := fun vs H Q _ => ∃ (st scr : Addr) (ns : List Int) (many : Nat), vs = [.ref st, .int (many : Int)] ∧ StAt K H st scr ns ∧ many ≤ 20 ∧
  ∀ (xs : List Str) (H' : Hp) (l : Addr), But st H H' → StAt K H' st scr ns → H l = none → H' l = some (.lst (xs.map V.str)) → xs.Nodup → (∀ y ∈ xs, Nm y) → xs.length = many → Q (.ref l) H'
/-- between two turns -/
structure NI (K : PySem.W.Frag) (st scr : Addr) (ns : List Int) (many : Nat) (O L : Addr) (H : Hp) (k : Nat) (σ : L2.St) (H1 : Hp) : Prop where
  ex : ∃ (fnd : List Str) (v5 v6 v7 : Option V), σ = [some (.ref st), some (.int (many : Int)), some (.ref O), some (.str lets), some (.ref L), v5, v6, v7, none, none] ∧ But st H H1 ∧ StAt K H1 st scr ns ∧ H1 O = some (.lst (own.map V.str)) ∧ H1 L = some (.lst (fnd.map V.str)) ∧
    fnd.Nodup ∧ (∀ y ∈ fnd, Nm y) ∧ fnd.length = k
section
variable {P : Program} {w : World} {K : PySem.W.Frag} {mg : Str → Option Value} {base : Heap}
abbrev nN : List Str := ["_law_state", "_law_many", "_law_own", "_law_letters", "_law_found", "_law_k", "_law_word", "_law_some", "_law_sign", "_law_one"]
theorem scNames : FnScope nN ["_law_state", "_law_many"] (defScope sNames) := ⟨rfl, rfl, rfl, by decide +kernel, rfl, by decide +kernel, by decide +kernel⟩
theorem ok_names {f f1 f2 : Addr} {fd fd1 fd2 : FuncData} (F : FnP K "_law_names" "_law_names" sNames f fd) (tx : TX K mg) (G1 : Has P w K mg base 1 "_law_take" ["_law_state", "_law_many"] (spTake K) f1 fd1)
    (G2 : Has P w K mg base 2 "_law_pick" ["_law_state", "_law_some"] (spPick K) f2 fd2) : FnOk P w K mg base CX0 3 f fd ["_law_state", "_law_many"] (spNames K) := by
  refine okN F scNames (fun vs H Q E h => ?_) (fun cdv A outer s H vs Q E hr h => ?_)
  · obtain ⟨st, scr, ns, many, rfl, _⟩ := h
    rfl
  · obtain ⟨st, scr, ns, many, rfl, hst, hm, k⟩ := h
    refine ⟨_, pss_cons (ps_set (i := 2) scNames.nd rfl (Or.inl rfl) (pe_lst (pa_cons pe_str (pa_cons pe_str (pa_cons pe_str (pa_cons pe_str (pa_cons pe_str (pa_cons pe_str (pa_cons pe_str (pa_cons pe_str (pa_cons pe_str (pa_cons pe_str (pa_cons pe_str (pa_cons pe_str (pa_cons pe_str pa_nil)))))))))))))))
      (pss_cons (ps_set (i := 3) scNames.nd rfl (Or.inr rfl) pe_str)
      (pss_cons (ps_set (i := 4) scNames.nd rfl (Or.inr rfl) (pe_lst pa_nil))
      (pss_cons (ps_for PassesOwn.never rfl (pi_range1 (by rfl) tx.range (pa_cons (pv 1) pa_nil)) (pg_name (i := 5) scNames.nd rfl (Or.inl rfl))
        (pss_cons (ps_set (i := 6) scNames.nd rfl (Or.inr rfl) (pe_call G2.ok hr (by rfl) G2.gm G2.kp G2.bd .nil pass0 (pa_cons (pv 0) (pa_cons (pv 2) pa_nil))))
        (C8.pss_cut (ps_if (pt_cmpR op_gt (pe_call G1.ok (hr.mono (by decide)) (by rfl) G1.gm G1.kp G1.bd .nil pass0 (pa_cons (pv 0) (pa_cons pe_int pa_nil))) pe_int (nomark _))
          (pss_one (ps_set (i := 6) scNames.nd rfl (Or.inr rfl) (pe_join pe_str (pe_lc (own := [("_law_sign", 8)]) (g := gName 8) (tt := tYes) (by rfl) scNames.nd
            (pi_range1 (by rfl) tx.range (pa_cons (pe_op op_add pe_int (pe_call G1.ok (hr.mono (by decide)) (by rfl) G1.gm G1.kp G1.bd .nil pass0 (pa_cons (pv 0) (pa_cons pe_int pa_nil)))) pa_nil))
            (blkOk_by (own := [("_law_sign", 8)]) (N := nN) (sc := defScope sNames) (by decide +kernel)) (fun _ _ _ _ _ => pg_name (i := 8) scNames.nd rfl (Or.inl rfl)) (fun _ _ _ _ _ => pts_nil)
            (fun _ _ _ _ _ => pe_call G2.ok hr (by rfl) G2.gm G2.kp G2.bd .nil pass0 (pa_cons (pv 0) (pa_cons (pv 3) pa_nil))))))) pss_nil)
        (pss_cons (ps_set (i := 7) scNames.nd rfl (Or.inl rfl) (pe_op op_cat (pe_lst (pa_cons (pv 6) pa_nil)) (pe_lc (own := [("_law_sign", 8)]) (g := gName 8) (tt := tYes) (by rfl) scNames.nd (pi_str (pv 3))
            (blkOk_by (own := [("_law_sign", 8)]) (N := nN) (sc := defScope sNames) (by decide +kernel)) (fun _ _ _ _ _ => pg_name (i := 8) scNames.nd rfl (Or.inl rfl)) (fun _ _ _ _ _ => pts_nil)
            (fun _ _ _ _ _ => pe_op op_add_str (pe_slice sl_str (pv 6) po_none (po_some pe_int)) (pv 8)))))
        (pss_one (ps_expr (pe_bm PySem.F.plainAttrs_list PySem.F.slot_list_append PySem.F.type_list_append mt_append (pv 4) (pa_cons (pe_ix ix_list (pe_lc (own := [("_law_one", 9)]) (g := gName 9) (by rfl) scNames.nd (pi_list (pv 7))
            (blkOk_by (own := [("_law_one", 9)]) (N := nN) (sc := defScope sNames) (by decide +kernel)) (fun _ _ _ _ _ => pg_name (i := 9) scNames.nd rfl (Or.inl rfl)) (fun _ _ _ _ _ => pts_one (pt_cmpR (r := rIn K true) op_notIn_seq (pv 9) (pv 4) rfl))
            (fun _ _ _ _ _ => pv 9)) pe_int (fun _ _ => rfl)) pa_nil))))))))
      (pss_one (ps_ret (pv 4)))))), ?_⟩
    refine ⟨(by show 13 ≤ sizeLine; decide), fun O hO => ⟨Nat.zero_le _, fun L hL => ?_⟩⟩
    generalize hH1 : upd (upd H O (.lst (own.map V.str))) L (.lst []) = H1
    have eH1 : upd (upd H O (.lst [.str (Str.ofString "order"), .str (Str.ofString "split"), .str (Str.ofString "short"), .str (Str.ofString "less"), .str (Str.ofString "like"), .str (Str.ofString "best"), .str (Str.ofString "great"), .str (Str.ofString "pay"), .str (Str.ofString "give"), .str (Str.ofString "claim"), .str (Str.ofString "leaf"), .str (Str.ofString "node"), .str (Str.ofString "none")])) L (.lst []) = H1 := hH1
    rw [eH1]
    have hL0 : upd H O (.lst (own.map V.str)) L = none := hL
    have nLO : L ≠ O := fun z => by rw [z, upd_same] at hL0; cases hL0
    have hL00 : H L = none := by rw [upd_ne nLO] at hL0; exact hL0
    have S1 : Same H H1 := fun b o e => by
      have e1 : upd H O (.lst (own.map V.str)) b = some o := (upd_ne (ne_of_none e hO)).trans e
      rw [← hH1, upd_ne (ne_of_none e1 hL0)]
      exact e1
    have hL1 : H1 L = some (.lst ([].map V.str)) := by rw [← hH1, upd_same]; rfl
    have hO1 : H1 O = some (.lst (own.map V.str)) := by rw [← hH1, upd_ne nLO.symm, upd_same]
    have apL := hst.apart hL00
    obtain ⟨kvs0, hk0⟩ := hst.dic
    have nst : L ≠ st := fun z => by rw [z, hk0] at hL00; cases hL00
    have nOst : O ≠ st := fun z => by rw [z, hk0] at hO; cases hO
    clear hH1 eH1
    refine ⟨_, rfl, (many : Int), rfl, by omega, by omega, for_range (lo := 0) (n := ((many : Nat) : Int).toNat) (NI K st scr ns many O L H)
      ⟨[], none, none, none, rfl, But.of S1, hst.same S1, hO1, hL1, List.nodup_nil, (fun y hy => by cases hy), rfl⟩ ?_ ?_⟩
    · rintro j σ H2 hj ⟨fnd, v5, v6, v7, rfl, B, s2, hO2, hL2, nd, nm, ln⟩
      refine ⟨_, rfl, _, rfl, st, scr, ns, s2, .inl ⟨O, own, rfl, SqL.of hO2, by decide, by decide, fun y H3 hy b3 s3 => ?_⟩⟩
      refine ⟨fun σ' H' => ∃ z, Nm z ∧ σ' = [some (.ref st), some (.int (many : Int)), some (.ref O), some (.str lets), some (.ref L), some (.int (0 + (j : Int))), some (.str z), v7, none, none] ∧ But st H2 H' ∧ StAt K H' st scr ns, ?_, ?_⟩
      · refine ⟨_, rfl, st, scr, ns, 3, rfl, s3, by decide, by decide, fun r H4 b4 s4 r0 r1 => ⟨_, _, rfl, rfl, _, rfl, ite2 (fun hr => ?_) (fun hr => ?_)⟩⟩
        · refine ⟨⟨_, rfl⟩, _, rfl, st, scr, ns, 8, rfl, s4, by decide, by decide, fun r2 H5 b5 s5 q0 q1 => ⟨_, _, rfl, rfl, _, rfl, by omega, by omega, fun D hD => ?_⟩⟩
          have hB5 : But st H2 H5 := (b3.trans b4).trans b5
          obtain ⟨kvs5, hk5⟩ := s5.dic
          have nDst : D ≠ st := fun z => by rw [z, hk5] at hD; cases hD
          have apD := s5.apart hD
          have S5 : Same H5 (upd H5 D (.lst [])) := fun b o e => (upd_ne (ne_of_none e hD)).trans e
          refine lc_range (lo := 0) (n := (1 + r2).toNat) (fun i H' => ∃ cs : List Nat, But st H5 H' ∧ StAt K H' st scr ns ∧ H' D = some (.lst ((cs.map sgn).map V.str)) ∧ cs.length = i ∧ ∀ c ∈ cs, c ∈ tl lets)
            ⟨[], But.of S5, s5.same S5, upd_same, rfl, fun c hc => by cases hc⟩ (fun i H6 hi pv => ?_) (fun H6 pv => ?_)
          · obtain ⟨cs, b6, s6, hD6, lc, hcs⟩ := pv
            refine ⟨rfl, yes_of ?_⟩
            refine iteT ⟨_, rfl, _, rfl, st, scr, ns, s6, .inr ⟨rfl, fun c H7 hc b7 s7 => ?_⟩⟩
            have hD7 := b7 _ _ nDst hD6
            refine ⟨_, hD7, by rw [List.length_map, List.length_map, sizeLine_eq]; omega, cs ++ [c], ?_, s7.set hD7 apD, ?_, by rw [List.length_append, lc] <;> rfl, ?_⟩
            · intro b o n e
              rw [upd_ne (ne_of_none e hD)]
              exact b7 b o n (b6 b o n e)
            · rw [upd_same, List.map_append, List.map_append]
              rfl
            · intro d hd
              rcases List.mem_append.mp hd with e | e
              · exact hcs d e
              · rw [List.mem_singleton.mp e]
                exact hc
          · obtain ⟨cs, b6, s6, hD6, lc, hcs⟩ := pv
            have l8 : cs.length ≤ 8 := by omega
            have l1 : 1 ≤ cs.length := by omega
            have sum1 : ∀ l : List Nat, ((l.map sgn).map (·.length)).sum = l.length := fun l => by
              induction l with
              | nil => rfl
              | cons a r ih =>
                rw [List.map_cons, List.map_cons, List.sum_cons, ih, List.length_cons]
                show 1 + r.length = _
                omega
            refine ⟨_, D, cs.map sgn, rfl, rfl, .inl (SqL.of hD6), ?_, ?_⟩
            · rw [sum1]
              have e0 : (Str.ofString "").length = 0 := by decide +kernel
              rw [e0]
              omega
            · exact ⟨_, nm_of (tl_joined2 (by decide +kernel) cs) l1 l8 (fun c hc => lets_mem (hcs c hc)), rfl, hB5.trans b6, s6⟩
        · exact ⟨y, own_nm y hy, rfl, b3.trans b4, s4⟩
      · rintro σ' H4 ⟨z, hz, rfl, b4, s4⟩
        have hO4 := b4 _ _ nOst hO2
        have hL4 := b4 _ _ nst hL2
        obtain ⟨kvs4, hk4⟩ := s4.dic
        -- some = [word] + [word[:7] + sign for sign in letters]
        refine ⟨_, rfl, (by show 1 ≤ sizeLine; decide), fun W hW => ?_⟩
        have SW : Same H4 (upd H4 W (.lst [.str z])) := fun b o e => (upd_ne (ne_of_none e hW)).trans e
        refine ⟨_, rfl, lets, rfl, fun D hD => ?_⟩
        have SD : Same (upd H4 W (.lst [.str z])) (upd (upd H4 W (.lst [.str z])) D (.lst [])) := fun b o e => (upd_ne (ne_of_none e hD)).trans e
        refine lc_it (walk_str (z := lets)) (fun i H' => Same (upd H4 W (.lst [.str z])) H' ∧ H' D = some (.lst ((((tl lets).take i).map (cut7 z)).map V.str))) ⟨SD, upd_same⟩ (fun _ _ _ _ => trivial) (fun i x H5 H6 hi p y => ?_) (fun H5 p => ?_)
        · obtain ⟨rfl, c, hc, rfl⟩ := y
          have ec : (tl lets)[i]? = some c := by rw [← hc]; exact Array.getElem?_toList
          refine ⟨rfl, yes_of ?_⟩
          refine iteT ⟨_, rfl, _, rfl, z, rfl, ?_, _, rfl, cutS z none (some 7), sgn c, rfl, rfl, ?_, _, p.2, ?_, ?_, ?_⟩
          · rw [sizeLine_eq]
            have := hz.2.1
            omega
          · have e := len_of_tl (cut7 z c)
            have e2 : (cut7 z c).length = (cutS z none (some 7)).length + (sgn c).length := PySem.strLen_append _ _
            have e3 := (cut7_nm hz (List.mem_of_getElem? ec)).2.1
            rw [sizeLine_eq]
            omega
          · rw [List.length_map, List.length_map, List.length_take, ← len_of_tl, lets_len, sizeLine_eq]
            omega
          · exact fun b o e => (upd_ne (ne_of_none e hD)).trans (p.1 b o e)
          · rw [upd_same, List.take_add_one, ec, List.map_append, List.map_append]
            rfl
        · have p2 : H5 D = some (.lst (((tl lets).map (cut7 z)).map V.str)) := by
            have e : (tl lets).take lets.cps.size = tl lets := List.take_of_length_le (by rw [← len_of_tl]; exact Nat.le_refl _)
            have q := p.2
            rw [e] at q
            exact q
          refine ⟨W, D, _, _, rfl, rfl, p.1 _ _ upd_same, p2, ?_, fun S hS => ?_⟩
          · rw [List.length_map, List.length_map, ← len_of_tl, lets_len]
            show 1 + 26 ≤ sizeLine
            decide
          · have S4 : Same H4 (upd H5 S (.lst ([V.str z] ++ ((tl lets).map (cut7 z)).map V.str))) := fun b o e => by
              have e1 := p.1 b o (SW b o e)
              exact (upd_ne (ne_of_none e1 hS)).trans e1
            have hS6 : upd H5 S (.lst ([V.str z] ++ ((tl lets).map (cut7 z)).map V.str)) S = some (.lst ((cands z).map V.str)) := upd_same
            generalize upd H5 S (.lst ([V.str z] ++ ((tl lets).map (cut7 z)).map V.str)) = H6 at S4 hS6
            have hL6 := S4 _ _ hL4
            -- found.append([one for one in some if one not in found][0])
            refine ⟨_, rfl, .inl ⟨rfl, _, SqL.of hL6⟩, ?_⟩
            refine ⟨_, rfl, S, rfl, ⟨_, SqL.of hS6⟩, fun E hE => ?_⟩
            refine lc_list (K := K) (a := S) (xs := (cands z).map V.str) (fun i H' => Same H6 H' ∧ H' E = some (.lst ((((cands z).take i).filter (fun y => !decide (y ∈ fnd))).map V.str)))
              ⟨fun b o e => (upd_ne (ne_of_none e hE)).trans e, upd_same⟩ (fun i H' _ p => SqL.of (p.1 _ _ hS6)) (fun i x H7 hx p => ?_) (fun H7 p => ?_)
            · obtain ⟨y, ey, rfl⟩ : ∃ y, (cands z)[i]? = some y ∧ x = V.str y := by
                rw [List.getElem?_map] at hx
                cases e : (cands z)[i]? with
                | none => rw [e] at hx; cases hx
                | some n => rw [e] at hx; exact ⟨n, rfl, (Option.some.inj hx).symm⟩
              refine ⟨rfl, ?_⟩
              refine ⟨_, rfl, _, rfl, L, _, rfl, .inl (SqL.of (p.1 _ _ hL6)), rfl, flat_strs fnd, _, rfl, ?_⟩
              rw [inV_iff]
              by_cases hm : y ∈ fnd
              · rw [decide_eq_true hm]
                refine iteF ⟨p.1, ?_⟩
                rw [p.2, List.take_add_one, ey, List.filter_append]
                simp [hm]
              · rw [decide_eq_false hm]
                refine iteT ⟨_, rfl, _, p.2, ?_, ?_, ?_⟩
                · rw [List.length_map, sizeLine_eq]
                  have h1 := List.length_filter_le (fun y => !decide (y ∈ fnd)) ((cands z).take i)
                  rw [List.length_take] at h1
                  have h2 : (cands z).length = 27 := by
                    unfold cands
                    rw [List.length_cons, List.length_map, ← len_of_tl, lets_len]
                  omega
                · exact fun b o e => (upd_ne (ne_of_none e hE)).trans (p.1 b o e)
                · rw [upd_same, List.take_add_one, ey, List.filter_append]
                  simp [hm]
            · have pe : H7 E = some (.lst (((cands z).filter (fun y => !decide (y ∈ fnd))).map V.str)) := by
                have q := p.2
                rw [List.length_map, List.take_length] at q
                exact q
              obtain ⟨y, r, e1, e2, e3⟩ := cands_some hz (fnd := fnd) (by omega)
              rw [e1] at pe
              have hL7 := p.1 _ _ hL6
              refine ⟨E, _, _, V.str y, rfl, rfl, SqL.of pe, atI_nat (j := 0) rfl, L, _, _, rfl, rfl, hL7, ?_, ?_⟩
              · rw [List.length_map, sizeLine_eq]
                omega
              · refine ⟨fnd ++ [y], _, _, _, rfl, ?_, (s4.same (S4.trans p.1)).set hL7 apL, ?_, ?_, nd_snoc nd e3, ?_, by rw [List.length_append, ln] <;> rfl⟩
                · intro b o n e
                  rw [upd_ne (ne_of_none e hL00)]
                  exact (S4.trans p.1) b o (b4 b o n (B b o n e))
                · rw [upd_ne nLO.symm]
                  exact (S4.trans p.1) _ _ hO4
                · rw [upd_same, List.map_append]
                  rfl
                · intro a ha
                  rcases List.mem_append.mp ha with e | e
                  · exact nm a e
                  · rw [List.mem_singleton.mp e]
                    exact e2
    · rintro σ H2 ⟨fnd, v5, v6, v7, rfl, B, s2, hO2, hL2, nd, nm, ln⟩
      exact ⟨_, rfl, k fnd H2 L B s2 hL00 hL2 nd nm (by omega)⟩
end
end K78
/-! K78O: accounts that are drawn. -/
namespace K78
open PySem PySem.Spec PyProof.Rows L2 TL LamX NdefX
/-! ### names to spare -/
def kw (k : Nat) : Str := (Str.ofString "k" ++ sgn (97 + k / 26)) ++ sgn (97 + k % 26)
theorem tl_kw (k : Nat) : tl (kw k) = [107, 97 + k / 26, 97 + k % 26] := by
  unfold kw
  rw [tl_append, tl_append, tl_sgn, tl_sgn]
  have e : tl (Str.ofString "k") = [107] := by decide +kernel
  rw [e] <;> rfl
theorem kw_nm {k : Nat} (h : k < 100) : Nm (kw k) := by
  refine nm_of (tl_kw k) (by simp) (by simp) fun c hc => ?_
  simp only [List.mem_cons, List.not_mem_nil, or_false] at hc
  omega
theorem kw_inj {j k : Nat} (e : kw j = kw k) : j = k := by
  have q := congrArg tl e
  rw [tl_kw, tl_kw] at q
  have q1 := (List.cons.inj q).2
  obtain ⟨q2, q3⟩ := List.cons.inj q1
  have q4 := (List.cons.inj q3).1
  omega
def kws : List Str := (List.range 100).map kw
theorem kws_nodup : kws.Nodup := by
  unfold kws
  rw [List.Nodup, List.pairwise_map]
  exact List.nodup_range.imp fun {a b} hne e => hne (kw_inj e)
theorem kws_nm : ∀ y ∈ kws, Nm y := fun y hy => by
  obtain ⟨k, hk, e⟩ := List.mem_map.mp hy
  rw [← e]
  exact kw_nm (List.mem_range.mp hk)
theorem filter_two {α : Type} (p : α → Bool) : ∀ l : List α, (l.filter p).length + (l.filter fun a => !p a).length = l.length
  | [] => rfl
  | a :: r => by
    have ih := filter_two p r
    cases h : p a with
    | true =>
      rw [List.filter_cons_of_pos h, List.filter_cons_of_neg (by simp [h]), List.length_cons, List.length_cons]
      omega
    | false =>
      rw [List.filter_cons_of_neg (by simp [h]), List.filter_cons_of_pos (by simp [h]), List.length_cons, List.length_cons]
      omega
def spares (xs : List Str) : List Str := kws.filter fun y => !decide (y ∈ xs)
theorem spares_len {xs : List Str} (h : xs.length ≤ 20) : 80 ≤ (spares xs).length := by
  have h1 := filter_two (fun y => decide (y ∈ xs)) kws
  have h2 : (kws.filter fun y => decide (y ∈ xs)).length ≤ xs.length := nodup_sub (kws_nodup.filter _) fun a ha => by
    have q := (List.mem_filter.mp ha).2
    exact of_decide_eq_true q
  have h3 : kws.length = 100 := by
    unfold kws
    rw [List.length_map, List.length_range]
  show 80 ≤ (kws.filter fun y => !decide (y ∈ xs)).length
  omega
theorem names_nodup {xs : List Str} (h : xs.Nodup) (n : Nat) : (xs ++ (spares xs).take n).Nodup := by
  refine List.nodup_append.mpr ⟨h, (kws_nodup.filter _).sublist (List.take_sublist _ _), fun a ha b hb e => ?_⟩
  have q := (List.mem_filter.mp (List.mem_of_mem_take hb)).2
  subst e
  simp [ha] at q
theorem names_nm {xs : List Str} (h : ∀ y ∈ xs, Nm y) (n : Nat) : ∀ y ∈ xs ++ (spares xs).take n, Nm y := fun y hy => by
  rcases List.mem_append.mp hy with e | e
  · exact h y e
  · exact kws_nm y (List.mem_filter.mp (List.mem_of_mem_take e)).1
/-! ### a dict of pairs -/
theorem merge_acc : ∀ (r a : List (Str × Int)), ((a ++ r).map (·.1)).Nodup → mergeK (accK a) (accK r) = accK (a ++ r)
  | [], a, _ => by
    rw [List.append_nil]
    rfl
  | (n, x) :: r, a, h => by
    have hn : valV (accK a) (Sum.inr n) = none := by
      rw [accK_val, look_none (fun z => ?_)]
      · rfl
      · rw [List.map_append] at h
        exact (List.nodup_append.mp h).2.2 n z n List.mem_cons_self rfl
    show mergeK (putK (accK a) (Sum.inr n) (V.int x)) (accK r) = _
    rw [putK_new _ hn]
    have e : accK a ++ [(Sum.inr n, V.int x)] = accK (a ++ [(n, x)]) := by
      unfold accK
      rw [List.map_append] <;> rfl
    rw [e, merge_acc r (a ++ [(n, x)]) (by rw [List.append_assoc]; exact h), List.append_assoc]
    rfl
/-! ### _law_accounts -/
def spDrawn (K : PySem.W.Frag) : Sp := fun vs H Q _ => ∃ (st scr : Addr) (ns : List Int), vs = [.ref st] ∧ StAt K H st scr ns ∧ ∀ (acc : List (Str × Int)) (H' : Hp) (a : Addr), But st H H' → StAt K H' st scr ns → H a = none → AccAt H' a acc → Acc acc → Q (.ref a) H'
def PrAt (H : Hp) (p : Addr) (q : Str × Int) : Prop := H p = some (.tup [.str q.1, .int q.2])
theorem paired_pairs {K : PySem.W.Frag} {H : Hp} : ∀ {ps : List Addr} {acc : List (Str × Int)}, Paired (PrAt H) ps acc → Paired (fun p (kv : L2.Key × V) => SqT K H p [kV kv.1, kv.2]) ps (accK acc)
  | _, _, .nil => .nil
  | _, _, .cons h r => .cons (SqT.of h) (paired_pairs r)
theorem PrAt.set {H : Hp} {L p : Addr} {xs : List V} {o : HO} {q : Str × Int} (h : PrAt H p q) (hL : H L = some (.lst xs)) : PrAt (upd H L o) p q := (upd_ne (ne_of h hL (by intro z; cases z))).trans h
/-- between two turns -/
structure DI (K : PySem.W.Frag) (st scr : Addr) (ns : List Int) (m : Int) (X S L : Addr) (H : Hp) (xs : List Str) (k : Nat) (σ : L2.St) (H1 : Hp) : Prop where
  ex : ∃ (acc : List (Str × Int)) (ps : List Addr) (v6 : Option V), σ = [some (.ref st), some (.int m), some (.ref X), some (.str lets), some (.ref S), some (.ref L), v6, none, none] ∧ But st H H1 ∧ StAt K H1 st scr ns ∧ H1 X = some (.lst (xs.map V.str)) ∧ H1 L = some (.lst (ps.map V.ref)) ∧
    Paired (PrAt H1) ps acc ∧ acc.map (·.1) = xs.take k ∧ ∀ q ∈ acc, 0 ≤ q.2 ∧ q.2 ≤ 10 ^ 12
section
variable {P : Program} {w : World} {K : PySem.W.Frag} {mg : Str → Option Value} {base : Heap}
abbrev nD : List Str := ["_law_state", "_law_many", "_law_names_here", "_law_letters", "_law_spare", "_law_found", "_law_name", "_law_word", "_law_k"]
theorem scDrawn : FnScope nD ["_law_state"] (defScope sDrawn) := ⟨rfl, rfl, rfl, by decide +kernel, rfl, by decide +kernel, by decide +kernel⟩
theorem ok_drawn {f f1 f2 : Addr} {fd fd1 fd2 : FuncData} (F : FnP K "_law_accounts" "_law_accounts" sDrawn f fd) (tx : TX K mg) (G1 : Has P w K mg base 1 "_law_take" ["_law_state", "_law_many"] (spTake K) f1 fd1)
    (G2 : Has P w K mg base 3 "_law_names" ["_law_state", "_law_many"] (spNames K) f2 fd2) : FnOk P w K mg base CX0 4 f fd ["_law_state"] (spDrawn K) := by
  refine okN F scDrawn (fun vs H Q E h => ?_) (fun cdv A outer s H vs Q E hr h => ?_)
  · obtain ⟨st, scr, ns, rfl, _⟩ := h
    rfl
  · obtain ⟨st, scr, ns, rfl, hst, k⟩ := h
    have take : ∀ {X : Cx}, True := fun {_} => trivial
    refine ⟨_, pss_cons (ps_set (i := 1) scDrawn.nd rfl (Or.inl rfl) (pe_op op_add pe_int (pe_call G1.ok (hr.mono (by decide)) (by rfl) G1.gm G1.kp G1.bd .nil pass0 (pa_cons (pv 0) (pa_cons (pe_ix ix_list (pe_lst (pa_cons pe_int (pa_cons pe_int (pa_cons pe_int pa_nil))))
          (pe_call G1.ok (hr.mono (by decide)) (by rfl) G1.gm G1.kp G1.bd .nil pass0 (pa_cons (pv 0) (pa_cons pe_int pa_nil))) (fun _ _ => rfl)) pa_nil)))))
      (pss_cons (ps_set (i := 2) scDrawn.nd rfl (Or.inr rfl) (pe_call G2.ok hr (by rfl) G2.gm G2.kp G2.bd .nil pass0 (pa_cons (pv 0) (pa_cons (pe_callB (call_min2 rfl) (by rfl) tx.min (by decide +kernel) (pa_cons (pv 1) (pa_cons pe_int pa_nil))) pa_nil))))
      (pss_cons (ps_set (i := 3) scDrawn.nd rfl (Or.inr rfl) pe_str)
      (pss_cons (ps_setLc (i := 4) (own := [("_law_word", 7)]) (g := gName 7) (by rfl) scDrawn.nd rfl rfl (sw_true rfl rfl rfl (by decide +kernel))
          (pi_list (pe_lc (own := [("_law_k", 8)]) (g := gName 8) (tt := tYes) (by rfl) scDrawn.nd (pi_range1 (by rfl) tx.range (pa_cons pe_int pa_nil)) (blkOk_by (own := [("_law_k", 8)]) (N := nD) (sc := defScope sDrawn) (by decide +kernel))
            (fun _ _ _ _ _ => pg_name (i := 8) scDrawn.nd rfl (Or.inl rfl)) (fun _ _ _ _ _ => pts_nil)
            (fun _ _ _ _ _ => pe_op op_add_str (pe_op op_add_str pe_str (pe_ix (r := rIxS) ix_str (pv 3) (pe_op op_fdiv (pv 8) pe_int) (fun _ _ => rfl))) (pe_ix (r := rIxS) ix_str (pv 3) (pe_op op_mod (pv 8) pe_int) (fun _ _ => rfl)))))
          (blkOk_by (own := [("_law_word", 7)]) (N := nD) (sc := defScope sDrawn) (by decide +kernel)) (fun _ _ _ _ _ => pg_name (i := 7) scDrawn.nd rfl (Or.inl rfl)) (fun _ _ _ _ _ => pts_one (pt_cmpR (r := rIn K true) op_notIn_seq (pv 7) (pv 2) rfl))
          (fun _ _ _ _ _ => pv 7))
      (pss_cons (ps_set (i := 2) scDrawn.nd rfl (Or.inr rfl) (pe_op op_cat (pv 2) (pe_slice sl_list (pv 4) po_none (po_some (pe_op op_sub (pv 1) (pe_callB call_len_seq (by rfl) tx.len PySem.boot_len (pa_cons (pv 2) pa_nil)))))))
      (pss_cons (ps_set (i := 5) scDrawn.nd rfl (Or.inl rfl) (pe_lst pa_nil))
      (pss_cons (ps_for PassesOwn.never rfl (pi_list (pv 2)) (pg_name (i := 6) scDrawn.nd rfl (Or.inl rfl))
        (pss_one (ps_expr (pe_bm PySem.F.plainAttrs_list PySem.F.slot_list_append PySem.F.type_list_append mt_append (pv 5) (pa_cons (pe_tup (pa_cons (pv 6) (pa_cons (pe_call G1.ok (hr.mono (by decide)) (by rfl) G1.gm G1.kp G1.bd .nil pass0
          (pa_cons (pv 0) (pa_cons (pe_ix ix_list (pe_lst (pa_cons pe_int (pa_cons (pe_op op_add (pe_op op_pow pe_int pe_int) pe_int) pa_nil))) (pe_call G1.ok (hr.mono (by decide)) (by rfl) G1.gm G1.kp G1.bd .nil pass0 (pa_cons (pv 0) (pa_cons pe_int pa_nil))) (fun _ _ => rfl)) pa_nil))) pa_nil))) pa_nil)))))
      (pss_one (ps_ret (pe_callTy (call_dictP rfl) (by rfl) tx.dict (by decide +kernel) (pa_cons (pv 5) pa_nil)))))))))), ?_⟩
    obtain ⟨kvs0, hk0⟩ := hst.dic
    -- many = 1 + take(state, [4, 9, 64][take(state, 3)])
    refine ⟨_, rfl, (by show 3 ≤ sizeLine; decide), fun A1 hA1 => ?_⟩
    have nA1 : A1 ≠ st := fun z => by rw [z, hk0] at hA1; cases hA1
    have SA : Same H (upd H A1 (.lst [.int 4, .int 9, .int 64])) := fun b o e => (upd_ne (ne_of_none e hA1)).trans e
    refine ⟨_, rfl, st, scr, ns, 3, rfl, hst.same SA, by decide, by decide, fun r H2 b2 s2 r0 r1 => ?_⟩
    have hA2 : H2 A1 = some (.lst [.int 4, .int 9, .int 64]) := b2 _ _ nA1 upd_same
    obtain ⟨v, hv, v1, v2⟩ : ∃ v : Int, atI [V.int 4, .int 9, .int 64] r = some (V.int v) ∧ 1 ≤ v ∧ v ≤ 64 := by
      have h3 : r = 0 ∨ r = 1 ∨ r = 2 := by omega
      rcases h3 with rfl | rfl | rfl
      · exact ⟨4, rfl, by decide, by decide⟩
      · exact ⟨9, rfl, by decide, by decide⟩
      · exact ⟨64, rfl, by decide, by decide⟩
    refine ⟨A1, _, _, _, rfl, rfl, SqL.of hA2, hv, st, scr, ns, v, rfl, s2, v1, by omega, fun r2 H3 b3 s3 q0 q1 => ⟨_, _, rfl, rfl, ?_⟩⟩
    have B3 : But st H H3 := fun b o n e => b3 b o n (b2 b o n (SA b o e))
    -- names_here = names(state, min(many, 20))
    obtain ⟨m, rfl⟩ : ∃ m : Nat, r2 = (m : Int) := ⟨r2.toNat, by omega⟩
    have emin : (if (20 : Int) < 1 + (m : Int) then (20 : Int) else 1 + (m : Int)) = ((min (1 + m) 20 : Nat) : Int) := by
      split <;> omega
    refine ⟨_, rfl, _, rfl, 1 + (m : Int), 20, rfl, ?_⟩
    refine ⟨st, scr, ns, min (1 + m) 20, (by show [V.ref st, V.int (if (20 : Int) < 1 + (m : Int) then (20 : Int) else 1 + (m : Int))] = _; rw [emin]), s3, Nat.min_le_right _ _, fun xs H4 X1 b4 s4 nX hX nd nm lx => ?_⟩
    have B4 : But st H H4 := B3.trans b4
    have l20 : xs.length ≤ 20 := by omega
    -- spare
    refine ⟨100, rfl, by decide, by decide, fun D hD => ?_⟩
    have SD : Same H4 (upd H4 D (.lst [])) := fun b o e => (upd_ne (ne_of_none e hD)).trans e
    have hk26 : ∀ j : Nat, j < 26 → atI lets.cps.toList (j : Int) = some (97 + j) := fun j hj => by
      have e : (tl lets)[j]? = some (97 + j) := by
        show (tl (Str.ofString "abcdefghijklmnopqrstuvwxyz"))[j]? = _
        rw [letters_tl, List.getElem?_map, List.getElem?_range hj]
        show some (j + 97) = _
        rw [Nat.add_comm]
      exact atI_nat e
    have ll : lets.length ≤ sizeLine := by rw [lets_len]; decide
    refine lc_range (lo := 0) (n := (100 : Int).toNat) (fun i H' => Same H4 H' ∧ H' D = some (.lst (((List.range i).map kw).map V.str))) ⟨SD, upd_same⟩ (fun i H5 hi p => ?_) (fun H5 p => ?_)
    · have hi2 : i < 100 := hi
      refine ⟨rfl, yes_of ?_⟩
      refine iteT ⟨_, rfl, _, rfl, _, _, rfl, rfl, ⟨by decide, by decide⟩, lets, (0 + (i : Int)) / 26, 97 + i / 26, rfl, rfl, ll, ?_, ?_⟩
      · rw [show (0 + (i : Int)) / 26 = ((i / 26 : Nat) : Int) by omega]
        exact hk26 _ (by omega)
      · refine ⟨_, _, rfl, rfl, (by show 1 + 1 ≤ sizeLine; decide), ?_⟩
        refine ⟨_, rfl, _, rfl, _, _, rfl, rfl, (by show (0 : Int) < 26; decide), lets, (0 + (i : Int)) % 26, 97 + i % 26, rfl, rfl, ll, ?_, ?_⟩
        · rw [show (0 + (i : Int)) % 26 = ((i % 26 : Nat) : Int) by omega]
          exact hk26 _ (by omega)
        · refine ⟨_, _, rfl, rfl, (by show 2 + 1 ≤ sizeLine; decide), _, p.2, ?_, ?_, ?_⟩
          · rw [List.length_map, List.length_map, List.length_range, sizeLine_eq]
            omega
          · exact fun b o e => (upd_ne (ne_of_none e hD)).trans (p.1 b o e)
          · rw [upd_same, List.range_succ, List.map_append, List.map_append]
            rfl
    · have p2 : H5 D = some (.lst (kws.map V.str)) := p.2
      refine ⟨D, rfl, ⟨_, SqL.of p2⟩, fun S hS => ?_⟩
      have hX5 := p.1 _ _ hX
      refine lc_list (K := K) (a := D) (xs := kws.map V.str) (fun i H' => Same H5 H' ∧ H' S = some (.lst (((kws.take i).filter (fun y => !decide (y ∈ xs))).map V.str)))
        ⟨fun b o e => (upd_ne (ne_of_none e hS)).trans e, upd_same⟩ (fun i H' _ p => SqL.of (p.1 _ _ p2)) (fun i x H7 hx p => ?_) (fun H7 p7 => ?_)
      · obtain ⟨y, ey, rfl⟩ : ∃ y, kws[i]? = some y ∧ x = V.str y := by
          rw [List.getElem?_map] at hx
          cases e : kws[i]? with
          | none => rw [e] at hx; cases hx
          | some n => rw [e] at hx; exact ⟨n, rfl, (Option.some.inj hx).symm⟩
        refine ⟨rfl, ?_⟩
        refine ⟨_, rfl, _, rfl, X1, _, rfl, .inl (SqL.of (p.1 _ _ hX5)), rfl, flat_strs xs, _, rfl, ?_⟩
        rw [inV_iff]
        by_cases hm : y ∈ xs
        · rw [decide_eq_true hm]
          refine iteF ⟨p.1, ?_⟩
          rw [p.2, List.take_add_one, ey, List.filter_append]
          simp [hm]
        · rw [decide_eq_false hm]
          refine iteT ⟨_, rfl, _, p.2, ?_, ?_, ?_⟩
          · rw [List.length_map, sizeLine_eq]
            have h1 := List.length_filter_le (fun y => !decide (y ∈ xs)) (kws.take i)
            rw [List.length_take] at h1
            have h2 : kws.length = 100 := by
              unfold kws
              rw [List.length_map, List.length_range]
            omega
          · exact fun b o e => (upd_ne (ne_of_none e hS)).trans (p.1 b o e)
          · rw [upd_same, List.take_add_one, ey, List.filter_append]
            simp [hm]
      · have hS7 : H7 S = some (.lst ((spares xs).map V.str)) := by
          have q := p7.2
          rw [List.length_map, List.take_length] at q
          exact q
        have S47 : Same H4 H7 := p.1.trans p7.1
        have hX7 := S47 _ _ hX
        have lsp := spares_len l20
        have lxm : (xs.map V.str).length = xs.length := by rw [List.length_map]
        -- names_here = names_here + spare[:many - len(names_here)]
        refine ⟨_, rfl, _, rfl, _, rfl, _, rfl, X1, _, rfl, .inl (SqL.of hX7), _, _, rfl, rfl, _, rfl, S, _, rfl, SqL.of hS7, fun C hC => ?_⟩
        rw [lxm]
        have cut : cutV ((spares xs).map V.str) none (some (1 + (m : Int) - (xs.length : Int))) = ((spares xs).take (1 + m - xs.length)).map V.str := by
          unfold cutV
          rw [HT.sIx_none, show 1 + (m : Int) - (xs.length : Int) = ((1 + m - xs.length : Nat) : Int) by omega, HT.sIx_nat, List.drop_zero, Nat.sub_zero, List.length_map, Nat.min_eq_left (by omega), List.map_take]
        rw [cut]
        generalize hall : xs ++ (spares xs).take (1 + m - xs.length) = al
        have lall : al.length = 1 + m := by
          rw [← hall, List.length_append, List.length_take]
          omega
        have nall : al.Nodup := by rw [← hall]; exact names_nodup nd _
        have mall : ∀ y ∈ al, Nm y := by rw [← hall]; exact names_nm nm _
        refine ⟨X1, C, _, _, rfl, rfl, (upd_ne (ne_of_none hX7 hC)).trans hX7, upd_same, ?_, fun X2 hX2 => ?_⟩
        · rw [List.length_map, List.length_map, List.length_take, sizeLine_eq]
          omega
        have e8 : xs.map V.str ++ ((spares xs).take (1 + m - xs.length)).map V.str = al.map V.str := by rw [← hall, List.map_append]
        rw [e8]
        have S8 : Same H7 (upd (upd H7 C (.lst (((spares xs).take (1 + m - xs.length)).map V.str))) X2 (.lst (al.map V.str))) := fun b o e => by
          have e1 : upd H7 C (.lst (((spares xs).take (1 + m - xs.length)).map V.str)) b = some o := (upd_ne (ne_of_none e hC)).trans e
          exact (upd_ne (ne_of_none e1 hX2)).trans e1
        have hX8 : upd (upd H7 C (.lst (((spares xs).take (1 + m - xs.length)).map V.str))) X2 (.lst (al.map V.str)) X2 = some (.lst (al.map V.str)) := upd_same
        generalize upd (upd H7 C (.lst (((spares xs).take (1 + m - xs.length)).map V.str))) X2 (.lst (al.map V.str)) = H8 at S8 hX8
        refine ⟨Nat.zero_le _, fun L hL => ?_⟩
        have s8 : StAt K H8 st scr ns := (s4.same S47).same S8
        have B8 : But st H H8 := fun b o n e => S8 b o (S47 b o (B4 b o n e))
        have SL : Same H8 (upd H8 L (.lst [])) := fun b o e => (upd_ne (ne_of_none e hL)).trans e
        have apL := s8.apart hL
        obtain ⟨kvs8, hk8⟩ := s8.dic
        have nLst : L ≠ st := fun z => by rw [z, hk8] at hL; cases hL
        have nXst : X2 ≠ st := ne_of hX8 hk8 (by intro z; cases z)
        have nLX : L ≠ X2 := fun z => by rw [z, hX8] at hL; cases hL
        refine ⟨_, rfl, X2, rfl, ⟨_, SqL.of (SL _ _ hX8)⟩, for_list (K := K) (a := X2) (xs := al.map V.str) (DI K st scr ns (1 + (m : Int)) X2 S L H al)
          ⟨[], [], none, rfl, fun b o n e => SL b o (B8 b o n e), s8.same SL, SL _ _ hX8, upd_same, .nil, rfl, fun q hq => by cases hq⟩ (fun i σ H9 _ I => ?_) ?_ ?_⟩
        · obtain ⟨_, _, _, _, _, _, hX9, _⟩ := I.ex
          exact SqL.of hX9
        · rintro i x σ H9 hx ⟨acc, ps, v6, rfl, B9, s9, hX9, hL9, pr, eacc, hq⟩
          obtain ⟨y, ey, rfl⟩ : ∃ y, al[i]? = some y ∧ x = V.str y := by
            rw [List.getElem?_map] at hx
            cases e : al[i]? with
            | none => rw [e] at hx; cases hx
            | some n => rw [e] at hx; exact ⟨n, rfl, (Option.some.inj hx).symm⟩
          have hi : i < al.length := (List.getElem?_eq_some_iff.mp ey).1
          obtain ⟨kvs9, hk9⟩ := s9.dic
          refine ⟨_, rfl, .inl ⟨rfl, _, SqL.of hL9⟩, _, rfl, _, rfl, _, _, rfl, rfl, ⟨by decide, by decide, by decide⟩, _, _, rfl, rfl, (by show 2 ≤ sizeLine; decide), fun A2 hA2 => ?_⟩
          have nA2 : A2 ≠ st := fun z => by rw [z, hk9] at hA2; cases hA2
          have SA2 : Same H9 (upd H9 A2 (.lst [.int 3, .int ((10 : Int) ^ (12 : Int).toNat + 1)])) := fun b o e => (upd_ne (ne_of_none e hA2)).trans e
          refine ⟨_, rfl, st, scr, ns, 2, rfl, s9.same SA2, by decide, by decide, fun r H10 b10 s10 r0 r1 => ?_⟩
          have hA10 : H10 A2 = some (.lst [.int 3, .int ((10 : Int) ^ (12 : Int).toNat + 1)]) := b10 _ _ nA2 upd_same
          obtain ⟨v, hv, v1, v2⟩ : ∃ v : Int, atI [V.int 3, .int ((10 : Int) ^ (12 : Int).toNat + 1)] r = some (V.int v) ∧ 1 ≤ v ∧ v ≤ 10 ^ 12 + 1 := by
            have h3 : r = 0 ∨ r = 1 := by omega
            rcases h3 with rfl | rfl
            · exact ⟨3, rfl, by decide, by decide⟩
            · exact ⟨(10 : Int) ^ (12 : Int).toNat + 1, rfl, by decide, by decide⟩
          refine ⟨A2, _, _, _, rfl, rfl, SqL.of hA10, hv, st, scr, ns, v, rfl, s10, v1, by omega, fun z H11 b11 s11 z0 z1 => ⟨(by show 2 ≤ sizeLine; decide), fun tp htp => ?_⟩⟩
          have b9 : But st H9 H11 := fun b o n e => b11 b o n (b10 b o n (SA2 b o e))
          have ST : Same H11 (upd H11 tp (.tup [.str y, .int z])) := fun b o e => (upd_ne (ne_of_none e htp)).trans e
          have hL11 := b9 _ _ nLst hL9
          have hL12 := ST _ _ hL11
          have npr : ∀ {p : Addr} {q : Str × Int}, PrAt H9 p q → PrAt H11 p q := fun {p q} z => b9 _ _ (ne_of z hk9 (by intro y; cases y)) z
          refine ⟨L, _, _, rfl, rfl, hL12, ?_, acc ++ [(y, z)], ps ++ [tp], _, rfl, ?_, (s11.same ST).set hL12 apL, ?_, ?_, ?_, ?_, ?_⟩
          · have e := congrArg List.length eacc
            rw [List.length_map, List.length_take] at e
            rw [List.length_map, Paired.length pr, sizeLine_eq]
            omega
          · intro b o n e
            rw [upd_ne (ne_of_none (B8 b o n e) hL)]
            exact ST b o (b9 b o n (B9 b o n e))
          · rw [upd_ne nLX.symm]
            exact ST _ _ (b9 _ _ nXst hX9)
          · rw [upd_same, List.map_append]
            rfl
          · exact paired_app (paired_mono pr fun p q z => PrAt.set (ST _ _ (npr z)) hL12) (.cons (PrAt.set (q := (y, z)) upd_same hL12) .nil)
          · rw [List.map_append, eacc, List.take_add_one, ey]
            rfl
          · intro q hq2
            rcases List.mem_append.mp hq2 with e | e
            · exact hq q e
            · rw [List.mem_singleton.mp e]
              exact ⟨z0, by show z ≤ 10 ^ 12; omega⟩
        · rintro σ H9 ⟨acc, ps, v6, rfl, B9, s9, hX9, hL9, pr, eacc, hq⟩
          rw [List.length_map, List.take_length] at eacc
          have hA : Acc acc := by
            have e := congrArg List.length eacc
            rw [List.length_map] at e
            refine ⟨fun p hp => ⟨?_, hq p hp⟩, by rw [eacc]; exact nall, by omega, by omega⟩
            exact mall _ (by rw [← eacc]; exact List.mem_map.mpr ⟨p, hp, rfl⟩)
          refine ⟨_, rfl, L, ps, accK acc, rfl, SqL.of hL9, paired_pairs pr, fun a hna => ?_⟩
          have em : mergeK [] (accK acc) = accK acc := by
            have e := merge_acc acc [] hA.2.1
            exact e
          rw [em]
          have SE : Same H9 (upd H9 a (.dK (accK acc))) := fun b o e => (upd_ne (ne_of_none e hna)).trans e
          refine k acc _ a (fun b o n e => SE b o (B9 b o n e)) (s9.same SE) ?_ upd_same hA
          cases e : H a with
          | none => rfl
          | some o =>
            by_cases z : a = st
            · obtain ⟨kvs9, hk9⟩ := s9.dic
              rw [z, hk9] at hna
              cases hna
            · rw [B9 a o z e] at hna
              cases hna
end
end K78
/-! K78Q: the accounts with one thing otherwise. -/
namespace K78
open PySem PySem.Spec PyProof.Rows L2 TL LamX NdefX
/-! ### accounts changed -/
def putA (ps : List (Str × Int)) (n : Str) (x : Int) : List (Str × Int) := if n ∈ ps.map (·.1) then ps.map (fun p => if p.1 = n then (p.1, x) else p) else ps ++ [(n, x)]
theorem any_acc (ps : List (Str × Int)) (n : Str) : ((accK ps).any fun kv => decide (kv.1 = Sum.inr n)) = decide (n ∈ ps.map (·.1)) := by
  induction ps with
  | nil => simp [accK]
  | cons p r ih =>
    show (decide ((Sum.inr p.1 : L2.Key) = Sum.inr n) || (accK r).any _) = _
    rw [ih]
    by_cases e : p.1 = n
    · simp [e]
    · have e2 : ¬ n = p.1 := fun z => e z.symm
      have e3 : ¬ (Sum.inr p.1 : L2.Key) = Sum.inr n := fun z => e (Sum.inr.inj z)
      simp [e2, e3]
theorem putK_acc (ps : List (Str × Int)) (n : Str) (x : Int) : putK (accK ps) (Sum.inr n) (V.int x) = accK (putA ps n x) := by
  unfold putK putA
  rw [any_acc]
  by_cases h : n ∈ ps.map (·.1)
  · rw [decide_eq_true h, if_pos rfl, if_pos h]
    unfold accK
    rw [List.map_map, List.map_map]
    refine List.map_congr_left fun p _ => ?_
    show (if (Sum.inr p.1 : L2.Key) = Sum.inr n then ((Sum.inr p.1 : L2.Key), V.int x) else (Sum.inr p.1, V.int p.2)) = _
    by_cases e : p.1 = n
    · rw [if_pos (congrArg Sum.inr e)]
      simp [e]
    · rw [if_neg (fun z => e (Sum.inr.inj z))]
      simp [e]
  · rw [decide_eq_false h, if_neg (by simp), if_neg h]
    unfold accK
    rw [List.map_append] <;> rfl
theorem look_put (ps : List (Str × Int)) (n : Str) (x : Int) (m : Str) : (putA ps n x).lookup m = if m = n then some x else ps.lookup m := by
  have h := accK_val (putA ps n x) m
  rw [← putK_acc, valV_put, accK_val] at h
  have inj : ∀ a b : Option Int, a.map V.int = b.map V.int → a = b := fun a b e => by
    cases a <;> cases b <;> simp_all
  by_cases e : m = n
  · subst e
    rw [if_pos rfl] at h ⊢
    exact (inj _ (some x) h.symm)
  · rw [if_neg (fun z => e (Sum.inr.inj z))] at h
    rw [if_neg e]
    exact (inj _ _ h.symm)
theorem putA_old {ps : List (Str × Int)} {n : Str} {x : Int} (A : Acc ps) (h : n ∈ ps.map (·.1)) (h0 : 0 ≤ x) (h1 : x ≤ 10 ^ 12) : Acc (putA ps n x) ∧ (putA ps n x).map (·.1) = ps.map (·.1) := by
  have e : (putA ps n x).map (·.1) = ps.map (·.1) := by
    unfold putA
    rw [if_pos h, List.map_map]
    refine List.map_congr_left fun p _ => ?_
    show (if p.1 = n then (p.1, x) else p).1 = p.1
    by_cases q : p.1 = n
    · rw [if_pos q]
    · rw [if_neg q]
  have l : (putA ps n x).length = ps.length := by
    have q := congrArg List.length e
    rw [List.length_map, List.length_map] at q
    exact q
  refine ⟨⟨fun p hp => ?_, by rw [e]; exact A.2.1, by rw [l]; exact A.2.2.1, by rw [l]; exact A.2.2.2⟩, e⟩
  unfold putA at hp
  rw [if_pos h] at hp
  obtain ⟨q, hq, eq⟩ := List.mem_map.mp hp
  have Aq := A.1 q hq
  by_cases z : q.1 = n
  · rw [if_pos z] at eq
    rw [← eq]
    exact ⟨Aq.1, h0, h1⟩
  · rw [if_neg z] at eq
    rw [← eq]
    exact Aq
theorem putA_new {ps : List (Str × Int)} {n : Str} {x : Int} (A : Acc ps) (h : n ∉ ps.map (·.1)) (hn : Nm n) (h0 : 0 ≤ x) (h1 : x ≤ 10 ^ 12) (hl : ps.length < 64) : Acc (putA ps n x) := by
  unfold putA
  rw [if_neg h]
  refine ⟨fun p hp => ?_, ?_, by rw [List.length_append]; have := A.2.2.1; omega, by rw [List.length_append, List.length_singleton]; omega⟩
  · rcases List.mem_append.mp hp with e | e
    · exact A.1 p e
    · rw [List.mem_singleton.mp e]
      exact ⟨hn, h0, h1⟩
  · rw [List.map_append]
    exact nd_snoc A.2.1 h
def dropA (ps : List (Str × Int)) (n : Str) : List (Str × Int) := ps.filter fun p => !decide (p.1 = n)
theorem dropK_acc : ∀ (ps : List (Str × Int)) (n : Str), dropK (accK ps) (Sum.inr n) = accK (dropA ps n)
  | [], _ => rfl
  | (k, x) :: r, n => by
    show dropK ((Sum.inr k, V.int x) :: accK r) (Sum.inr n) = _
    by_cases e : k = n
    · subst e
      rw [dropK_pos rfl, dropK_acc r k]
      unfold dropA
      rw [List.filter_cons_of_neg (by simp)]
    · rw [dropK_neg (fun z => e (Sum.inr.inj z)), dropK_acc r n]
      unfold dropA
      rw [List.filter_cons_of_pos (by simp [e])]
      rfl
theorem dropA_acc {ps : List (Str × Int)} {n : Str} (A : Acc ps) (h : dropA ps n ≠ []) : Acc (dropA ps n) := by
  refine ⟨fun p hp => A.1 p (List.mem_filter.mp hp).1, ?_, List.length_pos_iff.mpr h, Nat.le_trans (List.length_filter_le _ _) A.2.2.2⟩
  exact A.2.1.sublist (List.filter_sublist.map _)
theorem dropA_look (ps : List (Str × Int)) (n : Str) : (dropA ps n).lookup n = none := look_none fun h => by
  obtain ⟨p, hp, e⟩ := List.mem_map.mp h
  have q := (List.mem_filter.mp hp).2
  simp [e] at q
theorem look_num {ps : List (Str × Int)} {n : Str} (h : n ∈ ps.map (·.1)) : ps.lookup n = some (num ps n) := by
  obtain ⟨x, h1, _⟩ := look_mem h
  unfold num
  rw [h1] <;> rfl
/-- other accounts, at a place that was new -/
def OthOk (H0 : Hp) (ps : List (Str × Int)) (H : Hp) (o : Addr) : Prop := H0 o = none ∧ ∃ qs, AccAt H o qs ∧ Acc qs ∧ ∃ n, qs.lookup n ≠ ps.lookup n
theorem strOk_nm {z : Str} (h : Nm z) : PyData.strOk z = true := by
  unfold PyData.strOk
  rw [← Array.all_toList, List.all_eq_true]
  intro c hc
  have q := h.2.2 c hc
  exact decide_eq_true (by omega)
theorem shaped_strs (l : List Str) (hl : ∀ y ∈ l, Nm y) : SeqAt.shaped (.list (l.map PyData.str)) = true := by
  have h1 : ∀ l : List Str, (∀ y ∈ l, Nm y) → PyData.canLayAll0 (l.map PyData.str) = true := fun l => by
    induction l with
    | nil => exact fun _ => rfl
    | cons a r ih =>
      intro h
      show (PyData.strOk a && PyData.canLayAll0 (r.map PyData.str)) = true
      rw [ih fun y hy => h y (List.mem_cons_of_mem _ hy), strOk_nm (h a List.mem_cons_self)]
      rfl
  have h2 : ∀ l : List Str, PyData.depthAll (l.map PyData.str) = 0 := fun l => by
    induction l with
    | nil => rfl
    | cons a r ih =>
      show max (PyData.depth (.str a)) (PyData.depthAll (r.map PyData.str)) = 0
      rw [ih]
      rfl
  show (PyData.canLayAll0 (l.map PyData.str) && decide (PyData.depthAll (l.map PyData.str) + 1 ≤ 64)) = true
  rw [h1 l hl, h2]
  rfl
theorem dp_strs {K : PySem.W.Frag} {H : Hp} : ∀ l : List Str, DpAll K H (l.map V.str) (l.map PyData.str)
  | [] => .nil
  | a :: r => .cons (.str a) (dp_strs r)
theorem eqv_empty (l : List Str) : PyData.eqv (.list (l.map PyData.str)) (.list []) = l.isEmpty := by
  cases l with
  | nil => rfl
  | cons a r => rfl
end K78
/-! K78S: the accounts with one thing otherwise, the walk. -/
namespace K78
open PySem PySem.Spec PyProof.Rows L2 TL LamX NdefX
/-- what stands while the others are made: H0 the heap at first, L the list that holds them -/
structure OS (K : PySem.W.Frag) (st scr : Addr) (ns : List Int) (a : Addr) (ps : List (Str × Int)) (X : Addr) (ys : List Str) (H0 : Hp) (L : Addr) (os : List Addr) (H : Hp) : Prop where
  but : But st H0 H
  sta : StAt K H st scr ns
  row : H X = some (.lst (ys.map V.str))
  acc : AccAt H a ps
  lst : H L = some (.lst (os.map V.ref))
  oth : ∀ o ∈ os, OthOk H0 ps H o
  ap : Apart K scr ns L
  nL : H0 L = none
  nX : X ≠ L
section
variable {K : PySem.W.Frag} {st scr a X L D : Addr} {ns : List Int} {ps : List (Str × Int)} {ys : List Str} {H0 H H' : Hp} {os : List Addr}
theorem OthOk.same {o : Addr} (h : OthOk H0 ps H o) (b : Same H H') : OthOk H0 ps H' o := by
  obtain ⟨h1, qs, h2, r⟩ := h
  exact ⟨h1, qs, b _ _ h2, r⟩
theorem OS.same (s : OS K st scr ns a ps X ys H0 L os H) (b : Same H H') : OS K st scr ns a ps X ys H0 L os H' :=
  ⟨fun c o n e => b _ _ (s.but c o n e), s.sta.same b, b _ _ s.row, b _ _ s.acc, b _ _ s.lst, fun o ho => (s.oth o ho).same b, s.ap, s.nL, s.nX⟩
/-- a new address was free at first, too -/
theorem OS.free (s : OS K st scr ns a ps X ys H0 L os H) (h : H D = none) : H0 D = none := by
  cases e : H0 D with
  | none => rfl
  | some o =>
    by_cases z : D = st
    · obtain ⟨kvs, hk⟩ := s.sta.dic
      rw [z, hk] at h
      cases h
    · rw [s.but D o z e] at h
      cases h
/-- one more -/
theorem OS.push (s : OS K st scr ns a ps X ys H0 L os H) (h : OthOk H0 ps H D) : OS K st scr ns a ps X ys H0 L (os ++ [D]) (upd H L (.lst (os.map V.ref ++ [.ref D]))) := by
  have nd : ∀ {b : Addr} {kvs : List (L2.Key × V)}, H b = some (.dK kvs) → b ≠ L := fun e => ne_of e s.lst (by intro z; cases z)
  refine ⟨fun b o n e => ?_, s.sta.set s.lst s.ap, (upd_ne s.nX).trans s.row, (upd_ne (nd s.acc)).trans s.acc, ?_, fun o ho => ?_, s.ap, s.nL, s.nX⟩
  · rw [upd_ne (ne_of_none e s.nL)]
    exact s.but b o n e
  · rw [upd_same, List.map_append]
    rfl
  · have q : OthOk H0 ps H o := by
      rcases List.mem_append.mp ho with e | e
      · exact s.oth o e
      · rw [List.mem_singleton.mp e]
        exact h
    obtain ⟨h1, qs, h2, r⟩ := q
    exact ⟨h1, qs, (upd_ne (nd h2)).trans h2, r⟩
/-- a dict that is none of them is changed -/
theorem OS.other {kvs : List (L2.Key × V)} {o' : HO} (s : OS K st scr ns a ps X ys H0 L os H) (h : H D = some (.dK kvs)) (h0 : H0 D = none) (n1 : D ∉ os) (n2 : D ≠ a) (n3 : D ≠ st) : OS K st scr ns a ps X ys H0 L os (upd H D o') := by
  have nl : ∀ {b : Addr} {xs : List V}, H b = some (.lst xs) → b ≠ D := fun e => ne_of e h (by intro z; cases z)
  have B : But D H (upd H D o') := But.upd
  refine ⟨fun b o n e => ?_, s.sta.but h n3.symm B, (upd_ne (nl s.row)).trans s.row, (upd_ne n2.symm).trans s.acc, (upd_ne (nl s.lst)).trans s.lst, fun o ho => ?_, s.ap, s.nL, s.nX⟩
  · rw [upd_ne (ne_of_none e h0)]
    exact s.but b o n e
  · obtain ⟨h1, qs, h2, r⟩ := s.oth o ho
    exact ⟨h1, qs, (upd_ne (fun z => n1 (by rw [← z]; exact ho))).trans h2, r⟩
end
section
variable {K : PySem.W.Frag} {st scr a X L L2 : Addr} {ns : List Int} {ps : List (Str × Int)} {ys : List Str} {H0 H : Hp} {os os2 : List Addr}
/-- another list takes its place -/
theorem OS.move (s : OS K st scr ns a ps X ys H0 L os H) (hL : H L2 = none) (ho : ∀ o ∈ os2, OthOk H0 ps H o) : OS K st scr ns a ps X ys H0 L2 os2 (upd H L2 (.lst (os2.map V.ref))) := by
  have S : Same H (upd H L2 (.lst (os2.map V.ref))) := fun b o e => (upd_ne (ne_of_none e hL)).trans e
  exact ⟨fun c o n e => S _ _ (s.but c o n e), s.sta.same S, S _ _ s.row, S _ _ s.acc, upd_same, fun o h => (ho o h).same S, s.sta.apart hL, s.free hL, ne_of_none s.row hL⟩
end
def spOthers (K : PySem.W.Frag) : Sp := fun vs H Q _ => ∃ (st scr a : Addr) (ns : List Int) (ps : List (Str × Int)), vs = [.ref st, .ref a] ∧ StAt K H st scr ns ∧ AccAt H a ps ∧ Acc ps ∧ a ≠ st ∧
  ∀ (H' : Hp) (l : Addr) (os : List Addr), But st H H' → StAt K H' st scr ns → H' l = some (.lst (os.map V.ref)) → os.length ≤ 4 → (∀ o ∈ os, OthOk H ps H' o) → Q (.ref l) H'
section
variable {P : Program} {w : World} {K : PySem.W.Frag} {mg : Str → Option Value} {base : Heap}
abbrev nO : List Str := ["_law_state", "_law_accounts_here", "_law_names_here", "_law_name", "_law_found", "_law_one", "_law_fresh_here", "_law_other", "_law_word", "_law_sign"]
theorem scOthers : FnScope nO ["_law_state", "_law_accounts_here"] (defScope sOthers) := ⟨rfl, rfl, rfl, by decide +kernel, rfl, by decide +kernel, by decide +kernel⟩
theorem ok_others {f f1 : Addr} {fd fd1 : FuncData} (F : FnP K "_law_others" "_law_others" sOthers f fd) (tx : TX K mg) (G1 : Has P w K mg base 2 "_law_pick" ["_law_state", "_law_some"] (spPick K) f1 fd1) : FnOk P w K mg base CX0 3 f fd ["_law_state", "_law_accounts_here"] (spOthers K) := by
  refine okN F scOthers (fun vs H Q E h => ?_) (fun cdv A outer s H vs Q E hr h => ?_)
  · obtain ⟨st, scr, a, ns, ps, rfl, _⟩ := h
    rfl
  · obtain ⟨st, scr, a, ns, ps, rfl, hst, ha, hA, nast, k⟩ := h
    have hu := hu_of hr
    have ha0 : H a = some (.dK (accK ps)) := ha
    refine ⟨_, pss_cons (ps_set (i := 2) scOthers.nd rfl (Or.inr rfl) (pe_callB (call_sortedT (by rfl)) (by rfl) tx.sorted (by decide +kernel) (pa_cons (pv 1) pa_nil)))
      (pss_cons (ps_asg (pe_tup (pa_cons (pe_call G1.ok hr (by rfl) G1.gm G1.kp G1.bd .nil pass0 (pa_cons (pv 0) (pa_cons (pv 2) pa_nil))) (pa_cons (pe_lst pa_nil) pa_nil)))
        (pg_tup rfl (pgs_cons (pg_name (i := 3) scOthers.nd rfl (Or.inr rfl)) (pgs_cons (pg_name (i := 4) scOthers.nd rfl (Or.inl rfl)) pgs_nil))))
      (pss_cons (ps_set (i := 5) scOthers.nd rfl (Or.inl rfl) (pe_callTy call_dictD (by rfl) tx.dict (by decide +kernel) (pa_cons (pv 1) pa_nil)))
      (C8.pss_cut (ps_dput hu (pv 5) (pv 3) (pe_ifExp (pt_cmpR op_lt (pe_dget hu (pv 1) (pv 3) (fun _ _ => rfl)) (pe_op op_pow pe_int pe_int) (nomark _)) (pe_op op_add (pe_dget hu (pv 1) (pv 3) (fun _ _ => rfl)) pe_int) pe_int) rfl)
      (pss_cons (ps_expr (pe_bm PySem.F.plainAttrs_list PySem.F.slot_list_append PySem.F.type_list_append mt_append (pv 4) (pa_cons (pv 5) pa_nil)))
      (pss_cons (ps_set (i := 5) scOthers.nd rfl (Or.inl rfl) (pe_callTy call_dictD (by rfl) tx.dict (by decide +kernel) (pa_cons (pv 1) pa_nil)))
      (pss_cons (ps_expr (pe_dpop1 (pv 5) (pv 3) ⟨rfl, rfl, rfl, rfl⟩))
      (C8.pss_cut (ps_set (i := 4) scOthers.nd rfl (Or.inl rfl) (pe_op op_cat (pv 4) (pe_op op_rep (pe_lst (pa_cons (pv 5) pa_nil)) (pe_callTy call_int1 (by rfl) tx.int (by decide +kernel) (pa_cons (pe_cmpR (op_ne_empty hr.units0) (pv 5) pe_dnewK (nomark _)) pa_nil)))))
      (pss_cons (ps_set (i := 5) scOthers.nd rfl (Or.inl rfl) (pe_callTy call_dictD (by rfl) tx.dict (by decide +kernel) (pa_cons (pv 1) pa_nil)))
      (pss_cons (ps_setLc (i := 6) (own := [("_law_word", 8)]) (g := gName 8) (by rfl) scOthers.nd rfl rfl (sw_true rfl rfl rfl (by decide +kernel))
          (pi_list (pe_lc (own := [("_law_sign", 9)]) (g := gName 9) (tt := tYes) (by rfl) scOthers.nd (pi_str pe_str) (blkOk_by (own := [("_law_sign", 9)]) (N := nO) (sc := defScope sOthers) (by decide +kernel))
            (fun _ _ _ _ _ => pg_name (i := 9) scOthers.nd rfl (Or.inl rfl)) (fun _ _ _ _ _ => pts_nil) (fun _ _ _ _ _ => pe_op op_add_str (pe_slice sl_str (pv 3) po_none (po_some pe_int)) (pv 9))))
          (blkOk_by (own := [("_law_word", 8)]) (N := nO) (sc := defScope sOthers) (by decide +kernel)) (fun _ _ _ _ _ => pg_name (i := 8) scOthers.nd rfl (Or.inl rfl)) (fun _ _ _ _ _ => pts_one (pt_cmpR (r := rIn K true) op_notIn_seq (pv 8) (pv 2) rfl))
          (fun _ _ _ _ _ => pv 8))
      (C8.pss_cut (ps_if (PW.pt (pw_and (pt_cmpR (op_neD hr.units) (pv 6) (pe_lst pa_nil) (nomark _)) (pw_and1 (pt_cmpR op_lt (pe_callB call_len_seq (by rfl) tx.len PySem.boot_len (pa_cons (pv 2) pa_nil)) pe_int (nomark _)))))
        (pss_cons (ps_dput hu (pv 5) (pe_ix ix_list (pv 6) pe_int (fun _ _ => rfl)) pe_int rfl) (pss_one (ps_expr (pe_bm PySem.F.plainAttrs_list PySem.F.slot_list_append PySem.F.type_list_append mt_append (pv 4) (pa_cons (pv 5) pa_nil))))) pss_nil)
      (pss_cons (ps_for PassesOwn.never rfl (pi_list (pv 2)) (pg_name (i := 7) scOthers.nd rfl (Or.inl rfl))
        (pss_one (ps_if (pt_cmpR op_ne (pe_dget hu (pv 1) (pv 7) (fun _ _ => rfl)) (pe_dget hu (pv 1) (pv 3) (fun _ _ => rfl)) (nomark _))
          (pss_cons (ps_set (i := 5) scOthers.nd rfl (Or.inl rfl) (pe_callTy call_dictD (by rfl) tx.dict (by decide +kernel) (pa_cons (pv 1) pa_nil)))
          (pss_cons (ps_asg (pe_tup (pa_cons (pe_dget hu (pv 1) (pv 3) (fun _ _ => rfl)) (pa_cons (pe_dget hu (pv 1) (pv 7) (fun _ _ => rfl)) pa_nil))) (pg_tup rfl (pgs_cons (pg_sub (pv 5) (pv 7) (set_dict hu)) (pgs_cons (pg_sub (pv 5) (pv 3) (set_dict hu)) pgs_nil))))
          (pss_one (ps_expr (pe_bm PySem.F.plainAttrs_list PySem.F.slot_list_append PySem.F.type_list_append mt_append (pv 4) (pa_cons (pv 5) pa_nil)))))) pss_nil)))
      (pss_one (ps_ret (pe_slice sl_list (pv 4) po_none (po_some pe_int))))))))))))))), ?_⟩
    -- names_here = sorted(accounts)
    refine ⟨_, rfl, a, accK ps, ps.map (·.1), rfl, Rd.of ha0, accK_keys ps, fun ys X hperm hX => ?_⟩
    have S1 : Same H (upd H X (.lst (ys.map V.str))) := fun b o e => (upd_ne (ne_of_none e hX)).trans e
    have ylen : ys.length = ps.length := by rw [hperm.length_eq, List.length_map]
    have hl1 := hA.2.2.1
    have hl64 := hA.2.2.2
    obtain ⟨kvs0, hk0⟩ := hst.dic
    have nXst : X ≠ st := fun z => by rw [z, hk0] at hX; cases hX
    -- name, found = pick(..), []
    refine ⟨_, rfl, _, rfl, st, scr, ns, hst.same S1, .inl ⟨X, ys, rfl, SqL.of upd_same, by omega, by omega, fun n H2 hn b2 s2 => ⟨Nat.zero_le _, fun L hL => ⟨(by show 2 ≤ sizeLine; decide), fun tp htp => ?_⟩⟩⟩⟩
    have hn' : n ∈ ps.map (·.1) := hperm.mem_iff.mp hn
    have nmn : Nm n := hA.nm hn'
    obtain ⟨hq0, hq1⟩ := hA.num hn'
    refine ⟨tp, _, rfl, SqT.of upd_same, rfl, _, _, rfl, _, _, rfl, rfl, ?_⟩
    have O3 : OS K st scr ns a ps X ys H L [] (upd (upd H2 L (.lst [])) tp (.tup [.str n, .ref L])) := by
      have SL : Same H2 (upd H2 L (.lst [])) := fun b o e => (upd_ne (ne_of_none e hL)).trans e
      have ST : Same (upd H2 L (.lst [])) (upd (upd H2 L (.lst [])) tp (.tup [.str n, .ref L])) := fun b o e => (upd_ne (ne_of_none e htp)).trans e
      have B2 : But st H H2 := fun b o n e => b2 b o n (S1 b o e)
      have hX2 : H2 X = some (.lst (ys.map V.str)) := b2 _ _ nXst upd_same
      obtain ⟨kvs2, hk2⟩ := s2.dic
      refine ⟨fun b o n e => ST _ _ (SL _ _ (B2 b o n e)), s2.same (SL.trans ST), ST _ _ (SL _ _ hX2), ST _ _ (SL _ _ (B2 _ _ nast ha0)), ST _ _ upd_same, (fun o ho => by cases ho), s2.apart hL, ?_, ne_of_none hX2 hL⟩
      cases e : H L with
      | none => rfl
      | some o =>
        by_cases z : L = st
        · rw [z, hk2] at hL
          cases hL
        · rw [B2 L o z e] at hL
          cases hL
    generalize upd (upd H2 L (.lst [])) tp (.tup [.str n, .ref L]) = H3 at O3
    -- one = dict(accounts)
    refine ⟨_, rfl, a, accK ps, rfl, Rd.of O3.acc, fun D1 hD1 => ?_⟩
    have SD1 : ∀ o, Same H3 (upd H3 D1 o) := fun o b u e => (upd_ne (ne_of_none e hD1)).trans e
    have dgn : ∀ H' m, AccAt H' a ps → m ∈ ps.map (·.1) → DGet H' a (.str m) (some (.int (num ps m))) := fun H' m h hm => by
      rw [← (acc_at hm).1]
      exact DGet.k (k := Sum.inr m) h
    have szA : ∀ qs : List (Str × Int), qs.length ≤ 64 → (accK qs).length < sizeLine := fun qs h => by rw [accK_len, sizeLine_eq]; omega
    -- one[name] = ..
    refine ⟨fun σ' H' => ∃ y : Int, 0 ≤ y ∧ y ≤ 10 ^ 12 ∧ y ≠ num ps n ∧ σ' = [some (.ref st), some (.ref a), some (.ref X), some (.str n), some (.ref L), some (.ref D1), none, none, none, none] ∧ H' = upd H3 D1 (.dK (accK (putA ps n y))), ?_, ?_⟩
    · refine ⟨_, rfl, _, rfl, a, _, rfl, dgn _ n (SD1 _ _ _ O3.acc) hn', _, _, rfl, rfl, ⟨by decide, by decide, by decide⟩, _, _, rfl, rfl, _, rfl, ?_⟩
      have fin : ∀ y : Int, 0 ≤ y → y ≤ 10 ^ 12 → y ≠ num ps n → ∃ y' : Int, 0 ≤ y' ∧ y' ≤ 10 ^ 12 ∧ y' ≠ num ps n ∧ ([some (.ref st), some (.ref a), some (.ref X), some (.str n), some (.ref L), some (.ref D1), none, none, none, none] : L2.St) = [some (.ref st), some (.ref a), some (.ref X), some (.str n), some (.ref L), some (.ref D1), none, none, none, none] ∧
          upd (upd H3 D1 (.dK (accK ps))) D1 (.dK (putK (accK ps) (Sum.inr n) (V.int y))) = upd H3 D1 (.dK (accK (putA ps n y'))) := fun y h1 h2 h3 => ⟨y, h1, h2, h3, rfl, by rw [upd_upd, putK_acc]⟩
      refine ite2 (fun hlt => ?_) (fun hge => ?_)
      · have hlt' : num ps n < (10 : Int) ^ (12 : Int).toNat := of_decide_eq_true hlt
        have e12 : (10 : Int) ^ (12 : Int).toNat = 10 ^ 12 := rfl
        rw [e12] at hlt'
        refine ⟨_, rfl, _, rfl, a, _, rfl, dgn _ n (SD1 _ _ _ O3.acc) hn', _, _, rfl, rfl, ?_⟩
        exact ⟨_, rfl, _, rfl, D1, _, rfl, DPut.k (k := Sum.inr n) upd_same (szA _ hl64), fin _ (by omega) (by omega) (by omega)⟩
      · have hge' : ¬ num ps n < (10 : Int) ^ (12 : Int).toNat := fun z => hge (decide_eq_true z)
        have e12 : (10 : Int) ^ (12 : Int).toNat = 10 ^ 12 := rfl
        rw [e12] at hge'
        exact ⟨_, rfl, _, rfl, D1, _, rfl, DPut.k (k := Sum.inr n) upd_same (szA _ hl64), fin 5 (by decide) (by decide) (by omega)⟩
    rintro _ _ ⟨y, y0, y1, y2, rfl, rfl⟩
    have O5 := O3.same (SD1 (.dK (accK (putA ps n y))))
    have oth1 : OthOk H ps (upd H3 D1 (.dK (accK (putA ps n y)))) D1 := ⟨O3.free hD1, putA ps n y, upd_same, (putA_old hA hn' y0 y1).1, n, by rw [look_put, if_pos rfl, look_num hn']; exact fun z => y2 (Option.some.inj z)⟩
    generalize upd H3 D1 (.dK (accK (putA ps n y))) = H5 at O5 oth1
    -- found.append(one)
    refine ⟨_, rfl, .inl ⟨rfl, _, SqL.of O5.lst⟩, _, rfl, L, _, _, rfl, rfl, O5.lst, (by show 0 < sizeLine; decide), ?_⟩
    have O6 := O5.push oth1
    generalize upd H5 L (.lst ([].map V.ref ++ [.ref D1])) = H6 at O6
    -- one = dict(accounts); one.pop(name)
    refine ⟨_, rfl, a, accK ps, rfl, Rd.of O6.acc, fun D2 hD2 => ?_⟩
    have SD2 : ∀ o, Same H6 (upd H6 D2 o) := fun o b u e => (upd_ne (ne_of_none e hD2)).trans e
    refine ⟨_, rfl, D2, rfl, .inl ⟨_, .inl upd_same⟩, _, rfl, accK ps, Sum.inr n, _, upd_same, rfl, (acc_at hn').1, ?_⟩
    rw [upd_upd, dropK_acc]
    have O8 := O6.same (SD2 (.dK (accK (dropA ps n))))
    have f2 := O6.free hD2
    have hD28 : upd H6 D2 (.dK (accK (dropA ps n))) D2 = some (.dK (accK (dropA ps n))) := upd_same
    generalize upd H6 D2 (.dK (accK (dropA ps n))) = H8 at O8 hD28
    -- found = found + [one] * int(one != {})
    refine ⟨fun σ' H' => ∃ (L2 : Addr) (os : List Addr), os.length ≤ 2 ∧ σ' = [some (.ref st), some (.ref a), some (.ref X), some (.str n), some (.ref L2), some (.ref D2), none, none, none, none] ∧ OS K st scr ns a ps X ys H L2 os H', ?_, ?_⟩
    · refine ⟨_, rfl, _, rfl, (by show 1 ≤ sizeLine; decide), fun W hW => ?_⟩
      have SW : Same H8 (upd H8 W (.lst [.ref D2])) := fun b o e => (upd_ne (ne_of_none e hW)).trans e
      refine ⟨_, rfl, fun Z hZ => ?_⟩
      have SZ : Same (upd H8 W (.lst [.ref D2])) (upd (upd H8 W (.lst [.ref D2])) Z (.dK [])) := fun b o e => (upd_ne (ne_of_none e hZ)).trans e
      refine ⟨D2, Z, accK (dropA ps n), rfl, rfl, SZ _ _ (SW _ _ hD28), upd_same, .inr ⟨_, rfl, ?_⟩⟩
      have O9 := O8.same (SW.trans SZ)
      have hW9 : upd (upd H8 W (.lst [.ref D2])) Z (.dK []) W = some (.lst [.ref D2]) := SZ _ _ upd_same
      have hD29 : upd (upd H8 W (.lst [.ref D2])) Z (.dK []) D2 = some (.dK (accK (dropA ps n))) := SZ _ _ (SW _ _ hD28)
      generalize upd (upd H8 W (.lst [.ref D2])) Z (.dK []) = H9 at O9 hW9 hD29
      have ee : (accK (dropA ps n)).isEmpty = (dropA ps n).isEmpty := by
        cases dropA ps n <;> rfl
      rw [ee]
      cases hdr : dropA ps n with
      | nil =>
        refine ⟨W, 0, _, rfl, rfl, hW9, by decide, by decide, (by show 1 * 0 ≤ sizeLine; decide), fun R hR => ?_⟩
        have SR : Same H9 (upd H9 R (.lst (List.replicate (0 : Int).toNat [V.ref D2]).flatten)) := fun b o e => (upd_ne (ne_of_none e hR)).trans e
        have O10 := O9.same SR
        refine ⟨L, R, _, _, rfl, rfl, O10.lst, upd_same, (by show 1 + 0 ≤ sizeLine; decide), fun L2 hL2 => ?_⟩
        exact ⟨L2, [D1], (by show 1 ≤ 2; decide), rfl, O10.move (os2 := [D1]) hL2 O10.oth⟩
      | cons q qs =>
        refine ⟨W, 1, _, rfl, rfl, hW9, by decide, by decide, (by show 1 * 1 ≤ sizeLine; decide), fun R hR => ?_⟩
        have SR : Same H9 (upd H9 R (.lst (List.replicate (1 : Int).toNat [V.ref D2]).flatten)) := fun b o e => (upd_ne (ne_of_none e hR)).trans e
        have O10 := O9.same SR
        have hD210 := SR _ _ hD29
        refine ⟨L, R, _, _, rfl, rfl, O10.lst, upd_same, (by show 1 + 1 ≤ sizeLine; decide), fun L2 hL2 => ?_⟩
        refine ⟨L2, [D1, D2], (by show 2 ≤ 2; decide), rfl, O10.move (os2 := [D1, D2]) hL2 fun o ho => ?_⟩
        rcases List.mem_cons.mp ho with e | e
        · exact O10.oth o (by rw [e]; exact List.mem_cons_self)
        · rw [List.mem_singleton.mp e]
          refine ⟨f2, dropA ps n, hD210, dropA_acc hA (by rw [hdr]; exact fun z => by cases z), n, ?_⟩
          rw [dropA_look, look_num hn']
          exact fun z => by cases z
    rintro _ H10 ⟨L2, os, hos, rfl, O10⟩
    -- one = dict(accounts)
    refine ⟨_, rfl, a, accK ps, rfl, Rd.of O10.acc, fun D3 hD3 => ?_⟩
    have f3 := O10.free hD3
    have n3os : D3 ∉ os := fun z => by
      obtain ⟨_, qs, h, _⟩ := O10.oth D3 z
      have h' : H10 D3 = some (.dK (accK qs)) := h
      rw [hD3] at h'
      cases h'
    have n3a : D3 ≠ a := fun z => by rw [z] at f3; rw [ha0] at f3; cases f3
    have n3st : D3 ≠ st := fun z => by rw [z] at f3; rw [hk0] at f3; cases f3
    have O11 := O10.same (H' := upd H10 D3 (.dK (accK ps))) (fun b u e => (upd_ne (ne_of_none e hD3)).trans e)
    have hD311 : upd H10 D3 (.dK (accK ps)) D3 = some (.dK (accK ps)) := upd_same
    generalize upd H10 D3 (.dK (accK ps)) = H11 at O11 hD311
    -- fresh_here
    refine ⟨lets, rfl, fun D hD => ?_⟩
    have SDD : Same H11 (upd H11 D (.lst [])) := fun b o e => (upd_ne (ne_of_none e hD)).trans e
    refine lc_it (walk_str (z := lets)) (fun i H' => Same H11 H' ∧ H' D = some (.lst ((((tl lets).take i).map (cut7 n)).map V.str))) ⟨SDD, upd_same⟩ (fun _ _ _ _ => trivial) (fun i x H5 H6 hi p y => ?_) (fun H5 p => ?_)
    · obtain ⟨rfl, c, hc, rfl⟩ := y
      have ec : (tl lets)[i]? = some c := by rw [← hc]; exact Array.getElem?_toList
      refine ⟨rfl, yes_of ?_⟩
      refine iteT ⟨_, rfl, _, rfl, n, rfl, ?_, _, rfl, cutS n none (some 7), sgn c, rfl, rfl, ?_, _, p.2, ?_, ?_, ?_⟩
      · rw [sizeLine_eq]
        have := nmn.2.1
        omega
      · have e2 : (cut7 n c).length = (cutS n none (some 7)).length + (sgn c).length := PySem.strLen_append _ _
        have e3 := (cut7_nm nmn (List.mem_of_getElem? ec)).2.1
        rw [sizeLine_eq]
        omega
      · rw [List.length_map, List.length_map, List.length_take, ← len_of_tl, lets_len, sizeLine_eq]
        omega
      · exact fun b o e => (upd_ne (ne_of_none e hD)).trans (p.1 b o e)
      · rw [upd_same, List.take_add_one, ec, List.map_append, List.map_append]
        rfl
    have p2 : H5 D = some (.lst (((tl lets).map (cut7 n)).map V.str)) := by
      have e : (tl lets).take lets.cps.size = tl lets := List.take_of_length_le (by rw [← len_of_tl]; exact Nat.le_refl _)
      have q := p.2
      rw [e] at q
      exact q
    have O12 := O11.same p.1
    have hD312 := p.1 _ _ hD311
    refine ⟨D, rfl, ⟨_, SqL.of p2⟩, fun S hS => ?_⟩
    refine lc_list (K := K) (a := D) (xs := ((tl lets).map (cut7 n)).map V.str) (fun i H' => Same H5 H' ∧ H' S = some (.lst (((((tl lets).map (cut7 n)).take i).filter (fun y => !decide (y ∈ ys))).map V.str)))
      ⟨fun b o e => (upd_ne (ne_of_none e hS)).trans e, upd_same⟩ (fun i H' _ p => SqL.of (p.1 _ _ p2)) (fun i x H7 hx p => ?_) (fun H7 p7 => ?_)
    · obtain ⟨y, ey, rfl⟩ : ∃ y, ((tl lets).map (cut7 n))[i]? = some y ∧ x = V.str y := by
        rw [List.getElem?_map] at hx
        cases e : ((tl lets).map (cut7 n))[i]? with
        | none => rw [e] at hx; cases hx
        | some n => rw [e] at hx; exact ⟨n, rfl, (Option.some.inj hx).symm⟩
      refine ⟨rfl, ?_⟩
      refine ⟨_, rfl, _, rfl, X, _, rfl, .inl (SqL.of (p.1 _ _ O12.row)), rfl, flat_strs ys, _, rfl, ?_⟩
      rw [inV_iff]
      by_cases hm : y ∈ ys
      · rw [decide_eq_true hm]
        refine iteF ⟨p.1, ?_⟩
        rw [p.2, List.take_add_one, ey, List.filter_append]
        simp [hm]
      · rw [decide_eq_false hm]
        refine iteT ⟨_, rfl, _, p.2, ?_, ?_, ?_⟩
        · rw [List.length_map, sizeLine_eq]
          have h1 := List.length_filter_le (fun y => !decide (y ∈ ys)) (((tl lets).map (cut7 n)).take i)
          rw [List.length_take, List.length_map, ← len_of_tl, lets_len] at h1
          omega
        · exact fun b o e => (upd_ne (ne_of_none e hS)).trans (p.1 b o e)
        · rw [upd_same, List.take_add_one, ey, List.filter_append]
          simp [hm]
    have hS7 : H7 S = some (.lst ((((tl lets).map (cut7 n)).filter (fun y => !decide (y ∈ ys))).map V.str)) := by
      have q := p7.2
      rw [List.length_map, List.take_length] at q
      exact q
    have O13 := O12.same p7.1
    have hD313 := p7.1 _ _ hD312
    have frm : ∀ y ∈ ((tl lets).map (cut7 n)).filter (fun y => !decide (y ∈ ys)), Nm y ∧ y ∉ ys := fun y hy => by
      obtain ⟨h1, h2⟩ := List.mem_filter.mp hy
      obtain ⟨c, hc, e⟩ := List.mem_map.mp h1
      refine ⟨by rw [← e]; exact cut7_nm nmn hc, fun z => ?_⟩
      simp [z] at h2
    generalize ((tl lets).map (cut7 n)).filter (fun y => !decide (y ∈ ys)) = fr at hS7 frm
    -- if fresh_here != [] and len(names_here) < 64
    refine ⟨fun σ' H' => ∃ (os2 : List Addr) (v5 v6 v7 : Option V), os2.length ≤ 3 ∧ σ' = [some (.ref st), some (.ref a), some (.ref X), some (.str n), some (.ref L2), v5, v6, v7, none, none] ∧ OS K st scr ns a ps X ys H L2 os2 H', ?_, ?_⟩
    · refine ⟨_, rfl, Nat.zero_le _, fun E hE => ?_⟩
      have SE : Same H7 (upd H7 E (.lst [])) := fun b o e => (upd_ne (ne_of_none e hE)).trans e
      have O14 := O13.same SE
      have hS8 := SE _ _ hS7
      have hD314 := SE _ _ hD313
      have hE8 : upd H7 E (.lst []) E = some (.lst []) := upd_same
      generalize upd H7 E (.lst []) = H8' at O14 hS8 hD314 hE8
      refine ⟨.list (fr.map PyData.str), .list [], .lst (SqL.of hS8) (dp_strs fr), .lst (SqL.of hE8) .nil, shaped_strs fr (fun y hy => (frm y hy).1), rfl, _, rfl, ?_⟩
      rw [eqv_empty]
      cases fr with
      | nil =>
        refine iteF (iteF ?_)
        exact ⟨os, _, _, _, by omega, rfl, O14⟩
      | cons y r =>
        refine iteT ⟨_, rfl, X, _, rfl, .inl (SqL.of O14.row), _, _, rfl, rfl, _, rfl, ?_⟩
        refine ite2 (fun hlt => ?_) (fun hge => ?_)
        · have hlt' : ys.length < 64 := by
            have z := of_decide_eq_true hlt
            rw [List.length_map] at z
            omega
          obtain ⟨nmy, nys⟩ := frm y List.mem_cons_self
          have nps : y ∉ ps.map (·.1) := fun z => nys (hperm.mem_iff.mpr z)
          refine ⟨_, rfl, _, rfl, S, _, _, V.str y, rfl, rfl, SqL.of hS8, atI_nat (j := 0) rfl, D3, _, rfl, DPut.k (k := Sum.inr y) hD314 (szA _ hl64), ?_⟩
          have O15 := O14.other (o' := .dK (accK (putA ps y 0))) hD314 f3 n3os n3a n3st
          have oth3 : OthOk H ps (upd H8' D3 (.dK (accK (putA ps y 0)))) D3 := ⟨f3, putA ps y 0, upd_same, putA_new hA nps nmy (by decide) (by decide) (by omega), y, by rw [look_put, if_pos rfl, look_none nps]; exact fun z => by cases z⟩
          rw [putK_acc]
          refine ⟨_, rfl, .inl ⟨rfl, _, SqL.of O15.lst⟩, _, rfl, L2, _, _, rfl, rfl, O15.lst, ?_, ?_⟩
          · rw [List.length_map, sizeLine_eq]
            omega
          · exact ⟨os ++ [D3], _, _, _, by rw [List.length_append, List.length_singleton]; omega, rfl, O15.push oth3⟩
        · exact ⟨os, _, _, _, by omega, rfl, O14⟩
    rintro _ H14 ⟨os2, v5, v6, v7, hos2, rfl, O14⟩
    -- for other in names_here
    refine ⟨_, rfl, X, rfl, ⟨_, SqL.of O14.row⟩, for_list (K := K) (a := X) (xs := ys.map V.str) (fun i σ' H' => ∃ (os2 : List Addr) (v5 v6 v7 : Option V), os2.length ≤ 3 + i ∧ σ' = [some (.ref st), some (.ref a), some (.ref X), some (.str n), some (.ref L2), v5, v6, v7, none, none] ∧ OS K st scr ns a ps X ys H L2 os2 H')
      ⟨os2, v5, v6, v7, hos2, rfl, O14⟩ (fun i σ H' _ I => ?_) ?_ ?_⟩
    · obtain ⟨_, _, _, _, _, _, O⟩ := I
      exact SqL.of O.row
    · rintro i x σ H15 hx ⟨os3, v5, v6, v7, hos3, rfl, O15⟩
      obtain ⟨y, ey, rfl⟩ : ∃ y, ys[i]? = some y ∧ x = V.str y := by
        rw [List.getElem?_map] at hx
        cases e : ys[i]? with
        | none => rw [e] at hx; cases hx
        | some n => rw [e] at hx; exact ⟨n, rfl, (Option.some.inj hx).symm⟩
      have hi : i < ys.length := (List.getElem?_eq_some_iff.mp ey).1
      have hy' : y ∈ ps.map (·.1) := hperm.mem_iff.mp (List.mem_of_getElem? ey)
      obtain ⟨w0, w1⟩ := hA.num hy'
      refine ⟨_, rfl, _, rfl, a, _, rfl, dgn _ y O15.acc hy', _, rfl, _, rfl, a, _, rfl, dgn _ n O15.acc hn', rfl, _, rfl, ?_⟩
      by_cases hne : num ps y = num ps n
      · rw [decide_eq_true (congrArg V.int hne)]
        refine iteF ?_
        exact ⟨os3, _, _, _, by omega, rfl, O15⟩
      · rw [decide_eq_false (fun z => hne (V.int.inj z))]
        have nyn : y ≠ n := fun z => hne (by rw [z])
        refine iteT ⟨_, rfl, a, accK ps, rfl, Rd.of O15.acc, fun D hD => ?_⟩
        have SD : ∀ o, Same H15 (upd H15 D o) := fun o b u e => (upd_ne (ne_of_none e hD)).trans e
        have f4 := O15.free hD
        refine ⟨_, rfl, _, rfl, a, _, rfl, dgn _ n (SD _ _ _ O15.acc) hn', _, rfl, _, rfl, a, _, rfl, dgn _ y (SD _ _ _ O15.acc) hy', (by show 2 ≤ sizeLine; decide), fun tp htp => ?_⟩
        have ntD : D ≠ tp := fun z => by rw [← z, upd_same] at htp; cases htp
        have htp15 : H15 tp = none := by rw [upd_ne ntD.symm] at htp; exact htp
        have ST : Same H15 (upd H15 tp (.tup [.int (num ps n), .int (num ps y)])) := fun b u e => (upd_ne (ne_of_none e htp15)).trans e
        have hDt : upd H15 tp (.tup [.int (num ps n), .int (num ps y)]) D = none := (upd_ne ntD).trans hD
        have swap : ∀ o : HO, upd (upd H15 D o) tp (.tup [.int (num ps n), .int (num ps y)]) = upd (upd H15 tp (.tup [.int (num ps n), .int (num ps y)])) D o := fun o => by
          funext b
          by_cases h1 : b = tp
          · rw [h1, upd_same, upd_ne ntD.symm, upd_same]
          · rw [upd_ne h1]
            by_cases h2 : b = D
            · rw [h2, upd_same, upd_same]
            · rw [upd_ne h2, upd_ne h2, upd_ne h1]
        rw [swap]
        have O16 := O15.same ST
        have f16 := O16.free hDt
        have htpc : upd H15 tp (.tup [.int (num ps n), .int (num ps y)]) tp = some (.tup [.int (num ps n), .int (num ps y)]) := upd_same
        generalize upd H15 tp (.tup [.int (num ps n), .int (num ps y)]) = H16 at O16 hDt htpc f16
        obtain ⟨A1, k1⟩ := putA_old hA hy' hq0 hq1
        have hn2 : n ∈ (putA ps y (num ps n)).map (·.1) := by rw [k1]; exact hn'
        obtain ⟨A2, k2⟩ := putA_old A1 hn2 w0 w1
        refine ⟨tp, _, rfl, SqT.of ((upd_ne ntD.symm).trans htpc), rfl, _, _, rfl, _, rfl, _, rfl, D, _, rfl, DPut.k (k := Sum.inr y) upd_same (szA _ hl64), _, _, rfl, _, rfl, _, rfl, D, _, rfl, DPut.k (k := Sum.inr n) upd_same (by rw [putK_acc]; exact szA _ A1.2.2.2), rfl, ?_⟩
        rw [putK_acc, putK_acc, upd_upd, upd_upd]
        have O17 := O16.same (H' := upd H16 D (.dK (accK (putA (putA ps y (num ps n)) n (num ps y))))) (fun b u e => (upd_ne (ne_of_none e hDt)).trans e)
        have oth4 : OthOk H ps (upd H16 D (.dK (accK (putA (putA ps y (num ps n)) n (num ps y))))) D := ⟨f16, _, upd_same, A2, y, by rw [look_put, if_neg nyn, look_put, if_pos rfl, look_num hy']; exact fun z => hne (Option.some.inj z).symm⟩
        refine ⟨_, rfl, .inl ⟨rfl, _, SqL.of O17.lst⟩, _, rfl, L2, _, _, rfl, rfl, O17.lst, ?_, ?_⟩
        · rw [List.length_map, sizeLine_eq]
          omega
        · exact ⟨os3 ++ [D], _, _, _, by rw [List.length_append, List.length_singleton]; omega, rfl, O17.push oth4⟩
    · rintro σ H15 ⟨os3, v5, v6, v7, hos3, rfl, O15⟩
      refine ⟨_, rfl, _, rfl, L2, _, rfl, SqL.of O15.lst, fun l hl => ?_⟩
      have SL : ∀ o, Same H15 (upd H15 l o) := fun o b u e => (upd_ne (ne_of_none e hl)).trans e
      have cut : cutV (os3.map V.ref) none (some 4) = (os3.take 4).map V.ref := by
        unfold cutV
        have e4 : HT.sIx (os3.map V.ref).length (os3.map V.ref).length (some 4) = min 4 (os3.map V.ref).length := HT.sIx_nat _ _ 4
        rw [HT.sIx_none, e4, List.drop_zero, Nat.sub_zero, List.length_map, List.map_take]
        by_cases h4 : 4 ≤ os3.length
        · rw [Nat.min_eq_left h4]
        · rw [Nat.min_eq_right (by omega), List.take_of_length_le (by simp), List.take_of_length_le (by simp; omega)]
      rw [cut]
      have O16 := O15.same (SL (.lst ((os3.take 4).map V.ref)))
      exact k _ l (os3.take 4) O16.but O16.sta upd_same (by rw [List.length_take]; omega) fun o ho => O16.oth o (List.mem_of_mem_take ho)
end
end K78
/-! K78T: what the law leans on. -/
namespace K78
open PySem PySem.Spec PyProof.Rows L2 TL LamX NdefX
/-! ### one way to a leaf -/
theorem Plug.lastT : ∀ {p : Path} {t u s : T}, Plug t (p ++ [(true, s)]) u → ∃ v m, u = .node s v m ∧ Plug t p v
  | [], t, u, s, ⟨m, h⟩ => ⟨t, m, (show _ = _ from h).symm, rfl⟩
  | (true, _) :: r, _, _, _, ⟨m, h⟩ => by
    obtain ⟨v, m', e, q⟩ := Plug.lastT (p := r) h
    exact ⟨v, m', e, m, q⟩
  | (false, _) :: r, _, _, _, ⟨m, h⟩ => by
    obtain ⟨v, m', e, q⟩ := Plug.lastT (p := r) h
    exact ⟨v, m', e, m, q⟩
theorem Plug.lastF : ∀ {p : Path} {t u s : T}, Plug t (p ++ [(false, s)]) u → ∃ v m, u = .node v s m ∧ Plug t p v
  | [], t, u, s, ⟨m, h⟩ => ⟨t, m, (show _ = _ from h).symm, rfl⟩
  | (true, _) :: r, _, _, _, ⟨m, h⟩ => by
    obtain ⟨v, m', e, q⟩ := Plug.lastF (p := r) h
    exact ⟨v, m', e, m, q⟩
  | (false, _) :: r, _, _, _, ⟨m, h⟩ => by
    obtain ⟨v, m', e, q⟩ := Plug.lastF (p := r) h
    exact ⟨v, m', e, m, q⟩
theorem Plug.sub : ∀ {p : Path} {t u : T}, Plug t p u → ∀ q ∈ t.flat, q ∈ u.flat
  | [], _, _, h, q, hq => by
    have a : _ = _ := h
    rw [← a]
    exact hq
  | (true, s) :: r, _, _, ⟨m, h⟩, q, hq => Plug.sub h q (List.mem_append_right _ hq)
  | (false, s) :: r, _, _, ⟨m, h⟩, q, hq => Plug.sub h q (List.mem_append_left _ hq)
theorem snoc_cases {α : Type} (l : List α) : l = [] ∨ ∃ a b, l = a ++ [b] := by
  cases h : l.reverse with
  | nil => exact .inl (List.reverse_eq_nil_iff.mp h)
  | cons b r =>
    refine .inr ⟨r.reverse, b, ?_⟩
    have q := congrArg List.reverse h
    rw [List.reverse_reverse, List.reverse_cons] at q
    exact q
theorem path_one {n : Str} {x m x' m' : Int} : ∀ {u : T} {p p' : Path}, Plug (.leaf n x m) p u → Plug (.leaf n x' m') p' u → (u.flat.map (·.1)).Nodup → p = p'
  | .leaf k y z, p, p', h, h', _ => by
    have e : ∀ {q : Path} {t : T}, Plug t q (.leaf k y z) → q = [] := fun {q t} hq => by
      rcases snoc_cases q with e | ⟨a, ⟨b, s⟩, e⟩
      · exact e
      · subst e
        cases b with
        | true =>
          obtain ⟨v, m, e, _⟩ := Plug.lastT hq
          cases e
        | false =>
          obtain ⟨v, m, e, _⟩ := Plug.lastF hq
          cases e
    rw [e h, e h']
  | .node a b z, p, p', h, h', nd => by
    have nd' : ((a.flat ++ b.flat).map (·.1)).Nodup := nd
    rw [List.map_append] at nd'
    obtain ⟨nda, ndb, ndx⟩ := List.nodup_append.mp nd'
    have ne : ∀ {q : Path} {y mm : Int}, Plug (.leaf n y mm) q (.node a b z) → (∃ r, q = r ++ [(true, a)] ∧ Plug (.leaf n y mm) r b) ∨ ∃ r, q = r ++ [(false, b)] ∧ Plug (.leaf n y mm) r a := fun {q y mm} hq => by
      rcases snoc_cases q with e | ⟨r, ⟨c, s⟩, e⟩
      · subst e
        have e2 : T.leaf n y mm = .node a b z := hq
        cases e2
      · subst e
        cases c with
        | true =>
          obtain ⟨v, m2, e, k⟩ := Plug.lastT hq
          obtain ⟨e1, e2, _⟩ := T.node.inj e
          subst e1 e2
          exact .inl ⟨r, rfl, k⟩
        | false =>
          obtain ⟨v, m2, e, k⟩ := Plug.lastF hq
          obtain ⟨e1, e2, _⟩ := T.node.inj e
          subst e1 e2
          exact .inr ⟨r, rfl, k⟩
    have mem : ∀ {q : Path} {y mm : Int} {c : T}, Plug (.leaf n y mm) q c → n ∈ c.flat.map (·.1) := fun {q y mm c} k => List.mem_map.mpr ⟨(n, y), Plug.sub k _ List.mem_cons_self, rfl⟩
    rcases ne h with ⟨r, e, k⟩ | ⟨r, e, k⟩ <;> rcases ne h' with ⟨r', e', k'⟩ | ⟨r', e', k'⟩
    · rw [e, e', path_one k k' ndb]
    · exact absurd rfl (ndx n (mem k') n (mem k))
    · exact absurd rfl (ndx n (mem k) n (mem k'))
    · rw [e, e', path_one k k' nda]
/-! ### sums -/
theorem perm_sum {l m : List Int} (h : l.Perm m) : l.sum = m.sum := by
  induction h with
  | nil => rfl
  | cons a _ ih => rw [List.sum_cons, List.sum_cons, ih]
  | swap a b l =>
    rw [List.sum_cons, List.sum_cons, List.sum_cons, List.sum_cons]
    omega
  | trans _ _ h1 h2 => exact h1.trans h2
theorem row_sum (ys : List Str) (ps : List (Str × Int)) : ((rowOf ys ps).map (·.2)).sum = (ys.map (num ps)).sum := by
  unfold rowOf
  rw [List.map_map]
  rfl
theorem part_le : ∀ {p : Path} {zs : List Str}, (∀ s ∈ p, Ok zs s.2) → ∀ s ∈ p, s.2.sm ≤ (p.map fun q => q.2.sm).sum
  | [], _, _, s, h => by cases h
  | a :: r, zs, h0, s, h => by
    have q : 0 ≤ (r.map fun q => q.2.sm).sum := by
      have h1 : ∀ s ∈ r, Ok zs s.2 := fun s hs => h0 s (List.mem_cons_of_mem _ hs)
      clear h h0
      induction r with
      | nil => exact Int.le_refl 0
      | cons b r ih =>
        rw [List.map_cons, List.sum_cons]
        have a1 := ih fun s hs => h1 s (List.mem_cons_of_mem _ hs)
        have a2 := (h1 b List.mem_cons_self).sm0
        omega
    rw [List.map_cons, List.sum_cons]
    rcases List.mem_cons.mp h with e | e
    · rw [e]
      omega
    · have a1 := part_le (fun s hs => h0 s (List.mem_cons_of_mem _ hs)) s e
      have a2 := (h0 a List.mem_cons_self).sm0
      omega
theorem TreeOk.sum {zs : List Str} {ps : List (Str × Int)} {ys : List Str} {fs : List (List T)} {t0 : T} (O : TreeOk zs ps ys fs t0) : t0.sm = (ys.map (num ps)).sum := by
  rw [T.sm_flat, O.flat, row_sum]
theorem TreeOk.root {zs : List Str} {ps : List (Str × Int)} {ys : List Str} {fs : List (List T)} {t0 : T} (O : TreeOk zs ps ys fs t0) : Ok zs t0 := by
  obtain ⟨pre, e⟩ := O.top
  exact O.ok [t0] (by rw [e]; exact List.mem_append_right _ List.mem_cons_self) t0 List.mem_cons_self
theorem TreeOk.mono {zs zs' : List Str} {ps : List (Str × Int)} {ys : List Str} {fs : List (List T)} {t0 : T} (O : TreeOk zs ps ys fs t0) (e : zs <+: zs') : TreeOk zs' ps ys fs t0 :=
  ⟨O.perm, O.lv, O.ch, O.top, O.many, fun r hr t ht => (O.ok r hr t ht).mono e, O.flat⟩
theorem TreeOk.nodup {zs : List Str} {ps : List (Str × Int)} {ys : List Str} {fs : List (List T)} {t0 : T} (O : TreeOk zs ps ys fs t0) (A : Acc ps) : ys.Nodup := O.perm.nodup_iff.mpr A.2.1
theorem TreeOk.names {zs : List Str} {ps : List (Str × Int)} {ys : List Str} {fs : List (List T)} {t0 : T} (O : TreeOk zs ps ys fs t0) (A : Acc ps) : (t0.flat.map (·.1)).Nodup := by
  rw [O.flat]
  unfold rowOf
  rw [List.map_map]
  have e : ((fun x : Str × Int => x.1) ∘ fun n => (n, num ps n)) = id := rfl
  rw [e, List.map_id]
  exact O.nodup A
theorem path_ok {zs : List Str} {ps : List (Str × Int)} {ys : List Str} {fs : List (List T)} {t0 t : T} {path : Path} (O : TreeOk zs ps ys fs t0) (A : Acc ps) (h : Plug t path t0) (hl : path.length ≤ 6) : PathOk zs path := by
  obtain ⟨h1, h2⟩ := Plug.ok h O.root
  refine ⟨hl, fun s hs => ⟨h2 s hs, ?_⟩⟩
  have a1 := part_le h2 s hs
  have a2 := Plug.sum h
  have a3 := h1.sm0
  have a4 := O.sum
  have a5 := row_small A O.perm
  rw [row_sum] at a5
  omega
/-! ### shares as data -/
def sd (s : Bool × T) : PyData := .tuple [.str (side s.1), .int s.2.mk, .int s.2.sm]
def pd (path : Path) : PyData := .tuple (path.map sd)
theorem dp_path {K : PySem.W.Frag} {H : Hp} : ∀ {qs : List Addr} {path : Path}, Paired (StepAt H) qs path → DpAll K H (qs.map V.ref) (path.map sd)
  | _, _, .nil => .nil
  | _, _, .cons h r => .cons (.tup (SqT.of h) (.cons (.str _) (.cons (.int _) (.cons (.int _) .nil)))) (dp_path r)
theorem dp_share {K : PySem.W.Frag} {H : Hp} {q : Addr} {path : Path} (h : ShareAt H q path) : Dp K H (.ref q) (pd path) := by
  obtain ⟨qs, h1, h2⟩ := h
  exact .tup (SqT.of h1) (dp_path h2)
theorem strOk_side (b : Bool) : PyData.strOk (side b) = true := by
  cases b <;> decide +kernel
theorem lay_path : ∀ path : Path, PyData.canLayAll0 (path.map sd) = true
  | [] => rfl
  | s :: r => by
    show ((PyData.strOk (side s.1) && (true && (true && true))) && PyData.canLayAll0 (r.map sd)) = true
    rw [strOk_side, lay_path r]
    rfl
theorem depth_path : ∀ path : Path, PyData.depthAll (path.map sd) ≤ 1
  | [] => Nat.zero_le _
  | s :: r => by
    show max (max 0 (max 0 (max 0 0)) + 1) (PyData.depthAll (r.map sd)) ≤ 1
    have := depth_path r
    omega
theorem shaped_pair {n : Str} (h : Nm n) (path : Path) : SeqAt.shaped (.tuple [.str n, pd path]) = true := by
  show ((PyData.strOk n && (PyData.canLayAll0 (path.map sd) && true)) && decide (max 0 (max (PyData.depthAll (path.map sd) + 1) 0) + 1 ≤ 64)) = true
  rw [strOk_nm h, lay_path]
  have := depth_path path
  rw [decide_eq_true (by omega)]
  rfl
theorem eqv_same {n : Str} (h : Nm n) (path : Path) : PyData.eqv (.tuple [.str n, pd path]) (.tuple [.str n, pd path]) = true := by
  have q := shaped_pair h path
  unfold SeqAt.shaped at q
  rw [Bool.and_eq_true] at q
  exact SeqAt.eqv_refl _ q.1
end K78
/-! K78U: the law. -/
namespace K78
open PySem PySem.Spec PyProof.Rows L2 TL LamX NdefX
/-! ### the table of code objects stays -/
abbrev Tab (Pt : Addr) (H : Hp) : Prop := TabsN [(Pt, fun _ _ => qAsk)] H
theorem Tab.but {Pt d : Addr} {H H' : Hp} {kvs : List (L2.Key × V)} (t : Tab Pt H) (e : H d = some (.dK kvs)) (b : But d H H') : Tab Pt H' := fun p hp => by
  obtain ⟨ps, h1, h2, h3⟩ := t p hp
  refine ⟨ps, b _ _ (ne_of h1 e (by intro z; cases z)) h1, h2, fun pos cv hc => ?_⟩
  obtain ⟨c, e1, e2⟩ := h3 pos cv hc
  exact ⟨c, e1, b _ _ (ne_of e2 e (by intro z; unfold CodeO at z; cases z)) e2⟩
theorem StAt.extN {K : PySem.W.Frag} {H H' : Hp} {st scr : Addr} {ns : List Int} (s : StAt K H st scr ns) (b : ExtN H H') : StAt K H' st scr ns := by
  obtain ⟨b1, c1, d1, e1, h, r⟩ := s.ex
  refine ⟨⟨b1, c1, d1, e1, b _ _ h (fun _ z => by cases z), r⟩, ?_, s.len⟩
  rcases s.sq with (h | ⟨o, h⟩) | h
  · exact .inl (.inl (b _ _ h fun _ z => by cases z))
  · exact .inl (.inr ⟨o, b _ _ h fun _ z => by cases z⟩)
  · exact .inr h
/-! ### what stands in a turn -/
structure TI (K : PySem.W.Frag) (st scr : Addr) (ns : List Int) (Pt a : Addr) (acc : List (Str × Int)) (f d C x : Addr) (ys : List Str) (fs : List (List T)) (t0 : T) (q X : Addr) (ys2 : List Str) (zs : List Str) (H : Hp) : Prop where
  sta : StAt K H st scr ns
  tab : Tab Pt H
  ac : AccAt H a acc
  dig : Dg H f d zs
  tree : TreeIs C H x ys fs
  ok : TreeOk zs acc ys fs t0
  top : PairAt H q t0
  row : H X = some (.lst (ys2.map V.str))
  nsd : st ≠ d
  nad : a ≠ d
  nas : a ≠ st
theorem PairAt.but2 {H H' : Hp} {d p : Addr} {t : T} {kvs : List (L2.Key × V)} (h : PairAt H p t) (e : H d = some (.dK kvs)) (b : But d H H') : PairAt H' p t := b _ _ (ne_of h e (by intro z; cases z)) h
theorem RowIs.but2 {H H' : Hp} {d a : Addr} {ts : List T} {kvs : List (L2.Key × V)} (h : RowIs H a ts) (e : H d = some (.dK kvs)) (b : But d H H') : RowIs H' a ts := by
  obtain ⟨ps, h1, h2⟩ := h
  exact ⟨ps, b _ _ (ne_of h1 e (by intro z; cases z)) h1, paired_mono h2 fun p t q => q.but2 e b⟩
theorem TreeIs.but2 {C : Addr} {H H' : Hp} {p d : Addr} {ys : List Str} {fs : List (List T)} {kvs : List (L2.Key × V)} (t : TreeIs C H p ys fs) (e : H d = some (.dK kvs)) (b : But d H H') : TreeIs C H' p ys fs := by
  obtain ⟨dx, lo, lf, fl, h1, h2, h3, h4⟩ := t
  exact ⟨dx, lo, lf, fl, b _ _ (ne_of h1 e (by intro z; cases z)) h1, b _ _ (ne_of h2 e (by intro z; cases z)) h2, b _ _ (ne_of h3 e (by intro z; cases z)) h3, paired_mono h4 fun a r q => q.but2 e b⟩
theorem ShareAt.but2 {H H' : Hp} {d q : Addr} {path : Path} {kvs : List (L2.Key × V)} (h : ShareAt H q path) (e : H d = some (.dK kvs)) (b : But d H H') : ShareAt H' q path := by
  obtain ⟨qs, h1, h2⟩ := h
  exact ⟨qs, b _ _ (ne_of h1 e (by intro z; cases z)) h1, paired_mono h2 fun a s z => b _ _ (ne_of z e (by intro y; cases y)) z⟩
section
variable {K : PySem.W.Frag} {st scr Pt a f d C x q X : Addr} {ns : List Int} {acc : List (Str × Int)} {ys ys2 zs zs' : List Str} {fs : List (List T)} {t0 : T} {H H' : Hp}
theorem TI.same (t : TI K st scr ns Pt a acc f d C x ys fs t0 q X ys2 zs H) (b : Same H H') : TI K st scr ns Pt a acc f d C x ys fs t0 q X ys2 zs H' :=
  ⟨t.sta.same b, t.tab.ext b, b _ _ t.ac, t.dig.same b, t.tree.same b, t.ok, b _ _ t.top, b _ _ t.row, t.nsd, t.nad, t.nas⟩
/-- behind a draw -/
theorem TI.drawn (t : TI K st scr ns Pt a acc f d C x ys fs t0 q X ys2 zs H) (b : But st H H') (s : StAt K H' st scr ns) : TI K st scr ns Pt a acc f d C x ys fs t0 q X ys2 zs H' := by
  obtain ⟨kvs, e⟩ := t.sta.dic
  have D := t.dig
  obtain ⟨c, cc, h1, h2, h3⟩ := D.ex
  refine ⟨s, t.tab.but e b, b _ _ t.nas t.ac, ⟨⟨c, cc, b _ _ (ne_of h1 e (by intro z; unfold FnO at z; cases z)) h1, b _ _ (ne_of h2 e (by intro z; unfold CodeO at z; cases z)) h2, b _ _ (ne_of h3 e (by intro z; unfold CellO at z; cases z)) h3⟩, b _ _ t.nsd.symm D.dic, D.nd⟩,
    t.tree.but2 e b, t.ok, t.top.but2 e b, b _ _ (ne_of t.row e (by intro z; cases z)) t.row, t.nsd, t.nad, t.nas⟩
/-- behind what asks the digest -/
theorem TI.asked (t : TI K st scr ns Pt a acc f d C x ys fs t0 q X ys2 zs H) (b : But d H H') (D : Dg H' f d zs') (pf : zs <+: zs') : TI K st scr ns Pt a acc f d C x ys fs t0 q X ys2 zs' H' :=
  ⟨t.sta.but t.dig.dic t.nsd b, t.tab.but t.dig.dic b, b _ _ t.nad t.ac, D, t.tree.but t.dig b, t.ok.mono pf, t.top.but t.dig b, b _ _ (t.dig.ne t.row fun _ z => by cases z) t.row, t.nsd, t.nad, t.nas⟩
end
/-! ### tests that make objects -/
theorem tOr_byS {t u : TT} {σ : L2.St} {H : Hp} {Q : Bool → Hp → Prop} {a b : Bool} (ha : ∀ Q' : Bool → Hp → Prop, (∀ H1, Same H H1 → Q' a H1) → t σ H Q') (hb : a = false → ∀ H1, Same H H1 → ∀ Q' : Bool → Hp → Prop, Q' b H1 → u σ H1 Q') (q : ∀ H1, Same H H1 → Q (a || b) H1) : tOr t u σ H Q := by
  refine ha _ fun H1 s => ?_
  cases a with
  | true => exact q H1 s
  | false => exact hb rfl H1 s _ (q H1 s)
/-- one of the wrong shares -/
def Wrong (n : Str) (v : Int) (path : Path) (t0 : T) (title : Str) (much : Int) (path' : Path) : Prop :=
  (∀ (m : Int) (u : T), Plug (.leaf title much m) path' u → u ≠ t0) ∨ (title = n ∧ much = v ∧ path' = path)
theorem dgn {a : Addr} {ps : List (Str × Int)} (H' : Hp) (m : Str) (h : AccAt H' a ps) (hm : m ∈ ps.map (·.1)) : DGet H' a (.str m) (some (.int (num ps m))) := by
  rw [← (acc_at hm).1]
  exact DGet.k (k := Sum.inr m) h
structure Item (n : Str) (v : Int) (path : Path) (t0 : T) (w : Str × Int × Path) : Prop where
  nm : Nm w.1
  lo : 0 ≤ w.2.1
  hi : w.2.1 ≤ 10 ^ 13
  pl : ∃ t, Plug t w.2.2 t0
  len : w.2.2.length ≤ 6
  wr : Wrong n v path t0 w.1 w.2.1 w.2.2
def ItemAt (H : Hp) (b : Addr) (w : Str × Int × Path) : Prop := ∃ s, H b = some (.tup [.str w.1, .int w.2.1, .ref s]) ∧ ShareAt H s w.2.2
theorem ItemAt.same {H H' : Hp} {b : Addr} {w : Str × Int × Path} (h : ItemAt H b w) (e : Same H H') : ItemAt H' b w := by
  obtain ⟨s, h1, h2⟩ := h
  exact ⟨s, e _ _ h1, h2.same e⟩
theorem ItemAt.but {H H' : Hp} {b f d : Addr} {zs : List Str} {w : Str × Int × Path} (h : ItemAt H b w) (D : Dg H f d zs) (e : But d H H') : ItemAt H' b w := by
  obtain ⟨s, h1, h2⟩ := h
  exact ⟨s, e _ _ (D.ne h1 fun _ z => by cases z) h1, h2.but D e⟩
theorem wrong1 {n : Str} {v m0 : Int} {path : Path} {t0 : T} (h : Plug (.leaf n v m0) path t0) : Wrong n v path t0 n (v + 1) path := .inl fun m u hu e => by
  subst e
  have q := (T.leaf.inj (Plug.eq hu h)).2.1
  omega
theorem wrong2 {n o : Str} {v m0 y m2 : Int} {path path2 : Path} {t0 : T} (h : Plug (.leaf n v m0) path t0) (h2 : Plug (.leaf o y m2) path2 t0) (nd : (t0.flat.map (·.1)).Nodup) : Wrong n v path t0 n v path2 := by
  by_cases e : n = o
  · subst e
    exact .inr ⟨rfl, rfl, (path_one h h2 nd).symm⟩
  · exact .inl fun m u hu z => by
      subst z
      exact e (T.leaf.inj (Plug.eq hu h2)).1
theorem wrong3 {n o : Str} {v m0 : Int} {path : Path} {t0 : T} (h : Plug (.leaf n v m0) path t0) : Wrong n v path t0 o v path := by
  by_cases e : n = o
  · subst e
    exact .inr ⟨rfl, rfl, rfl⟩
  · exact .inl fun m u hu z => by
      subst z
      exact e (T.leaf.inj (Plug.eq hu h)).1.symm
theorem if_no {b : Bool} {A B : Prop} (e : b = false) (h : B) : if b = true then A else B := by
  rw [e]
  exact iteF h
theorem if_yes {b : Bool} {A B : Prop} (e : b = true) (h : A) : if b = true then A else B := by
  rw [e]
  exact iteT h
def spLaw (K : PySem.W.Frag) (Pt : Addr) : Sp := fun vs H Q _ => ∃ (a : Addr) (ns : List Int), vs = [.ref a] ∧ SqL K H a (ns.map V.int) ∧ ns.length ≤ 63 ∧ Tab Pt H ∧ ∀ H', Q (.bl true) H'
section
variable {P : Program} {w : World} {K : PySem.W.Frag} {mg : Str → Option Value} {base : Heap}
abbrev nL : List Str := ["_law_script", "_law_state", "_law_turn", "_law_accounts_here", "_law_digest_of", "_law_tree", "_law_names_here", "_law_top", "_law_total", "_law_name", "_law_steps", "_law_other", "_law_wrong", "_law_title", "_law_much", "_law_beside", "_law_some", "_law_step"]
theorem scLaw : FnScope nL ["_law_script"] (defScope sLaw) := ⟨rfl, rfl, rfl, by decide +kernel, rfl, by decide +kernel, by decide +kernel⟩
theorem ok_law {f f1 f2 f3 f4 f5 f6 f7 f8 f9 C Pt : Addr} {fd fd1 fd2 fd3 fd4 fd5 fd6 fd7 fd8 fd9 : FuncData} (F : FnP K "law" "law" sLaw f fd) (tx : TX K mg) (ct : CT K mg C) (mk : Mk K C f3) (mRoot : Meth K C "root" f4) (mShare : Meth K C "share" f5)
    (G1 : Has P w K mg base 1 "_law_begun" ["_law_script"] (spBegun K) f1 fd1) (G2 : Has P w K mg base 4 "_law_accounts" ["_law_state"] (spDrawn K) f2 fd2)
    (G3 : FnOk P w K mg base CX0 4 f3 fd3 ["self", "accounts", "digest"] (spInit C)) (b3 : Binds K fd3 ["self", "accounts", "digest"] []) (G4 : FnOk P w K mg base CX0 1 f4 fd4 ["self"] (spRoot C)) (b4 : Binds K fd4 ["self"] [])
    (G5 : FnOk P w K mg base CX0 2 f5 fd5 ["self", "name"] (spShare C)) (b5 : Binds K fd5 ["self", "name"] []) (G6 : Has P w K mg base 4 "shows" ["root", "name", "number", "share", "digest"] spShows f6 fd6)
    (G7 : Has P w K mg base 2 "_law_pick" ["_law_state", "_law_some"] (spPick K) f7 fd7) (G8 : Has P w K mg base 3 "_law_others" ["_law_state", "_law_accounts_here"] (spOthers K) f8 fd8) (G9 : Has P w K mg base 1 "_law_fresh" [] (spFresh Pt) f9 fd9) :
    FnOk P w K mg base CX0 6 f fd ["_law_script"] (spLaw K Pt) := by
  refine okN F scLaw (fun vs H Q E h => ?_) (fun cdv A outer s H vs Q E hr h => ?_)
  · obtain ⟨a, ns, rfl, _⟩ := h
    rfl
  · obtain ⟨scr, ns, rfl, hS, hlen, hT, k⟩ := h
    have hu := hu_of hr
    refine ⟨_, pss_cons (ps_set (i := 1) scLaw.nd rfl (Or.inl rfl) (pe_call G1.ok (hr.mono (by decide)) (by rfl) G1.gm G1.kp G1.bd .nil pass0 (pa_cons (pv 0) pa_nil)))
      (pss_cons (ps_for PassesOwn.never rfl (pi_range1 (by rfl) tx.range (pa_cons (pe_op op_add pe_int (pe_callB (call_min2 rfl) (by rfl) tx.min (by decide +kernel) (pa_cons (pe_callB call_len_seq (by rfl) tx.len PySem.boot_len (pa_cons (pv 0) pa_nil)) (pa_cons pe_int pa_nil)))) pa_nil)) (pg_name (i := 2) scLaw.nd rfl (Or.inl rfl))
        (pss_cons (ps_set (i := 3) scLaw.nd rfl (Or.inl rfl) (pe_call G2.ok (hr.mono (by decide)) (by rfl) G2.gm G2.kp G2.bd .nil pass0 (pa_cons (pv 1) pa_nil)))
        (pss_cons (ps_set (i := 4) scLaw.nd rfl (Or.inl rfl) (pe_call0 G9.ok (hr.mono (by decide)) (by rfl) G9.gm G9.kp G9.bd .nil pass0))
        (pss_cons (ps_par (i := 5) (j := 6) rfl scLaw.nd rfl rfl (by decide) rfl rfl (pa_cons (pe_make mk G3 hr (by rfl) ct.gm b3 .nil pass0 (pa_cons (pv 3) (pa_cons (pv 4) pa_nil))) (pa_cons (pe_callB (call_sortedT (by rfl)) (by rfl) tx.sorted (by decide +kernel) (pa_cons (pv 3) pa_nil)) pa_nil)) (by rfl))
        (pss_cons (ps_par (i := 7) (j := 8) rfl scLaw.nd rfl rfl (by decide) rfl rfl (pa_cons (pe_meth0 (pv 5) ct.cl mRoot G4 (hr.mono (by decide)) b4 .nil pass0) (pa_cons pe_int pa_nil)) (by rfl))
        (pss_cons (ps_for PassesOwn.never rfl (pi_list (pv 6)) (pg_name (i := 9) scLaw.nd rfl (Or.inl rfl))
          (pss_cons (ps_set (i := 10) scLaw.nd rfl (Or.inl rfl) (pe_meth (pv 5) ct.cl mShare G5 (hr.mono (by decide)) b5 .nil pass0 (pa_cons (pv 9) pa_nil)))
          (pss_cons (ps_if (PW.pt (pw_or (pt_cmpR op_ne (pe_op op_add (pe_dget hu (pv 3) (pv 9) (fun _ _ => rfl)) (pe_callB (cr_sum rfl) (by rfl) tx.sum (by decide +kernel) (pa_cons
              (pe_lc (own := [("_law_step", 17)]) (g := gName 17) (tt := tYes) (by rfl) scLaw.nd (pi_tup (pv 10)) (blkOk_by (own := [("_law_step", 17)]) (N := nL) (sc := defScope sLaw) (by decide +kernel)) (fun _ _ _ _ _ => pg_name (i := 17) scLaw.nd rfl (Or.inl rfl)) (fun _ _ _ _ _ => pts_nil)
                (fun _ _ _ _ _ => pe_ix (r := rIxT K) ix_tup (pv 17) pe_int (fun _ _ => rfl))) pa_nil))) (pe_ix ix_tup (pv 7) pe_int (fun _ _ => rfl)) (nomark _))
              (pw_or1 (pt_cmpR op_gt (pe_callB call_len_seq (by rfl) tx.len PySem.boot_len (pa_cons (pv 10) pa_nil)) pe_int (nomark _))))) (pss_one (ps_ret pe_bl)) pss_nil)
          (pss_cons (ps_if (pt_not (pt_val (pe_call G6.ok (hr.mono (by decide)) (by rfl) G6.gm G6.kp G6.bd .nil pass0 (pa_cons (pv 7) (pa_cons (pv 9) (pa_cons (pe_dget hu (pv 3) (pv 9) (fun _ _ => rfl)) (pa_cons (pv 10) (pa_cons (pv 4) pa_nil)))))))) (pss_one (ps_ret pe_bl)) pss_nil)
          (pss_cons (ps_set (i := 11) scLaw.nd rfl (Or.inl rfl) (pe_call G7.ok (hr.mono (by decide)) (by rfl) G7.gm G7.kp G7.bd .nil pass0 (pa_cons (pv 1) (pa_cons (pv 6) pa_nil))))
          (pss_cons (ps_set (i := 12) scLaw.nd rfl (Or.inl rfl) (pe_lst (pa_cons (pe_tup (pa_cons (pv 9) (pa_cons (pe_op op_add (pe_dget hu (pv 3) (pv 9) (fun _ _ => rfl)) pe_int) (pa_cons (pv 10) pa_nil))))
              (pa_cons (pe_tup (pa_cons (pv 9) (pa_cons (pe_dget hu (pv 3) (pv 9) (fun _ _ => rfl)) (pa_cons (pe_meth (pv 5) ct.cl mShare G5 (hr.mono (by decide)) b5 .nil pass0 (pa_cons (pv 11) pa_nil)) pa_nil)))) pa_nil))))
          (pss_cons (ps_for PassesOwn.never rfl (pi_list (pe_op op_cat (pv 12) (pe_lst (pa_cons (pe_tup (pa_cons (pv 11) (pa_cons (pe_dget hu (pv 3) (pv 9) (fun _ _ => rfl)) (pa_cons (pv 10) pa_nil)))) pa_nil))))
              (pg_tup rfl (pgs_cons (pg_name (i := 13) scLaw.nd rfl (Or.inl rfl)) (pgs_cons (pg_name (i := 14) scLaw.nd rfl (Or.inl rfl)) (pgs_cons (pg_name (i := 15) scLaw.nd rfl (Or.inl rfl)) pgs_nil))))
            (pss_one (ps_if (PW.pt (pw_or (pt_cmpR (op_neD hr.units) (pe_tup (pa_cons (pv 13) (pa_cons (pv 15) pa_nil))) (pe_tup (pa_cons (pv 9) (pa_cons (pv 10) pa_nil))) (nomark _)) (pw_or1 (pt_cmpR op_ne (pv 14) (pe_dget hu (pv 3) (pv 9) (fun _ _ => rfl)) (nomark _)))))
              (pss_one (ps_if (pt_val (pe_call G6.ok (hr.mono (by decide)) (by rfl) G6.gm G6.kp G6.bd .nil pass0 (pa_cons (pv 7) (pa_cons (pv 13) (pa_cons (pv 14) (pa_cons (pv 15) (pa_cons (pv 4) pa_nil))))))) (pss_one (ps_ret pe_bl)) pss_nil)) pss_nil)))
          (pss_one (ps_set (i := 8) scLaw.nd rfl (Or.inl rfl) (pe_op op_add (pv 8) (pe_dget hu (pv 3) (pv 9) (fun _ _ => rfl))))))))))))
        (pss_cons (ps_if (pt_cmpR op_ne (pv 8) (pe_ix ix_tup (pv 7) pe_int (fun _ _ => rfl)) (nomark _)) (pss_one (ps_ret pe_bl)) pss_nil)
        (pss_one (ps_for PassesOwn.never rfl (pi_list (pe_call G8.ok (hr.mono (by decide)) (by rfl) G8.gm G8.kp G8.bd .nil pass0 (pa_cons (pv 1) (pa_cons (pv 3) pa_nil)))) (pg_name (i := 16) scLaw.nd rfl (Or.inl rfl))
          (pss_cons (ps_set (i := 15) scLaw.nd rfl (Or.inl rfl) (pe_make mk G3 hr (by rfl) ct.gm b3 .nil pass0 (pa_cons (pv 16) (pa_cons (pv 4) pa_nil))))
          (pss_cons (ps_if (pt_cmpR op_eq (pe_ix ix_tup (pe_meth0 (pv 15) ct.cl mRoot G4 (hr.mono (by decide)) b4 .nil pass0) pe_int (fun _ _ => rfl)) (pe_ix ix_tup (pv 7) pe_int (fun _ _ => rfl)) (nomark _)) (pss_one (ps_ret pe_bl)) pss_nil)
          (pss_cons (ps_set (i := 9) scLaw.nd rfl (Or.inl rfl) (pe_call G7.ok (hr.mono (by decide)) (by rfl) G7.gm G7.kp G7.bd .nil pass0 (pa_cons (pv 1) (pa_cons (pe_callB (call_sortedT (by rfl)) (by rfl) tx.sorted (by decide +kernel) (pa_cons (pv 16) pa_nil)) pa_nil))))
          (pss_one (ps_if (pt_val (pe_call G6.ok (hr.mono (by decide)) (by rfl) G6.gm G6.kp G6.bd .nil pass0 (pa_cons (pv 7) (pa_cons (pv 9) (pa_cons (pe_dget hu (pv 16) (pv 9) (fun _ _ => rfl)) (pa_cons (pe_meth (pv 15) ct.cl mShare G5 (hr.mono (by decide)) b5 .nil pass0 (pa_cons (pv 9) pa_nil)) (pa_cons (pv 4) pa_nil))))))) (pss_one (ps_ret pe_bl)) pss_nil))))))))))))))
      (pss_one (ps_ret pe_bl))), ?_⟩
    refine ⟨_, rfl, scr, ns, rfl, hS, hlen, fun H1 st S1 _ st1 => ?_⟩
    have T1 : Tab Pt H1 := hT.ext S1
    refine ⟨_, rfl, scr, _, rfl, .inl (S1.seq hS), _, _, rfl, _, _, rfl, rfl, _, rfl, ?_, ?_, ?_⟩
    · omega
    · omega
    refine for_range (fun i σ' H' => ∃ (v2 v3 v4 v5 v6 v7 v8 v9 v10 v11 v12 v13 v14 v15 v16 : Option V), σ' = [some (.ref scr), some (.ref st), v2, v3, v4, v5, v6, v7, v8, v9, v10, v11, v12, v13, v14, v15, v16, none] ∧ StAt K H' st scr ns ∧ Tab Pt H') ⟨_, _, _, _, _, _, _, _, _, _, _, _, _, _, _, rfl, st1, T1⟩ ?_ (fun _ _ _ => k _)
    rintro i0 _ H2 _ ⟨v2, v3, v4, v5, v6, v7, v8, v9, v10, v11, v12, v13, v14, v15, v16, rfl, st2, T2⟩
    -- accounts, digest
    refine ⟨_, rfl, st, scr, ns, rfl, st2, fun acc H3 a B3 st3 na ha hA => ?_⟩
    obtain ⟨kst, est⟩ := st2.dic
    have nas : a ≠ st := fun z => by rw [z, est] at na; cases na
    have T3 := T2.but est B3
    refine ⟨rfl, T3, fun f d H4 X4 T4 nf nd D4 => ?_⟩
    have st4 := st3.extN X4
    have ha4 : AccAt H4 a acc := X4 _ _ ha fun _ z => by cases z
    have nad : a ≠ d := fun z => by rw [z] at ha; have ha' : H3 d = some (.dK (accK acc)) := ha; rw [nd] at ha'; cases ha'
    have nsd : st ≠ d := fun z => by obtain ⟨k3, e3⟩ := st3.dic; rw [z, nd] at e3; cases e3
    -- tree, names
    refine ⟨_, rfl, _, rfl, fun x dx hx hdx nx => ?_⟩
    have S5 : Same H4 (upd (upd H4 dx (.own x)) x (.ins C dx [])) := fun b o e => by
      rw [upd_ne (ne_of_none e hx), upd_ne (ne_of_none e hdx)]
      exact e
    refine ⟨x, dx, a, f, d, acc, [], rfl, upd_same, S5 _ _ ha4, hA, D4.same S5, nad, Nat.zero_le _, fun zs0 H5 ys fs t0 B5 D5 pf5 ln5 tr5 ok5 => ⟨rfl, ?_⟩⟩
    have B45 : But d H4 H5 := fun b o n e => B5 b o n (ne_of_none e hx) (S5 b o e)
    have st5 := st4.but D4.dic nsd B45
    have T5 : Tab Pt H5 := Tab.but T4 D4.dic B45
    have ha5 : AccAt H5 a acc := B45 _ _ nad ha4
    refine ⟨_, rfl, a, accK acc, acc.map (·.1), rfl, Rd.of ha5, accK_keys acc, fun ys2 X hperm hX => ⟨_, _, rfl, ?_⟩⟩
    have S6 : Same H5 (upd H5 X (.lst (ys2.map V.str))) := fun b o e => (upd_ne (ne_of_none e hX)).trans e
    have hX6 : upd H5 X (.lst (ys2.map V.str)) X = some (.lst (ys2.map V.str)) := upd_same
    have st6 := st5.same S6
    have T6 := T5.ext S6
    have ha6 : AccAt (upd H5 X (.lst (ys2.map V.str))) a acc := S6 _ _ ha5
    have D6 := D5.same S6
    have tr6 := tr5.same S6
    generalize upd H5 X (.lst (ys2.map V.str)) = H6 at hX6 st6 T6 ha6 D6 tr6
    -- root
    obtain ⟨dx6, lo6, lf6, fl6, hx6, _⟩ := id tr6
    obtain ⟨pre, efs⟩ := ok5.top
    refine ⟨_, rfl, x, _, _, rfl, hx6, tfl_no _ _ (by decide +kernel) (by decide +kernel), x, ys, fs, pre, t0, rfl, tr6, efs, fun q hq => ?_⟩
    have I6 : TI K st scr ns Pt a acc f d C x ys fs t0 q X ys2 zs0 H6 := ⟨st6, T6, ha6, D6, tr6, ok5, hq, hX6, nsd, nad, nas⟩
    refine ⟨_, _, rfl, ?_⟩
    have h128 : zs0.length ≤ 128 := by simpa using ln5
    have y64 : ys2.length ≤ 64 := by rw [hperm.length_eq, List.length_map]; exact hA.2.2.2
    have y1 : 1 ≤ ys2.length := by rw [hperm.length_eq, List.length_map]; exact hA.2.2.1
    have iny : ∀ {n : Str}, n ∈ ys2 → n ∈ acc.map (·.1) := fun h => hperm.mem_iff.mp h
    refine ⟨_, rfl, X, rfl, ⟨_, SqL.of hX6⟩, for_list (K := K) (a := X) (xs := ys2.map V.str) (fun i σ' H' => ∃ (zs : List Str) (v9 v10 v11 v12 v13 v14 v15 v16 : Option V),
        σ' = [some (.ref scr), some (.ref st), some (.int (0 + (i0 : Int))), some (.ref a), some (.ref f), some (.ref x), some (.ref X), some (.ref q), some (.int (((ys2.take i).map (num acc)).sum)), v9, v10, v11, v12, v13, v14, v15, v16, none] ∧
        TI K st scr ns Pt a acc f d C x ys fs t0 q X ys2 zs H' ∧ zs.length ≤ 128 + 28 * i) ⟨zs0, _, _, _, _, _, _, _, _, rfl, I6, h128⟩ (fun _ _ H' _ Iv => ?_) ?_ ?_⟩
    · obtain ⟨_, _, _, _, _, _, _, _, _, _, I, _⟩ := Iv
      exact SqL.of I.row
    · rintro i y σ H7 hy ⟨zs, v9, v10, v11, v12, v13, v14, v15, v16, rfl, I7, hl7⟩
      obtain ⟨n, en, rfl⟩ : ∃ n, ys2[i]? = some n ∧ y = V.str n := by
        rw [List.getElem?_map] at hy
        cases e : ys2[i]? with
        | none => rw [e] at hy; cases hy
        | some n => rw [e] at hy; exact ⟨n, rfl, (Option.some.inj hy).symm⟩
      have hi : i < ys2.length := (List.getElem?_eq_some_iff.mp en).1
      have hn : n ∈ acc.map (·.1) := iny (List.mem_of_getElem? en)
      have nmn := hA.nm hn
      obtain ⟨x0, x1⟩ := hA.num hn
      have nys : n ∈ ys := I7.ok.perm.mem_iff.mpr hn
      have ndys : ys.Nodup := I7.ok.nodup hA
      have ylen : ys.length ≤ 64 := by rw [I7.ok.perm.length_eq, List.length_map]; exact hA.2.2.2
      obtain ⟨dx7, lo7, lf7, fl7, hx7, _⟩ := id I7.tree
      refine ⟨_, rfl, x, _, _, rfl, hx7, tfl_no _ _ (by decide +kernel) (by decide +kernel), _, rfl, x, n, acc, ys, zs, fs, t0, rfl, I7.tree, I7.ok, nys, ndys, nmn, ylen, fun path m0 H8 sh S8 hsh hplug h6 => ?_⟩
      have I8 := I7.same S8
      have pok := path_ok I8.ok hA hplug h6
      obtain ⟨qs, hqs, pqs⟩ := id hsh
      have lqs : qs.length = path.length := Paired.length pqs
      -- the sum, the length
      refine ⟨_, rfl, _, rfl, a, _, rfl, dgn _ n I8.ac hn, _, rfl, sh, rfl, ⟨_, SqT.of hqs⟩, fun S hS => ?_⟩
      refine lc_tup (K := K) (a := sh) (xs := qs.map V.ref) (fun j H' => Same H8 H' ∧ H' S = some (.lst (((path.take j).map fun s => s.2.sm).map V.int))) ⟨fun b o e => (upd_ne (ne_of_none e hS)).trans e, upd_same⟩ (fun j H' _ p => SqT.of (p.1 _ _ hqs)) (fun j y H9 hy p => ?_) (fun H9 p9 => ?_)
      · have hj : j < path.length := by
          have z := (List.getElem?_eq_some_iff.mp hy).1
          rw [List.length_map, lqs] at z
          exact z
        obtain ⟨b, eb, hb⟩ := paired_get pqs (List.getElem?_eq_getElem hj)
        have ey : y = V.ref b := by
          rw [List.getElem?_map, eb] at hy
          exact (Option.some.inj hy).symm
        subst ey
        refine ⟨rfl, yes_of ?_⟩
        refine iteT ⟨_, rfl, b, _, _, _, rfl, rfl, SqT.of (p.1 _ _ hb), atI_nat (j := 2) rfl, _, p.2, ?_, ?_, ?_⟩
        · rw [List.length_map, List.length_map, List.length_take, sizeLine_eq]
          omega
        · exact fun b o e => (upd_ne (ne_of_none e hS)).trans (p.1 b o e)
        · rw [upd_same, List.take_add_one, List.getElem?_eq_getElem hj, List.map_append, List.map_append]
          rfl
      · have I9 := I8.same p9.1
        have hS9 : H9 S = some (.lst ((path.map fun s => s.2.sm).map V.int)) := by
          have z := p9.2
          rw [List.length_map, lqs, List.take_length] at z
          exact z
        have hsh9 := hsh.same p9.1
        refine ⟨S, _, rfl, SqL.of hS9, _, _, rfl, rfl, _, rfl, q, _, _, _, rfl, rfl, SqT.of I9.top, atI_nat (j := 1) rfl, rfl, _, rfl, ?_⟩
        have esum : num acc n + (path.map fun s => s.2.sm).sum = t0.sm := Plug.sum hplug
        refine if_no (by show (!decide (V.int (num acc n + (path.map fun s => s.2.sm).sum) = V.int t0.sm)) = false; rw [esum]; simp) ⟨_, rfl, sh, _, rfl, .inr (SqT.of (p9.1 _ _ hqs)), _, _, rfl, rfl, _, rfl, ?_⟩
        refine if_no (by show decide ((6 : Int) < (((qs.map V.ref).length : Nat) : Int)) = false; rw [List.length_map, lqs]; exact decide_eq_false (by omega)) ?_
        refine ⟨_, rfl, _, rfl, _, rfl, _, rfl, a, _, rfl, dgn _ n I9.ac hn, _, rfl, _, rfl, q, sh, f, d, n, num acc n, zs, path, t0, rfl, I9.top, I9.ok.root, nmn, x0, by omega, hsh9, pok, I9.dig, by omega, fun zs1 m1 u b1 H10 B10 D10 pf10 ln10 hp10 ok10 hb10 => ?_⟩
        have I10 := I9.asked B10 D10 pf10
        have eu : u = t0 := by
          obtain ⟨k1, _⟩ := Plug.ok hp10 ok10
          obtain ⟨k2, _⟩ := Plug.ok hplug I10.ok.root
          have em : m1 = m0 := R.mark D10.nd k1.2.2 k2.2.2
          subst em
          exact Plug.one D10.nd hp10 hplug ok10 I10.ok.root
        obtain rfl : b1 = true := hb10.mpr eu
        refine ⟨true, rfl, iteF ?_⟩
        have hsh10 := hsh9.but I9.dig B10
        -- another name
        refine ⟨_, rfl, _, rfl, st, scr, ns, I10.sta, .inl ⟨X, ys2, rfl, SqL.of I10.row, y1, by omega, fun o H11 ho B11 st11 => ?_⟩⟩
        have I11 := I10.drawn B11 st11
        obtain ⟨kst10, est10⟩ := I10.sta.dic
        have hsh11 := hsh10.but2 est10 B11
        have ho' : o ∈ acc.map (·.1) := iny ho
        have nmo := hA.nm ho'
        have oys : o ∈ ys := I7.ok.perm.mem_iff.mpr ho'
        -- the wrong ones
        obtain ⟨dx11, lo11, lf11, fl11, hx11, _⟩ := id I11.tree
        refine ⟨_, rfl, _, rfl, _, rfl, a, _, rfl, dgn _ n I11.ac hn, _, _, rfl, rfl, _, rfl, (by show 3 ≤ sizeLine; decide), fun p1 hp1 => ?_⟩
        have SP1 : Same H11 (upd H11 p1 (.tup [.str n, .int (num acc n + 1), .ref sh])) := fun b o e => (upd_ne (ne_of_none e hp1)).trans e
        have I12 := I11.same SP1
        have hsh12 := hsh11.same SP1
        have tp1 : upd H11 p1 (.tup [.str n, .int (num acc n + 1), .ref sh]) p1 = some (.tup [.str n, .int (num acc n + 1), .ref sh]) := upd_same
        have hx12 := SP1 _ _ hx11
        generalize upd H11 p1 (.tup [.str n, .int (num acc n + 1), .ref sh]) = H12 at I12 hsh12 tp1 hx12
        refine ⟨_, rfl, _, rfl, _, rfl, a, _, rfl, dgn _ n I12.ac hn, _, rfl, x, _, _, rfl, hx12, tfl_no _ _ (by decide +kernel) (by decide +kernel), _, rfl, x, o, acc, ys, zs1, fs, t0, rfl, I12.tree, I12.ok, oys, ndys, nmo, ylen, fun path2 m2 H13 sh2 S13 hsh13 hplug2 h62 => ?_⟩
        have I13 := I12.same S13
        refine ⟨(by show 3 ≤ sizeLine; decide), fun p2 hp2 => ?_⟩
        have SP2 : Same H13 (upd H13 p2 (.tup [.str n, .int (num acc n), .ref sh2])) := fun b o e => (upd_ne (ne_of_none e hp2)).trans e
        have tp2 : upd H13 p2 (.tup [.str n, .int (num acc n), .ref sh2]) p2 = some (.tup [.str n, .int (num acc n), .ref sh2]) := upd_same
        have I14 := I13.same SP2
        have sA14 := (hsh12.same S13).same SP2
        have sB14 := hsh13.same SP2
        have tp14 := SP2 _ _ (S13 _ _ tp1)
        generalize upd H13 p2 (.tup [.str n, .int (num acc n), .ref sh2]) = H14 at tp2 I14 sA14 sB14 tp14
        refine ⟨(by show 2 ≤ sizeLine; decide), fun L1 hL1 => ?_⟩
        have SL1 : Same H14 (upd H14 L1 (.lst [.ref p1, .ref p2])) := fun b o e => (upd_ne (ne_of_none e hL1)).trans e
        have lL1 : upd H14 L1 (.lst [.ref p1, .ref p2]) L1 = some (.lst [.ref p1, .ref p2]) := upd_same
        have I15 := I14.same SL1
        have sA15 := sA14.same SL1
        have sB15 := sB14.same SL1
        have tp15 := SL1 _ _ tp14
        have tq15 := SL1 _ _ tp2
        generalize upd H14 L1 (.lst [.ref p1, .ref p2]) = H15 at lL1 I15 sA15 sB15 tp15 tq15
        refine ⟨_, rfl, _, rfl, _, rfl, _, rfl, a, _, rfl, dgn _ n I15.ac hn, _, rfl, (by show 3 ≤ sizeLine; decide), fun p3 hp3 => ?_⟩
        have SP3 : Same H15 (upd H15 p3 (.tup [.str o, .int (num acc n), .ref sh])) := fun b o e => (upd_ne (ne_of_none e hp3)).trans e
        have tr16 : upd H15 p3 (.tup [.str o, .int (num acc n), .ref sh]) p3 = some (.tup [.str o, .int (num acc n), .ref sh]) := upd_same
        have I16 := I15.same SP3
        have sA16 := sA15.same SP3
        have sB16 := sB15.same SP3
        have tp16 := SP3 _ _ tp15
        have tq16 := SP3 _ _ tq15
        have lL16 := SP3 _ _ lL1
        generalize upd H15 p3 (.tup [.str o, .int (num acc n), .ref sh]) = H16 at tr16 I16 sA16 sB16 tp16 tq16 lL16
        refine ⟨(by show 1 ≤ sizeLine; decide), fun L2 hL2 => ?_⟩
        have SL2 : Same H16 (upd H16 L2 (.lst [.ref p3])) := fun b o e => (upd_ne (ne_of_none e hL2)).trans e
        refine ⟨L1, L2, _, _, rfl, rfl, SL2 _ _ lL16, upd_same, (by show 2 + 1 ≤ sizeLine; decide), fun L3 hL3 => ?_⟩
        have SL3 : Same (upd H16 L2 (.lst [.ref p3])) (upd (upd H16 L2 (.lst [.ref p3])) L3 (.lst ([.ref p1, .ref p2] ++ [.ref p3]))) := fun b o e => (upd_ne (ne_of_none e hL3)).trans e
        have lL3 : upd (upd H16 L2 (.lst [.ref p3])) L3 (.lst ([.ref p1, .ref p2] ++ [.ref p3])) L3 = some (.lst [.ref p1, .ref p2, .ref p3]) := upd_same
        have S17 := SL2.trans SL3
        have I17 := I16.same S17
        have sA17 := sA16.same S17
        have sB17 := sB16.same S17
        have tp17 := S17 _ _ tp16
        have tq17 := S17 _ _ tq16
        have tr17 := S17 _ _ tr16
        generalize upd (upd H16 L2 (.lst [.ref p3])) L3 (.lst ([.ref p1, .ref p2] ++ [.ref p3])) = H17 at lL3 I17 sA17 sB17 tp17 tq17 tr17
        have ndn : (t0.flat.map (·.1)).Nodup := I7.ok.names hA
        have its : Paired (ItemAt H17) [p1, p2, p3] [(n, num acc n + 1, path), (n, num acc n, path2), (o, num acc n, path)] := .cons ⟨sh, tp17, sA17⟩ (.cons ⟨sh2, tq17, sB17⟩ (.cons ⟨sh, tr17, sA17⟩ .nil))
        have wok : ∀ w ∈ [(n, num acc n + 1, path), (n, num acc n, path2), (o, num acc n, path)], Item n (num acc n) path t0 w := fun w hw => by
          rcases List.mem_cons.mp hw with rfl | hw
          · exact ⟨nmn, by show 0 ≤ num acc n + 1; omega, by show num acc n + 1 ≤ 10 ^ 13; omega, ⟨_, hplug⟩, h6, wrong1 hplug⟩
          rcases List.mem_cons.mp hw with rfl | hw
          · exact ⟨nmn, x0, by show num acc n ≤ 10 ^ 13; omega, ⟨_, hplug2⟩, h62, wrong2 hplug hplug2 ndn⟩
          rw [List.mem_singleton.mp hw]
          exact ⟨nmo, x0, by show num acc n ≤ 10 ^ 13; omega, ⟨_, hplug⟩, h6, wrong3 hplug⟩
        have l3 : [(n, num acc n + 1, path), (n, num acc n, path2), (o, num acc n, path)].length = 3 := rfl
        generalize [(n, num acc n + 1, path), (n, num acc n, path2), (o, num acc n, path)] = ws at its wok l3
        refine ⟨L3, rfl, ⟨_, SqL.of lL3⟩, for_list (K := K) (a := L3) (xs := [p1, p2, p3].map V.ref) (fun j σ' H' => ∃ (zs3 : List Str) (v13 v14 v15 v16 : Option V),
          σ' = [some (.ref scr), some (.ref st), some (.int (0 + (i0 : Int))), some (.ref a), some (.ref f), some (.ref x), some (.ref X), some (.ref q), some (.int (((ys2.take i).map (num acc)).sum)), some (.str n), some (.ref sh), some (.str o), some (.ref L1), v13, v14, v15, v16, none] ∧
          TI K st scr ns Pt a acc f d C x ys fs t0 q X ys2 zs3 H' ∧ zs3.length ≤ 128 + 28 * i + 7 + 7 * j ∧ H' L3 = some (.lst ([p1, p2, p3].map V.ref)) ∧ Paired (ItemAt H') [p1, p2, p3] ws ∧ ShareAt H' sh path) ⟨zs1, _, _, _, _, rfl, I17, by omega, lL3, its, sA17⟩ (fun _ _ H' _ Iv => ?_) ?_ ?_⟩
        · obtain ⟨_, _, _, _, _, _, _, _, hl, _⟩ := Iv
          exact SqL.of hl
        · rintro j y σ H18 hy ⟨zs3, v13, v14, v15, v16, rfl, I18, hl18, lL18, its18, sA18⟩
          have hj : j < ws.length := by
            have z := (List.getElem?_eq_some_iff.mp hy).1
            rw [l3]
            exact z
          obtain ⟨b, eb, s, hb, hbs⟩ := paired_get its18 (List.getElem?_eq_getElem hj)
          have W := wok _ (List.getElem_mem hj)
          have hj3 : j < 3 := by rw [l3] at hj; exact hj
          generalize ws[j] = w at hb hbs W
          have ey : y = V.ref b := by
            rw [List.getElem?_map, eb] at hy
            exact (Option.some.inj hy).symm
          subst ey
          refine ⟨b, _, rfl, SqT.of hb, rfl, _, _, rfl, _, _, rfl, _, _, rfl, rfl, ?_⟩
          refine tOr_byS (a := !PyData.eqv (.tuple [.str w.1, pd w.2.2]) (.tuple [.str n, pd path])) (b := !decide (V.int w.2.1 = V.int (num acc n))) (fun Q' q' => ?_) (fun _ H19 S19 Q' q' => ?_) (fun H19 S19 => ?_)
          · refine ⟨_, rfl, _, rfl, (by show 2 ≤ sizeLine; decide), fun r1 hr1 => ?_⟩
            have SR1 : Same H18 (upd H18 r1 (.tup [.str w.1, .ref s])) := fun b o e => (upd_ne (ne_of_none e hr1)).trans e
            have tr1 : upd H18 r1 (.tup [.str w.1, .ref s]) r1 = some (.tup [.str w.1, .ref s]) := upd_same
            refine ⟨_, rfl, _, rfl, (by show 2 ≤ sizeLine; decide), fun r2 hr2 => ?_⟩
            have SR2 : Same (upd H18 r1 (.tup [.str w.1, .ref s])) (upd (upd H18 r1 (.tup [.str w.1, .ref s])) r2 (.tup [.str n, .ref sh])) := fun b o e => (upd_ne (ne_of_none e hr2)).trans e
            have SR := SR1.trans SR2
            exact ⟨.tuple [.str w.1, pd w.2.2], .tuple [.str n, pd path], .tup (SqT.of (SR2 _ _ tr1)) (.cons (.str _) (.cons (dp_share (hbs.same SR)) .nil)), .tup (SqT.of upd_same) (.cons (.str _) (.cons (dp_share (sA18.same SR)) .nil)), shaped_pair W.nm _, shaped_pair nmn _, _, rfl, q' _ SR⟩
          · exact ⟨_, rfl, _, rfl, _, rfl, a, _, rfl, dgn _ n (S19 _ _ I18.ac) hn, rfl, _, rfl, q'⟩
          · have I19 := I18.same S19
            have its19 := paired_mono its18 fun b w z => ItemAt.same z S19
            have sA19 := sA18.same S19
            have lL19 := S19 _ _ lL18
            refine ite2 (fun hc => ?_) (fun hc => ?_)
            · refine ⟨_, rfl, _, rfl, _, rfl, _, rfl, _, rfl, q, s, f, d, w.1, w.2.1, zs3, w.2.2, t0, rfl, I19.top, I19.ok.root, W.nm, W.lo, W.hi, hbs.same S19, ?_, I19.dig, by omega, fun zs4 m4 u4 b4 H20 B20 D20 pf20 ln20 hp20 ok20 hb20 => ⟨b4, rfl, ?_⟩⟩
              · obtain ⟨tt, ht⟩ := W.pl
                exact path_ok I19.ok hA ht W.len
              have eb4 : b4 = false := by
                cases b4 with
                | false => rfl
                | true =>
                  exfalso
                  have e := hb20.mp rfl
                  rcases W.wr with h | ⟨e1, e2, e3⟩
                  · exact h _ _ hp20 e
                  · rw [e1, e2, e3, eqv_same nmn path] at hc
                    simp at hc
              refine if_no eb4 ?_
              exact ⟨zs4, _, _, _, _, rfl, I19.asked B20 D20 pf20, by omega, B20 _ _ (I19.dig.ne lL19 fun _ z => by cases z) lL19, paired_mono its19 fun b w z => ItemAt.but z I19.dig B20, sA19.but I19.dig B20⟩
            · exact ⟨zs3, _, _, _, _, rfl, I19, by omega, lL19, its19, sA19⟩
        · rintro σ H18 ⟨zs3, v13, v14, v15, v16, rfl, I18, hl18, lL18, its18, sA18⟩
          have l33 : ([p1, p2, p3].map V.ref).length = 3 := rfl
          rw [l33] at hl18
          refine ⟨_, rfl, _, rfl, _, rfl, a, _, rfl, dgn _ n I18.ac hn, _, _, rfl, rfl, ?_⟩
          have es : (ys2.take i |>.map (num acc)).sum + num acc n = (ys2.take (i + 1) |>.map (num acc)).sum := by
            rw [List.take_add_one, en, List.map_append, List.sum_append]
            simp
          refine ⟨zs3, some (.str n), some (.ref sh), some (.str o), some (.ref L1), v13, v14, v15, v16, ?_, I18, by omega⟩
          rw [← es]
          rfl
    · rintro σ H7 ⟨zs, v9, v10, v11, v12, v13, v14, v15, v16, rfl, I7, hl7⟩
      rw [List.length_map] at hl7
      have tot : (((ys2.take (ys2.map V.str).length)).map (num acc)).sum = t0.sm := by
        rw [List.length_map, List.take_length, I7.ok.sum]
        exact perm_sum ((hperm.trans I7.ok.perm.symm).map _)
      refine ⟨_, rfl, _, rfl, q, _, _, _, rfl, rfl, SqT.of I7.top, atI_nat (j := 1) rfl, rfl, _, rfl, ?_⟩
      refine if_no (by show (!decide (V.int ((((ys2.take (ys2.map V.str).length)).map (num acc)).sum) = V.int t0.sm)) = false; rw [tot]; simp) ?_
      -- the others
      refine ⟨_, rfl, _, rfl, st, scr, a, ns, acc, rfl, I7.sta, I7.ac, hA, nas, fun H8 l os B8 st8 hl8 hos hoth => ?_⟩
      have I8 := I7.drawn B8 st8
      have oth8 : ∀ o ∈ os, o ≠ st ∧ o ≠ d ∧ ∃ qs, AccAt H8 o qs ∧ Acc qs ∧ ∃ n, qs.lookup n ≠ acc.lookup n := fun o ho => by
        obtain ⟨h1, h2⟩ := hoth o ho
        obtain ⟨ks, e1⟩ := I7.sta.dic
        exact ⟨(fun z => by rw [z, e1] at h1; cases h1), (fun z => by rw [z, I7.dig.dic] at h1; cases h1), h2⟩
      refine ⟨l, rfl, ⟨_, SqL.of hl8⟩, for_list (K := K) (a := l) (xs := os.map V.ref) (fun j σ' H' => ∃ (zs3 : List Str) (v8 v9 v10 v11 v12 v13 v14 v15 v16 : Option V),
        σ' = [some (.ref scr), some (.ref st), some (.int (0 + (i0 : Int))), some (.ref a), some (.ref f), some (.ref x), some (.ref X), some (.ref q), v8, v9, v10, v11, v12, v13, v14, v15, v16, none] ∧
        TI K st scr ns Pt a acc f d C x ys fs t0 q X ys2 zs3 H' ∧ zs3.length ≤ 2000 + 200 * j ∧ H' l = some (.lst (os.map V.ref)) ∧ ∀ o ∈ os, o ≠ st ∧ o ≠ d ∧ ∃ qs, AccAt H' o qs ∧ Acc qs ∧ ∃ n, qs.lookup n ≠ acc.lookup n) ⟨zs, _, _, _, _, _, _, _, _, _, rfl, I8, by omega, hl8, oth8⟩ (fun _ _ H' _ Iv => ?_) ?_ ?_⟩
      · obtain ⟨_, _, _, _, _, _, _, _, _, _, _, _, _, hl, _⟩ := Iv
        exact SqL.of hl
      · rintro j y σ H9 hy ⟨zs1, v8, v9, v10, v11, v12, v13, v14, v15, v16, rfl, I9, hz9, hl9, oth9⟩
        obtain ⟨o, eo, rfl⟩ : ∃ o, os[j]? = some o ∧ y = V.ref o := by
          rw [List.getElem?_map] at hy
          cases e : os[j]? with
          | none => rw [e] at hy; cases hy
          | some o => rw [e] at hy; exact ⟨o, rfl, (Option.some.inj hy).symm⟩
        have hj : j < os.length := (List.getElem?_eq_some_iff.mp eo).1
        have ho := List.mem_of_getElem? eo
        obtain ⟨nost, nod, ops, ao, Ao, dn, hdn⟩ := oth9 o ho
        have ao0 : H9 o = some (.dK (accK ops)) := ao
        -- its tree
        refine ⟨_, rfl, _, rfl, fun x2 dx2 hx2 hdx2 nx2 => ?_⟩
        have S10 : Same H9 (upd (upd H9 dx2 (.own x2)) x2 (.ins C dx2 [])) := fun b o e => by
          rw [upd_ne (ne_of_none e hx2), upd_ne (ne_of_none e hdx2)]
          exact e
        refine ⟨x2, dx2, o, f, d, ops, zs1, rfl, upd_same, S10 _ _ ao0, Ao, I9.dig.same S10, nod, by omega, fun zs2 H10 ys3 fs3 t1 B10 D10 pf10 ln10 tr10 ok10 => ⟨rfl, ?_⟩⟩
        have B9 : But d H9 H10 := fun b o n e => B10 b o n (ne_of_none e hx2) (S10 b o e)
        have I10 := I9.asked B9 D10 pf10
        have ao10 : H10 o = some (.dK (accK ops)) := B9 _ _ nod ao0
        have hl10 : H10 l = some (.lst (os.map V.ref)) := B9 _ _ (I9.dig.ne hl9 fun _ z => by cases z) hl9
        have oth10 : ∀ o ∈ os, o ≠ st ∧ o ≠ d ∧ ∃ qs, AccAt H10 o qs ∧ Acc qs ∧ ∃ n, qs.lookup n ≠ acc.lookup n := fun o ho => by
          obtain ⟨h1, h2, qs, h3, h4⟩ := oth9 o ho
          exact ⟨h1, h2, qs, B9 _ _ h2 h3, h4⟩
        have differ : t1.flat ≠ t0.flat := fun e => by
          rw [ok10.flat, I10.ok.flat] at e
          exact hdn (rowOf_eq ok10.perm I10.ok.perm e dn)
        have nmk : t1.mk ≠ t0.mk := fun e => differ (by rw [Ok.inj ok10.root I10.ok.root e])
        obtain ⟨dx3, lo3, lf3, fl3, hx10, _⟩ := id tr10
        obtain ⟨pre3, efs3⟩ := ok10.top
        refine ⟨_, rfl, x2, _, _, rfl, hx10, tfl_no _ _ (by decide +kernel) (by decide +kernel), x2, ys3, fs3, pre3, t1, rfl, tr10, efs3, fun q3 hq3 => ?_⟩
        refine ⟨q3, _, _, _, rfl, rfl, SqT.of hq3, atI_nat (j := 0) rfl, _, rfl, q, _, _, _, rfl, rfl, SqT.of I10.top, atI_nat (j := 0) rfl, rfl, _, rfl, ?_⟩
        refine if_no (by show decide (V.int t1.mk = V.int t0.mk) = false; exact decide_eq_false fun z => nmk (V.int.inj z)) ?_
        -- one of its names
        refine ⟨_, rfl, _, rfl, o, accK ops, ops.map (·.1), rfl, Rd.of ao10, accK_keys ops, fun ys4 X4 hperm4 hX4 => ?_⟩
        have S11 : Same H10 (upd H10 X4 (.lst (ys4.map V.str))) := fun b o e => (upd_ne (ne_of_none e hX4)).trans e
        have I11 := I10.same S11
        have y41 : 1 ≤ ys4.length := by rw [hperm4.length_eq, List.length_map]; exact Ao.2.2.1
        have y464 : ys4.length ≤ 64 := by rw [hperm4.length_eq, List.length_map]; exact Ao.2.2.2
        refine ⟨st, scr, ns, I11.sta, .inl ⟨X4, ys4, rfl, SqL.of upd_same, y41, by omega, fun n4 H12 hn4 B12 st12 => ?_⟩⟩
        have I12 := I11.drawn B12 st12
        obtain ⟨kst11, est11⟩ := I11.sta.dic
        have m4 : n4 ∈ ops.map (·.1) := hperm4.mem_iff.mp hn4
        have nm4 := Ao.nm m4
        obtain ⟨w0, w1⟩ := Ao.num m4
        have ao12 : AccAt H12 o ops := B12 _ _ nost (S11 _ _ ao10)
        have tr12 := (tr10.same S11).but2 est11 B12
        have hl12 : H12 l = some (.lst (os.map V.ref)) := B12 _ _ (ne_of (S11 _ _ hl10) est11 (by intro z; cases z)) (S11 _ _ hl10)
        have oth12 : ∀ o ∈ os, o ≠ st ∧ o ≠ d ∧ ∃ qs, AccAt H12 o qs ∧ Acc qs ∧ ∃ n, qs.lookup n ≠ acc.lookup n := fun o ho => by
          obtain ⟨h1, h2, qs, h3, h4⟩ := oth10 o ho
          exact ⟨h1, h2, qs, B12 _ _ h1 (S11 _ _ h3), h4⟩
        obtain ⟨dx4, lo4, lf4, fl4, hx12, _⟩ := id tr12
        have y364 : ys3.length ≤ 64 := by rw [ok10.perm.length_eq, List.length_map]; exact Ao.2.2.2
        refine ⟨_, rfl, _, rfl, _, rfl, _, rfl, o, _, rfl, dgn _ n4 ao12 m4, _, rfl, x2, _, _, rfl, hx12, tfl_no _ _ (by decide +kernel) (by decide +kernel), _, rfl, x2, n4, ops, ys3, zs2, fs3, t1, rfl, tr12, ok10, ok10.perm.mem_iff.mpr m4, ok10.nodup Ao, nm4, y364, fun path m0 H13 sh S13 hsh hplug h6 => ?_⟩
        have I13 := I12.same S13
        refine ⟨_, rfl, q, sh, f, d, n4, num ops n4, zs2, path, t0, rfl, I13.top, I13.ok.root, nm4, w0, by omega, hsh, path_ok ok10 Ao hplug h6, I13.dig, by omega, fun zs4 m5 u b4 H14 B14 D14 pf14 ln14 hp14 ok14 hb14 => ⟨b4, rfl, ?_⟩⟩
        have eb4 : b4 = false := by
          cases b4 with
          | false => rfl
          | true =>
            exfalso
            have e := hb14.mp rfl
            subst e
            exact differ (Plug.flat hplug hp14 rfl)
        refine if_no eb4 ?_
        exact ⟨zs4, _, _, _, _, _, _, _, _, _, rfl, I13.asked B14 D14 pf14, by omega, B14 _ _ (I13.dig.ne (S13 _ _ hl12) fun _ z => by cases z) (S13 _ _ hl12), fun o ho => by
          obtain ⟨h1, h2, qs, h3, h4⟩ := oth12 o ho
          exact ⟨h1, h2, qs, B14 _ _ h2 (S13 _ _ h3), h4⟩⟩
      · rintro σ H9 ⟨zs1, v8, v9, v10, v11, v12, v13, v14, v15, v16, rfl, I9, hz9, hl9, oth9⟩
        exact ⟨_, _, _, _, _, _, _, _, _, _, _, _, _, _, _, rfl, I9.sta, I9.tab⟩
end
end K78
/-! K78V: the facts put to the walks; the end. -/
namespace K78
open PySem PySem.Spec PyProof.Rows L2 LamX NdefX
abbrev l0 : PySem.W.OpenLaw := PySem.Challenge.rw_clearyard_k78_whole_accounts_within
theorem facts {w : World} {K : PySem.W.Frag} {h : Heap} {mg : Str → Option Value} {f : Addr} (X : K.In h) (G : h.Ns mainGlobals mg) (hfa : mg ("law" : Str) = some (.ref f)) (cx : He.SaysX fa fn [] tf (fun _ => true) w h K) :
    LawAtS PySem.Challenge.rw_clearyard_k78_whole_accounts_within w K CX0 6 63 "_law_script" mg f h := by
  have c : He.SaysD fa fn K := cx.t.d
  obtain ⟨fd0, F0⟩ := c.def_ 0 (d := dOf "is_name" sIsName) rfl
  obtain ⟨fd1, F1⟩ := c.def_ 1 (d := dOf "is_number" sIsNumber) rfl
  obtain ⟨fd2, F2⟩ := c.def_ 2 (d := dOf "leaf_of" sLeaf) rfl
  obtain ⟨fd3, F3⟩ := c.def_ 3 (d := dOf "node_of" sNode) rfl
  obtain ⟨fd4, F4⟩ := c.def_ 4 (d := dOf "are_accounts" sAccounts) rfl
  obtain ⟨fd5, F5⟩ := c.def_ 5 (d := dOf "row_above" sAbove) rfl
  obtain ⟨fd6, F6⟩ := c.def_ 6 (d := dIn "__init__" "Tree.__init__" sInit) rfl
  obtain ⟨fd7, F7⟩ := c.def_ 7 (d := dIn "root" "Tree.root" sRoot) rfl
  obtain ⟨fd8, F8⟩ := c.def_ 8 (d := dIn "share" "Tree.share" sShare) rfl
  obtain ⟨fd9, F9⟩ := c.def_ 9 (d := dOf "is_pair" sIsPair) rfl
  obtain ⟨fd10, F10⟩ := c.def_ 10 (d := dOf "is_beside" sIsBeside) rfl
  obtain ⟨fd11, F11⟩ := c.def_ 11 (d := dOf "shows" sShows) rfl
  obtain ⟨fd12, F12⟩ := c.def_ 12 (d := dOf "_law_begun" sBegun) rfl
  obtain ⟨fd13, F13⟩ := c.def_ 13 (d := dOf "_law_take" sTake) rfl
  obtain ⟨fd14, F14⟩ := c.def_ 14 (d := dOf "_law_pick" sPick) rfl
  obtain ⟨fd15, F15⟩ := c.def_ 15 (d := dOf "_law_names" sNames) rfl
  obtain ⟨fd16, F16⟩ := c.def_ 16 (d := dOf "_law_fresh" sFresh) rfl
  obtain ⟨fd17, F17⟩ := c.def_ 17 (d := dOf "_law_accounts" sDrawn) rfl
  obtain ⟨fd18, F18⟩ := c.def_ 18 (d := dOf "_law_others" sOthers) rfl
  obtain ⟨fd19, F19⟩ := c.def_ 19 (d := dOf "law" sLaw) rfl
  have e := hfa.symm.trans (He.glo_ok X G (c.fact 17 (f := .glo "law") rfl))
  cases e
  have tx : TX K mg := ⟨He.free_ok X G (c.fact 18 (f := .free "isinstance") rfl), He.free_ok X G (c.fact 19 (f := .free "str") rfl), He.free_ok X G (c.fact 20 (f := .free "len") rfl), He.free_ok X G (c.fact 21 (f := .free "all") rfl), He.free_ok X G (c.fact 22 (f := .free "int") rfl),
    He.free_ok X G (c.fact 23 (f := .free "bool") rfl), He.free_ok X G (c.fact 24 (f := .free "dict") rfl), He.free_ok X G (c.fact 25 (f := .free "range") rfl), He.free_ok X G (c.fact 26 (f := .free "sorted") rfl), He.free_ok X G (c.fact 27 (f := .free "tuple") rfl), He.free_ok X G (c.fact 28 (f := .free "min") rfl),
    He.free_ok X G (c.fact 29 (f := .free "sum") rfl), He.str_ok X G (c.fact 34 (f := .str "LETTERS" "abcdefghijklmnopqrstuvwxyz") rfl), He.int_ok X G (c.fact 30 (f := .int "LONGEST" 8) rfl), He.int_ok X G (c.fact 31 (f := .int "MOST_LEAVES" 64) rfl), He.int_ok X G (c.fact 32 (f := .int "MOST_NUMBER" 1000000000000) rfl),
    He.int_ok X G (c.fact 33 (f := .int "MOST_MARK" 1000000000000000000000000000000) rfl), He.str_ok X G (c.fact 35 (f := .str "LEFT" "left") rfl), He.str_ok X G (c.fact 36 (f := .str "RIGHT" "right") rfl)⟩
  have ct : CT K mg (He.ga K "Tree") := ⟨He.cls_ok (c.fact 37 (f := .cls "Tree") rfl), He.noat_ok (c.fact 38 (f := .noat "Tree" "order") rfl), He.noat_ok (c.fact 39 (f := .noat "Tree" "floors") rfl), He.glo_ok X G (c.fact 6 (f := .glo "Tree") rfl)⟩
  -- the digest's code object and its table
  obtain ⟨cc, hfr⟩ : ∃ cc, He.codeOf K ("_law_fresh", none) = cc ∧ FreshAt K cc (He.ga K "_law_fresh") fd16 := by
    obtain ⟨oc, od, dV, kV, doc, pm, an, cdv, ctv, osl, rfl, lk, hcd, _, _⟩ := F16.ex
    obtain ⟨cc, rfl⟩ := He.codeIn_ref hcd
    exact ⟨cc, He.codeOf_eq lk rfl, ⟨oc, od, dV, kV, doc, pm, an, ctv, osl, rfl, lk, hcd⟩⟩
  obtain ⟨rfl, fra⟩ := hfr
  have hfin : (("_law_fresh", none) : He.Defn) ∈ tf := List.mem_cons_self
  refine ⟨fd19, [He.cT K ("_law_fresh", none)], spLaw K (He.tabOf K (He.codeOf K ("_law_fresh", none))), fun p hp => ?_, fun p hp => ?_, fun p hp => ?_, fun s u => ?_, fun H a ns hl _ hT hS => ?_, fun base KB GB TB => ?_⟩
  · rw [List.mem_singleton.mp hp]
    exact cx.empty _ hfin
  · rw [List.mem_singleton.mp hp]
    exact cx.out _ hfin
  · rw [List.mem_singleton.mp hp]
    exact PySem.W.codeHd_of_K X (cx.hd _ hfin)
  · exact FunD.bindsA (ps := ["_law_script"]) F19 (fun _ _ _ _ _ _ us hl => match us, hl with | [_], _ => rfl) s [u] rfl
  · exact ⟨a, ns, rfl, hS, hl, fun p hp => by rw [List.mem_singleton.mp hp]; exact TabN.nil (hT _ List.mem_cons_self), fun _ => rfl⟩
  · have TBf : TabB base mg (He.codeOf K ("_law_fresh", none)) (He.tabOf K (He.codeOf K ("_law_fresh", none))) := TB _ List.mem_cons_self
    have A0 : Has l0.prog w K mg base 1 "is_name" ["thing"] spIsName _ fd0 := ⟨ok_isName F0 tx, He.glo_ok X G (c.fact 0 (f := .glo "is_name") rfl), F0.kp, F0.bindsN fun _ _ _ _ _ _ us hl => match us, hl with | [_], _ => rfl⟩
    have A1 : Has l0.prog w K mg base 1 "is_number" ["thing", "low", "high"] spIsNumber _ fd1 := ⟨ok_isNumber F1 tx, He.glo_ok X G (c.fact 1 (f := .glo "is_number") rfl), F1.kp, F1.bindsN fun _ _ _ _ _ _ us hl => match us, hl with | [_, _, _], _ => rfl⟩
    have A2 : Has l0.prog w K mg base 2 "leaf_of" ["name", "number", "digest"] spLeaf _ fd2 := ⟨ok_leaf F2 tx, He.glo_ok X G (c.fact 2 (f := .glo "leaf_of") rfl), F2.kp, F2.bindsN fun _ _ _ _ _ _ us hl => match us, hl with | [_, _, _], _ => rfl⟩
    have A3 : Has l0.prog w K mg base 2 "node_of" ["one", "other", "digest"] spNode _ fd3 := ⟨ok_node F3 tx, He.glo_ok X G (c.fact 3 (f := .glo "node_of") rfl), F3.kp, F3.bindsN fun _ _ _ _ _ _ us hl => match us, hl with | [_, _, _], _ => rfl⟩
    have A4 : Has l0.prog w K mg base 2 "are_accounts" ["thing"] spAccounts _ fd4 := ⟨ok_accounts F4 tx A0 A1, He.glo_ok X G (c.fact 4 (f := .glo "are_accounts") rfl), F4.kp, F4.bindsN fun _ _ _ _ _ _ us hl => match us, hl with | [_], _ => rfl⟩
    have A5 : Has l0.prog w K mg base 3 "row_above" ["row", "digest"] spAbove _ fd5 := ⟨ok_above F5 tx A3, He.glo_ok X G (c.fact 5 (f := .glo "row_above") rfl), F5.kp, F5.bindsN fun _ _ _ _ _ _ us hl => match us, hl with | [_, _], _ => rfl⟩
    have A6 := ok_init (P := l0.prog) (w := w) (base := base) F6 tx ct A4 A2 A5
    have B6 : Binds K fd6 ["self", "accounts", "digest"] [] := F6.bindsN fun _ _ _ _ _ _ us hl => match us, hl with | [_, _, _], _ => rfl
    have A7 := ok_root (P := l0.prog) (w := w) (base := base) F7 ct
    have B7 : Binds K fd7 ["self"] [] := F7.bindsN fun _ _ _ _ _ _ us hl => match us, hl with | [_], _ => rfl
    have A8 := ok_share (P := l0.prog) (w := w) (base := base) F8 tx ct A0
    have B8 : Binds K fd8 ["self", "name"] [] := F8.bindsN fun _ _ _ _ _ _ us hl => match us, hl with | [_, _], _ => rfl
    have A9 : Has l0.prog w K mg base 2 "is_pair" ["thing"] spIsPair _ fd9 := ⟨ok_isPair F9 tx A1, He.glo_ok X G (c.fact 7 (f := .glo "is_pair") rfl), F9.kp, F9.bindsN fun _ _ _ _ _ _ us hl => match us, hl with | [_], _ => rfl⟩
    have A10 : Has l0.prog w K mg base 3 "is_beside" ["thing"] spIsBeside _ fd10 := ⟨ok_isBeside F10 tx A9, He.glo_ok X G (c.fact 8 (f := .glo "is_beside") rfl), F10.kp, F10.bindsN fun _ _ _ _ _ _ us hl => match us, hl with | [_], _ => rfl⟩
    have A11 : Has l0.prog w K mg base 4 "shows" ["root", "name", "number", "share", "digest"] spShows _ fd11 := ⟨ok_shows F11 tx A9 A0 A1 A10 A2 A3, He.glo_ok X G (c.fact 9 (f := .glo "shows") rfl), F11.kp, F11.bindsN fun _ _ _ _ _ _ us hl => match us, hl with | [_, _, _, _, _], _ => rfl⟩
    have A12 : Has l0.prog w K mg base 1 "_law_begun" ["_law_script"] (spBegun K) _ fd12 := ⟨ok_begun F12, He.glo_ok X G (c.fact 10 (f := .glo "_law_begun") rfl), F12.kp, F12.bindsN fun _ _ _ _ _ _ us hl => match us, hl with | [_], _ => rfl⟩
    have A13 : Has l0.prog w K mg base 1 "_law_take" ["_law_state", "_law_many"] (spTake K) _ fd13 := ⟨ok_take F13 tx, He.glo_ok X G (c.fact 11 (f := .glo "_law_take") rfl), F13.kp, F13.bindsN fun _ _ _ _ _ _ us hl => match us, hl with | [_, _], _ => rfl⟩
    have A14 : Has l0.prog w K mg base 2 "_law_pick" ["_law_state", "_law_some"] (spPick K) _ fd14 := ⟨ok_pick F14 tx A13, He.glo_ok X G (c.fact 12 (f := .glo "_law_pick") rfl), F14.kp, F14.bindsN fun _ _ _ _ _ _ us hl => match us, hl with | [_, _], _ => rfl⟩
    have A15 : Has l0.prog w K mg base 3 "_law_names" ["_law_state", "_law_many"] (spNames K) _ fd15 := ⟨ok_names F15 tx A13 A14, He.glo_ok X G (c.fact 13 (f := .glo "_law_names") rfl), F15.kp, F15.bindsN fun _ _ _ _ _ _ us hl => match us, hl with | [_, _], _ => rfl⟩
    have A16 : Has l0.prog w K mg base 1 "_law_fresh" [] (spFresh (He.tabOf K (He.codeOf K ("_law_fresh", none)))) _ fd16 := ⟨ok_fresh fra TBf, He.glo_ok X G (c.fact 14 (f := .glo "_law_fresh") rfl), F16.kp, F16.bindsN fun _ _ _ _ _ _ us hl => match us, hl with | [], _ => rfl⟩
    have A17 : Has l0.prog w K mg base 4 "_law_accounts" ["_law_state"] (spDrawn K) _ fd17 := ⟨ok_drawn F17 tx A13 A15, He.glo_ok X G (c.fact 15 (f := .glo "_law_accounts") rfl), F17.kp, F17.bindsN fun _ _ _ _ _ _ us hl => match us, hl with | [_], _ => rfl⟩
    have A18 : Has l0.prog w K mg base 3 "_law_others" ["_law_state", "_law_accounts_here"] (spOthers K) _ fd18 := ⟨ok_others F18 tx A14, He.glo_ok X G (c.fact 16 (f := .glo "_law_others") rfl), F18.kp, F18.bindsN fun _ _ _ _ _ _ us hl => match us, hl with | [_, _], _ => rfl⟩
    exact ok_law F19 tx ct (He.mkr_ok (c.fact 42 (f := .mkr "Tree") rfl)) (He.meth_ok (c.fact 40 (f := .meth "Tree" "root") rfl)) (He.meth_ok (c.fact 41 (f := .meth "Tree" "share") rfl)) A12 A17 A6 B6 A7 B7 A8 B8 A11 A14 A18 A16
end K78
open PySem PySem.W PySem.Calls PyProof.Rows
theorem PySem.Challenge.cw_clearyard_k78_whole_accounts_within_holds : PySem.Challenge.rw_clearyard_k78_whole_accounts_within.Holds := by
  w_on; o_law
  refine HandSHeadRun.head_any (r := K78.RR) (q := PySem.W.view K78.RR.prog [31]) (H := K78.hk) (ob := K78.ob) (M := 3000) (loose := K78.lo) (d := HandSHeadRun.topDef K78.RR.prog 31) (kwd := []) K78.ob_eq
    (by kernel_rfl) (fun s => by kernel_rfl) K78.run (by kernel_rfl) (by kernel_rfl) (by kernel_rfl) (by rfl) (by first | assumption | decide +kernel) (by decide +kernel) ⟨rfl, rfl, rfl, rfl, rfl, by decide +kernel⟩ ?hw ?hc
  case hw => w_witness2
  case hc =>
    refine LamX.walk_ofTsE (l := PySem.Challenge.rw_clearyard_k78_whole_accounts_within) (n := 63) (k := 6) (x := "_law_script") (CX := fun _ => L2.CX0) rfl (by decide) (by kernel_rfl) ⟨rfl, by decide, by decide⟩ ?F (fun _ _ _ _ _ z => z)
    intro w mg fa h Y G hmg0
    obtain ⟨K, KX, c⟩ := Y
    have hmg : mg ("law" : PySem.Str) = some (.ref fa) := by
      have e : (HandSHeadRun.topDef K78.RR.prog 31).name = ("law" : PySem.Str) := by kernel_rfl
      rw [← e]
      exact hmg0
    exact ⟨K, KX, K78.facts KX G hmg c⟩
