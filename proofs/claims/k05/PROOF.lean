import PyProof.Rows.All
import Wide.All
import OpenK.AllK
import Wide.FinOn
import HandS.ForMost
import HandS.ForExc
import HandS.IsInst
import HandS.Flow
import HandS.Style
import HandS.Wide
import HandS.WideBits
import HandS.Defaults
import HandS.TupAny
import HandS.RaiseMore
import PyProof.ReprReads
import PyProof.Rows.Digits
import PySem.Challenge.RW_anywidth_k05_tables_run
import PyProof.RulesMatch
set_option Elab.async false
set_option linter.all false
set_option autoImplicit false
set_option maxRecDepth 100000
set_option maxHeartbeats 4000000

/-! S1: logical values, logical memory, results; how they stand in the abstract heap. -/
namespace G
open PySem L2

inductive D where
  | non | bl (b : Bool) | int (i : Int) | str (s : Str) | tup (xs : List D) | loc (n : Nat)
instance : Inhabited D := ⟨.non⟩

inductive O where
  | lst (xs : List D) | rol (xs : List D)

abbrev Mem := List O
structure Exn where
  cls : Nat
  fs : List D

inductive Res (α : Type) where
  | ok (a : α) (M : Mem) | ex (e : Exn) (M : Mem) | no

@[simp] def Res.bind {α β : Type} (r : Res α) (f : α → Mem → Res β) : Res β := match r with
  | .ok a M => f a M
  | .ex e M => .ex e M
  | .no => .no

abbrev Env := List (Option D)
abbrev LE := Env → Mem → Res D
abbrev LT := Env → Mem → Res Bool
abbrev LA := Env → Mem → Res (List D)
inductive Fl where
  | nx | rt (d : D) | bk | ct | xc (e : Exn)
abbrev LS := Env → Mem → Res (Fl × Env)
abbrev LG := D → Env → Mem → Res Env

/-! ### how a logical value stands in the abstract heap -/
section
variable (K : PySem.W.Frag) (μ : List Addr) (H : Hp)
mutual
def Rv : D → V → Prop
  | .non, v => v = .non
  | .bl b, v => v = .bl b
  | .int i, v => v = .int i
  | .str s, v => v = .str s
  | .loc n, v => ∃ a, v = .ref a ∧ μ[n]? = some a
  | .tup ds, v => ∃ a vs, v = .ref a ∧ SqT K H a vs ∧ Rvs ds vs
def Rvs : List D → List V → Prop
  | [], vs => vs = []
  | d :: ds, vs => ∃ v r, vs = v :: r ∧ Rv d v ∧ Rvs ds r
end
end

def Ext (μ μ' : List Addr) : Prop := ∀ (n : Nat) (a : Addr), μ[n]? = some a → μ'[n]? = some a
theorem Ext.refl (μ : List Addr) : Ext μ μ := fun _ _ h => h
theorem Ext.trans {a b c : List Addr} (x : Ext a b) (y : Ext b c) : Ext a c := fun n v h => y n v (x n v h)
theorem Ext.push (μ : List Addr) (p : Addr) : Ext μ (μ ++ [p]) := fun n a h => by
  rw [List.getElem?_append_left (List.getElem?_eq_some_iff.mp h).1]; exact h
/-- the tuples stay -/
def Tk (K : PySem.W.Frag) (H H' : Hp) : Prop := ∀ a xs, SqT K H a xs → SqT K H' a xs
theorem Tk.refl (K : PySem.W.Frag) (H : Hp) : Tk K H H := fun _ _ h => h
theorem Tk.trans {K : PySem.W.Frag} {a b c : Hp} (x : Tk K a b) (y : Tk K b c) : Tk K a c := fun n v h => y n v (x n v h)
theorem Tk.new {K : PySem.W.Frag} {H : Hp} {p : Addr} {o : HO} (h : H p = none) : Tk K H (upd H p o) := fun a xs q => by
  rcases q with (q | ⟨o, q⟩) | q
  · exact .inl (.inl (by rw [upd_ne (ne_of_none q h)]; exact q))
  · exact .inl (.inr ⟨o, by rw [upd_ne (ne_of_none q h)]; exact q⟩)
  · exact .inr q
theorem Tk.lst {K : PySem.W.Frag} {H : Hp} {p : Addr} {xs : List V} {o : HO} (h : H p = some (.lst xs)) : Tk K H (upd H p o) := fun a ys q => by
  rcases q with (q | ⟨o, q⟩) | q
  · exact .inl (.inl (by rw [upd_ne (ne_of q h (by intro z; cases z))]; exact q))
  · exact .inl (.inr ⟨o, by rw [upd_ne (ne_of q h (by intro z; cases z))]; exact q⟩)
  · exact .inr q

section
variable {K : PySem.W.Frag} {μ μ' : List Addr} {H H' : Hp}
mutual
theorem Rv.mono (e : Ext μ μ') (t : Tk K H H') : ∀ (d : D) {v : V}, Rv K μ H d v → Rv K μ' H' d v
  | .non, _, h => by unfold Rv at h ⊢; exact h
  | .bl b, _, h => by unfold Rv at h ⊢; exact h
  | .int i, _, h => by unfold Rv at h ⊢; exact h
  | .str s, _, h => by unfold Rv at h ⊢; exact h
  | .loc n, _, h => by
    unfold Rv at h ⊢
    obtain ⟨a, h1, h2⟩ := h
    exact ⟨a, h1, e n a h2⟩
  | .tup ds, _, h => by
    unfold Rv at h ⊢
    obtain ⟨a, vs, h1, h2, h3⟩ := h
    exact ⟨a, vs, h1, t _ _ h2, Rvs.mono e t ds h3⟩
theorem Rvs.mono (e : Ext μ μ') (t : Tk K H H') : ∀ (ds : List D) {vs : List V}, Rvs K μ H ds vs → Rvs K μ' H' ds vs
  | [], _, h => by unfold Rvs at h ⊢; exact h
  | d :: ds, _, h => by
    unfold Rvs at h ⊢
    obtain ⟨v, r, h1, h2, h3⟩ := h
    exact ⟨v, r, h1, Rv.mono e t d h2, Rvs.mono e t ds h3⟩
end
theorem Rvs.length : ∀ {ds : List D} {vs : List V}, Rvs K μ H ds vs → vs.length = ds.length
  | [], _, h => by unfold Rvs at h; subst h; rfl
  | d :: ds, _, h => by
    unfold Rvs at h
    obtain ⟨v, r, h1, h2, h3⟩ := h
    subst h1
    rw [List.length_cons, List.length_cons, Rvs.length h3]
theorem rvs_nil : Rvs K μ H [] [] := by unfold Rvs; rfl
theorem rvs_cons {d : D} {ds : List D} {v : V} {vs : List V} (h : Rv K μ H d v) (t : Rvs K μ H ds vs) : Rvs K μ H (d :: ds) (v :: vs) := by
  unfold Rvs; exact ⟨v, vs, rfl, h, t⟩
theorem Rvs.get : ∀ {ds : List D} {vs : List V} {i : Nat} {d : D}, Rvs K μ H ds vs → ds[i]? = some d → ∃ v, vs[i]? = some v ∧ Rv K μ H d v
  | [], _, _, _, _, e => by simp at e
  | d :: ds, _, 0, _, h, e => by
    unfold Rvs at h
    obtain ⟨v, r, h1, h2, h3⟩ := h
    subst h1
    simp at e; subst e
    exact ⟨v, rfl, h2⟩
  | d :: ds, _, i + 1, _, h, e => by
    unfold Rvs at h
    obtain ⟨v, r, h1, h2, h3⟩ := h
    subst h1
    obtain ⟨w, q1, q2⟩ := Rvs.get (i := i) h3 (by simpa using e)
    exact ⟨w, by simpa using q1, q2⟩
theorem Rvs.get' : ∀ {ds : List D} {vs : List V} {i : Nat} {v : V}, Rvs K μ H ds vs → vs[i]? = some v → ∃ d, ds[i]? = some d ∧ Rv K μ H d v := fun {ds vs i v} h e => by
  have hi : i < ds.length := by rw [← h.length]; exact (List.getElem?_eq_some_iff.mp e).1
  obtain ⟨w, q1, q2⟩ := h.get (List.getElem?_eq_getElem hi)
  rw [e] at q1; cases q1
  exact ⟨_, List.getElem?_eq_getElem hi, q2⟩
theorem Rvs.append : ∀ {ds es : List D} {vs ws : List V}, Rvs K μ H ds vs → Rvs K μ H es ws → Rvs K μ H (ds ++ es) (vs ++ ws)
  | [], _, _, _, h, t => by unfold Rvs at h; subst h; exact t
  | d :: ds, _, _, _, h, t => by
    unfold Rvs at h
    obtain ⟨v, r, h1, h2, h3⟩ := h
    subst h1
    exact rvs_cons h2 (Rvs.append h3 t)
theorem Rvs.take : ∀ {ds : List D} {vs : List V} (n : Nat), Rvs K μ H ds vs → Rvs K μ H (ds.take n) (vs.take n)
  | _, _, 0, _ => by simp only [List.take_zero]; exact rvs_nil
  | [], _, n + 1, h => by unfold Rvs at h; subst h; exact rvs_nil
  | d :: ds, _, n + 1, h => by
    unfold Rvs at h
    obtain ⟨v, r, h1, h2, h3⟩ := h
    subst h1
    exact rvs_cons h2 (Rvs.take n h3)
theorem Rvs.drop : ∀ {ds : List D} {vs : List V} (n : Nat), Rvs K μ H ds vs → Rvs K μ H (ds.drop n) (vs.drop n)
  | _, _, 0, h => h
  | [], _, n + 1, h => by unfold Rvs at h; subst h; exact rvs_nil
  | d :: ds, _, n + 1, h => by
    unfold Rvs at h
    obtain ⟨v, r, h1, h2, h3⟩ := h
    subst h1
    exact Rvs.drop n h3
theorem Rvs.set {e : D} {w : V} (r : Rv K μ H e w) : ∀ {ds : List D} {vs : List V} (i : Nat), Rvs K μ H ds vs → Rvs K μ H (ds.set i e) (vs.set i w)
  | [], _, i, h => by unfold Rvs at h; subst h; exact rvs_nil
  | d :: ds, _, 0, h => by
    unfold Rvs at h
    obtain ⟨v, r', h1, h2, h3⟩ := h
    subst h1
    exact rvs_cons r h3
  | d :: ds, _, i + 1, h => by
    unfold Rvs at h
    obtain ⟨v, r', h1, h2, h3⟩ := h
    subst h1
    exact rvs_cons h2 (Rvs.set r i h3)
theorem Rvs.reverse : ∀ {ds : List D} {vs : List V}, Rvs K μ H ds vs → Rvs K μ H ds.reverse vs.reverse
  | [], _, h => by unfold Rvs at h; subst h; exact rvs_nil
  | d :: ds, _, h => by
    unfold Rvs at h
    obtain ⟨v, r, h1, h2, h3⟩ := h
    subst h1
    rw [List.reverse_cons, List.reverse_cons]
    exact (Rvs.reverse h3).append (rvs_cons h2 rvs_nil)
theorem Rvs.one {d : D} {vs : List V} (h : Rvs K μ H [d] vs) : ∃ v, vs = [v] ∧ Rv K μ H d v := by
  unfold Rvs at h
  obtain ⟨v, r, h1, h2, h3⟩ := h
  unfold Rvs at h3
  subst h3
  exact ⟨v, h1, h2⟩
theorem Rvs.uncons {d : D} {ds : List D} {vs : List V} (h : Rvs K μ H (d :: ds) vs) : ∃ v r, vs = v :: r ∧ Rv K μ H d v ∧ Rvs K μ H ds r := by
  unfold Rvs at h; exact h
theorem Rvs.nil {vs : List V} (h : Rvs K μ H [] vs) : vs = [] := by unfold Rvs at h; exact h
theorem Rvs.mapInt : ∀ {ns : List Int} {vs : List V}, Rvs K μ H (ns.map D.int) vs → vs = ns.map V.int
  | [], _, h => h.nil
  | n :: ns, _, h => by
    obtain ⟨v, r, rfl, h2, h3⟩ := Rvs.uncons h
    unfold Rv at h2
    rw [List.map_cons, Rvs.mapInt h3, h2]
theorem rvs_ints : ∀ (ns : List Int), Rvs K μ H (ns.map D.int) (ns.map V.int)
  | [] => rvs_nil
  | n :: ns => rvs_cons (by unfold Rv; rfl) (rvs_ints ns)

/-! values of one kind -/
theorem rv_non : Rv K μ H .non .non := by unfold Rv; rfl
theorem rv_bl (b : Bool) : Rv K μ H (.bl b) (.bl b) := by unfold Rv; rfl
theorem rv_int (i : Int) : Rv K μ H (.int i) (.int i) := by unfold Rv; rfl
theorem rv_str (s : Str) : Rv K μ H (.str s) (.str s) := by unfold Rv; rfl
theorem rv_tup {ds : List D} {a : Addr} {vs : List V} (h : SqT K H a vs) (r : Rvs K μ H ds vs) : Rv K μ H (.tup ds) (.ref a) := by unfold Rv; exact ⟨a, vs, rfl, h, r⟩
theorem rv_loc {n : Nat} {a : Addr} (h : μ[n]? = some a) : Rv K μ H (.loc n) (.ref a) := by unfold Rv; exact ⟨a, rfl, h⟩
theorem Rv.non {v : V} (h : Rv K μ H .non v) : v = .non := by unfold Rv at h; exact h
theorem Rv.bl {b : Bool} {v : V} (h : Rv K μ H (.bl b) v) : v = .bl b := by unfold Rv at h; exact h
theorem Rv.int {i : Int} {v : V} (h : Rv K μ H (.int i) v) : v = .int i := by unfold Rv at h; exact h
theorem Rv.str {s : Str} {v : V} (h : Rv K μ H (.str s) v) : v = .str s := by unfold Rv at h; exact h
theorem Rv.tup {ds : List D} {v : V} (h : Rv K μ H (.tup ds) v) : ∃ a vs, v = .ref a ∧ SqT K H a vs ∧ Rvs K μ H ds vs := by unfold Rv at h; exact h
theorem Rv.loc {n : Nat} {v : V} (h : Rv K μ H (.loc n) v) : ∃ a, v = .ref a ∧ μ[n]? = some a := by unfold Rv at h; exact h
end

/-! ### the memory -/
section
variable (K : PySem.W.Frag) (μ : List Addr) (H : Hp)
def Ro : O → Addr → Prop
  | .lst ds, a => ∃ vs, H a = some (.lst vs) ∧ Rvs K μ H ds vs
  | .rol ds, a => ∃ vs, ((∃ o, H a = some (.frz o (.lst vs))) ∨ ∃ (o : Obj) (its : Array Value) (n : Nat), K.lookup a = some o ∧ o.cls = .type "list" ∧ o.dict = none ∧ o.data = .seq its n ∧ its.size ≤ sizeLine ∧ Vals vs its.toList) ∧ Rvs K μ H ds vs
structure RM (M : Mem) : Prop where
  len : μ.length = M.length
  inj : ∀ (i j : Nat) (a : Addr) (ds es : List D), μ[i]? = some a → μ[j]? = some a → M[i]? = some (.lst ds) → M[j]? = some (.lst es) → i = j
  obj : ∀ (i : Nat) (a : Addr) (o : O), μ[i]? = some a → M[i]? = some o → Ro K μ H o a
end
section
variable {K : PySem.W.Frag} {μ μ' : List Addr} {H H' : Hp} {M : Mem}
theorem RM.at (r : RM K μ H M) {n : Nat} {o : O} (h : M[n]? = some o) : ∃ a, μ[n]? = some a ∧ Ro K μ H o a := by
  have hn : n < μ.length := by rw [r.len]; exact (List.getElem?_eq_some_iff.mp h).1
  exact ⟨_, List.getElem?_eq_getElem hn, r.obj _ _ _ (List.getElem?_eq_getElem hn) h⟩
theorem RM.lst (r : RM K μ H M) {n : Nat} {a : Addr} {ds : List D} (ha : μ[n]? = some a) (h : M[n]? = some (.lst ds)) : ∃ vs, H a = some (.lst vs) ∧ Rvs K μ H ds vs := r.obj _ _ _ ha h
/-- what may be read as a list -/
def O.items : O → List D
  | .lst ds => ds
  | .rol ds => ds
theorem RM.sql (r : RM K μ H M) {n : Nat} {a : Addr} {o : O} (ha : μ[n]? = some a) (h : M[n]? = some o) : ∃ vs, SqL K H a vs ∧ Rvs K μ H o.items vs := by
  have q := r.obj _ _ _ ha h
  cases o with
  | lst ds =>
    obtain ⟨vs, h1, h2⟩ := q
    exact ⟨vs, SqL.of h1, h2⟩
  | rol ds =>
    obtain ⟨vs, h1, h2⟩ := q
    refine ⟨vs, ?_, h2⟩
    rcases h1 with ⟨o, h1⟩ | h1
    · exact .inl (.inr ⟨o, h1⟩)
    · exact .inr h1
/-- a new object that is not of the memory -/
theorem RM.keep (r : RM K μ H M) {p : Addr} {o : HO} (h : H p = none) : RM K μ (upd H p o) M := by
  refine ⟨r.len, r.inj, fun i a u ha hu => ?_⟩
  have q := r.obj i a u ha hu
  cases u with
  | lst ds =>
    obtain ⟨vs, h1, h2⟩ := q
    exact ⟨vs, by rw [upd_ne (ne_of_none h1 h)]; exact h1, h2.mono (Ext.refl _) (Tk.new h)⟩
  | rol ds =>
    obtain ⟨vs, h1, h2⟩ := q
    refine ⟨vs, ?_, h2.mono (Ext.refl _) (Tk.new h)⟩
    rcases h1 with ⟨o, h1⟩ | h1
    · exact .inl ⟨o, by rw [upd_ne (ne_of_none h1 h)]; exact h1⟩
    · exact .inr h1
theorem get_push {α : Type} {l : List α} {x y : α} {i : Nat} (h : (l ++ [x])[i]? = some y) : l[i]? = some y ∨ (i = l.length ∧ y = x) := by
  by_cases hi : i < l.length
  · rw [List.getElem?_append_left hi] at h; exact .inl h
  · rw [List.getElem?_append_right (by omega)] at h
    have : i - l.length = 0 := by
      cases e : i - l.length with
      | zero => rfl
      | succ k => rw [e] at h; simp at h
    rw [this] at h
    simp at h
    exact .inr ⟨by omega, h.symm⟩
/-- a new list -/
theorem RM.push (r : RM K μ H M) {p : Addr} {ds : List D} {vs : List V} (h : H p = none) (rv : Rvs K μ H ds vs) : RM K (μ ++ [p]) (upd H p (.lst vs)) (M ++ [.lst ds]) := by
  have hl : μ.length = M.length := r.len
  have bound : ∀ (i : Nat) (a : Addr), μ[i]? = some a → i < M.length := fun i a q => by rw [← hl]; exact (List.getElem?_eq_some_iff.mp q).1
  have bound' : ∀ (i : Nat) (o : O), M[i]? = some o → i < M.length := fun i o q => (List.getElem?_eq_some_iff.mp q).1
  refine ⟨by rw [List.length_append, List.length_append, hl]; rfl, fun i j a es fs h1 h2 h3 h4 => ?_, fun i a u h1 h2 => ?_⟩
  · rcases get_push h1 with g1 | ⟨e1, f1⟩
    · rcases get_push h2 with g2 | ⟨e2, f2⟩
      · rcases get_push h3 with g3 | ⟨e3, _⟩
        · rcases get_push h4 with g4 | ⟨e4, _⟩
          · exact r.inj i j a es fs g1 g2 g3 g4
          · have := bound _ _ g2; omega
        · have := bound _ _ g1; omega
      · rcases get_push h3 with g3 | ⟨e3, _⟩
        · obtain ⟨ws, q, _⟩ := r.lst g1 g3
          rw [f2, h] at q; cases q
        · have := bound _ _ g1; omega
    · rcases get_push h2 with g2 | ⟨e2, f2⟩
      · rcases get_push h4 with g4 | ⟨e4, _⟩
        · obtain ⟨ws, q, _⟩ := r.lst g2 g4
          rw [f1, h] at q; cases q
        · have := bound _ _ g2; omega
      · omega
  · have e := Ext.push μ p
    have t : Tk K H (upd H p (.lst vs)) := Tk.new h
    rcases get_push h1 with g1 | ⟨e1, f1⟩
    · rcases get_push h2 with g2 | ⟨e2, _⟩
      · have q := (r.keep (o := .lst vs) h).obj i a u g1 g2
        cases u with
        | lst ds =>
          obtain ⟨ws, q1, q2⟩ := q
          exact ⟨ws, q1, q2.mono e (Tk.refl _ _)⟩
        | rol ds =>
          obtain ⟨ws, q1, q2⟩ := q
          exact ⟨ws, q1, q2.mono e (Tk.refl _ _)⟩
      · have := bound _ _ g1; omega
    · rcases get_push h2 with g2 | ⟨_, f2⟩
      · have := bound' _ _ g2; omega
      · rw [f1, f2]
        exact ⟨vs, upd_same, rv.mono e t⟩
/-- a list is written -/
theorem RM.set (r : RM K μ H M) {n : Nat} {a : Addr} {ds es : List D} {ws : List V} (ha : μ[n]? = some a) (hn : M[n]? = some (.lst ds)) (rv : Rvs K μ H es ws) : RM K μ (upd H a (.lst ws)) (M.set n (.lst es)) := by
  obtain ⟨vs, hv, _⟩ := r.lst ha hn
  have t : Tk K H (upd H a (.lst ws)) := Tk.lst hv
  have hnl : n < M.length := (List.getElem?_eq_some_iff.mp hn).1
  have back : ∀ (i : Nat) (xs : List D), (M.set n (O.lst es))[i]? = some (O.lst xs) → ∃ ys, M[i]? = some (O.lst ys) := fun i xs q => by
    by_cases e : i = n
    · exact ⟨ds, by rw [e]; exact hn⟩
    · rw [List.getElem?_set_ne (Ne.symm e)] at q
      exact ⟨xs, q⟩
  refine ⟨by rw [List.length_set]; exact r.len, fun i j b xs ys h1 h2 h3 h4 => ?_, fun i b u h1 h2 => ?_⟩
  · obtain ⟨_, q3⟩ := back _ _ h3
    obtain ⟨_, q4⟩ := back _ _ h4
    exact r.inj i j b _ _ h1 h2 q3 q4
  · by_cases e : i = n
    · subst e
      rw [List.getElem?_set_self hnl] at h2
      cases h2
      rw [ha] at h1; cases h1
      exact ⟨ws, upd_same, rv.mono (Ext.refl _) t⟩
    · rw [List.getElem?_set_ne (Ne.symm e)] at h2
      have q := r.obj i b u h1 h2
      cases u with
      | lst xs =>
        obtain ⟨zs, q1, q2⟩ := q
        refine ⟨zs, ?_, q2.mono (Ext.refl _) t⟩
        have nb : b ≠ a := fun z => by
          subst z
          exact e (r.inj _ _ _ _ _ h1 ha h2 hn)
        rw [upd_ne nb]; exact q1
      | rol xs =>
        obtain ⟨zs, q1, q2⟩ := q
        refine ⟨zs, ?_, q2.mono (Ext.refl _) t⟩
        rcases q1 with ⟨o, q1⟩ | q1
        · exact .inl ⟨o, by rw [upd_ne (ne_of q1 hv (by intro z; cases z))]; exact q1⟩
        · exact .inr q1
end

/-! ### the names -/
def Rs (K : PySem.W.Frag) (μ : List Addr) (H : Hp) (L : Env) (σ : St) : Prop := L.length = σ.length ∧ ∀ (i : Nat) (d : D), L[i]? = some (some d) → ∃ v, σ[i]? = some (some v) ∧ Rv K μ H d v
section
variable {K : PySem.W.Frag} {μ μ' : List Addr} {H H' : Hp} {L : Env} {σ : St}
theorem Rs.mono (e : Ext μ μ') (t : Tk K H H') (r : Rs K μ H L σ) : Rs K μ' H' L σ := ⟨r.1, fun i d h => let ⟨v, h1, h2⟩ := r.2 i d h; ⟨v, h1, h2.mono e t⟩⟩
theorem Rs.set {d : D} {v : V} (r : Rs K μ H L σ) (rv : Rv K μ H d v) (i : Nat) : Rs K μ H (L.set i (some d)) (σ.set i (some v)) := by
  refine ⟨by rw [List.length_set, List.length_set]; exact r.1, fun j e h => ?_⟩
  by_cases q : j = i
  · subst q
    have hj : j < L.length := by
      have := (List.getElem?_eq_some_iff.mp h).1
      rwa [List.length_set] at this
    rw [List.getElem?_set_self hj] at h
    cases h
    exact ⟨v, List.getElem?_set_self (by rw [← r.1]; exact hj), rv⟩
  · rw [List.getElem?_set_ne (Ne.symm q)] at h ⊢
    exact r.2 j e h
end

/-! ### what a result asks of what follows -/
/-- an exception as it flies: its class at ce, its own dict -/
def RX (K : PySem.W.Frag) (ce : Nat → Addr × List Str) (μ : List Addr) (H : Hp) (e : Exn) (cls : Value) (dd : Option Addr) : Prop :=
  cls = .ref (ce e.cls).1 ∧ ((e.fs = [] ∧ dd = none) ∨ ∃ d vs, dd = some d ∧ H d = some (.xd ((ce e.cls).2.zip vs)) ∧ Rvs K μ H e.fs vs ∧ vs.length = (ce e.cls).2.length)
/-- the written context -/
structure Gx where
  K : PySem.W.Frag
  ce : Nat → Addr × List Str
section
variable (Γ : Gx) (E : XK)
def Pst {α β : Type} (R : List Addr → Hp → α → β → Prop) (μ : List Addr) (H : Hp) (r : Res α) (Q : β → Hp → Prop) : Prop := match r with
  | .ok a M' => ∀ μ' b H', Ext μ μ' → Tk Γ.K H H' → RM Γ.K μ' H' M' → R μ' H' a b → Q b H'
  | .ex e M' => ∀ μ' H' cls dd, Ext μ μ' → Tk Γ.K H H' → RM Γ.K μ' H' M' → RX Γ.K Γ.ce μ' H' e cls dd → E cls dd H'
  | .no => False
abbrev RvR : List Addr → Hp → D → V → Prop := fun μ H d v => Rv Γ.K μ H d v
abbrev RvsR : List Addr → Hp → List D → List V → Prop := fun μ H d v => Rvs Γ.K μ H d v
abbrev RbR : List Addr → Hp → Bool → Bool → Prop := fun _ _ a b => a = b
abbrev RsR : List Addr → Hp → Env → St → Prop := fun μ H L σ => Rs Γ.K μ H L σ
end
section
variable {Γ : Gx} {E : XK} {α β γ δ : Type} {R : List Addr → Hp → α → β → Prop} {R' : List Addr → Hp → γ → δ → Prop} {μ : List Addr} {H : Hp}
theorem Pst.shift {μ1 : List Addr} {H1 : Hp} {r : Res α} {Q : β → Hp → Prop} (e : Ext μ μ1) (t : Tk Γ.K H H1) (h : Pst Γ E R μ H r Q) : Pst Γ E R μ1 H1 r Q := by
  cases r with
  | ok a M => exact fun μ' b H' e' t' m q => h μ' b H' (e.trans e') (t.trans t') m q
  | ex x M => exact fun μ' H' c d e' t' m q => h μ' H' c d (e.trans e') (t.trans t') m q
  | no => exact h
/-- one behind the other -/
theorem Pst.bind {r : Res α} {f : α → Mem → Res γ} {Q : δ → Hp → Prop} {Q' : β → Hp → Prop} (h : Pst Γ E R' μ H (r.bind f) Q)
    (k : ∀ a M1 μ1 b H1, r = .ok a M1 → Ext μ μ1 → Tk Γ.K H H1 → RM Γ.K μ1 H1 M1 → R μ1 H1 a b → Pst Γ E R' μ1 H1 (f a M1) Q → Q' b H1) : Pst Γ E R μ H r Q' := by
  cases r with
  | ok a M => exact fun μ' b H' e t m q => k a M μ' b H' rfl e t m q (h.shift e t)
  | ex x M => exact h
  | no => exact h
theorem Pst.mono {r : Res α} {Q Q' : β → Hp → Prop} (h : Pst Γ E R μ H r Q) (k : ∀ b H1, Q b H1 → Q' b H1) : Pst Γ E R μ H r Q' := by
  cases r with
  | ok a M => exact fun μ' b H' e t m q => k _ _ (h μ' b H' e t m q)
  | ex x M => exact h
  | no => exact h
end
end G

/-! S2: expressions, tests, arguments: each construct is simulated by a combinator. -/
namespace G
open PySem L2

theorem pe_imp {X : Cx} {e : Expr} {t t' : TE} (h : PE X e t) (k : ∀ σ H Q, t' σ H Q → t σ H Q) : PE X e t' := ⟨fun pins s σ H Q I q => h.run pins s σ H Q I (k σ H Q q)⟩
theorem pt_imp {X : Cx} {e : Expr} {t t' : TT} (h : PT X e t) (k : ∀ σ H Q, t' σ H Q → t σ H Q) : PT X e t' := ⟨fun pins s σ H Q I q => h.run pins s σ H Q I (k σ H Q q)⟩
theorem pw_imp {X : Cx} {e : Expr} {t t' : TT} (h : PW X e t) (k : ∀ σ H Q, t' σ H Q → t σ H Q) : PW X e t' := ⟨fun wh pins s σ H Q I q => h.run wh pins s σ H Q I (k σ H Q q)⟩
theorem pa_imp {X : Cx} {e : List Expr} {t t' : TA} (h : PA X e t) (k : ∀ σ H Q, t' σ H Q → t σ H Q) : PA X e t' := ⟨fun pos pins s σ H Q I q => h.run pos pins s σ H Q I (k σ H Q q)⟩
theorem ps_imp {X : Cx} {e : Stmt} {t t' : TS} (h : PS X e t) (k : ∀ D σ H, t' D σ H → t D σ H) : PS X e t' := ⟨fun pins s σ H D I q => h.run pins s σ H D I (k D σ H q)⟩
theorem pss_imp {X : Cx} {e : List Stmt} {t t' : TS} (h : PSs X e t) (k : ∀ D σ H, t' D σ H → t D σ H) : PSs X e t' := ⟨fun pins s σ H D I q => h.run pins s σ H D I (k D σ H q)⟩

section
/-- what is wished for an exception, by the names' values where it is raised -/
abbrev WS := L2.St → XK
abbrev ET : XK := fun _ _ _ => True
variable (Γ : Gx) (W : WS)
def tG (m : LE) : TE := fun σ H Q => ∃ μ L M, Rs Γ.K μ H L σ ∧ RM Γ.K μ H M ∧ Pst Γ (W σ) (RvR Γ) μ H (m L M) Q
def tGT (m : LT) : TT := fun σ H Q => ∃ μ L M, Rs Γ.K μ H L σ ∧ RM Γ.K μ H M ∧ Pst Γ (W σ) RbR μ H (m L M) Q
def tGA (m : LA) : TA := fun σ H Q => ∃ μ L M, Rs Γ.K μ H L σ ∧ RM Γ.K μ H M ∧ Pst Γ (W σ) (RvsR Γ) μ H (m L M) Q
def rG (f : D → D → Mem → Res D) : R2 := fun v w H Q => ∃ μ M x y, RM Γ.K μ H M ∧ Rv Γ.K μ H x v ∧ Rv Γ.K μ H y w ∧ Pst Γ ET (RvR Γ) μ H (f x y M) Q
def rG1 (f : D → Mem → Res D) : V → Hp → VK → Prop := fun v H Q => ∃ μ M x, RM Γ.K μ H M ∧ Rv Γ.K μ H x v ∧ Pst Γ ET (RvR Γ) μ H (f x M) Q
def rGs (f : List D → Mem → Res D) : List V → Hp → VK → Prop := fun vs H Q => ∃ μ M xs, RM Γ.K μ H M ∧ Rvs Γ.K μ H xs vs ∧ Pst Γ ET (RvR Γ) μ H (f xs M) Q
def rGm (f : D → List D → Mem → Res D) : V → List V → Hp → VK → Prop := fun v vs H Q => ∃ μ M x xs, RM Γ.K μ H M ∧ Rv Γ.K μ H x v ∧ Rvs Γ.K μ H xs vs ∧ Pst Γ ET (RvR Γ) μ H (f x xs M) Q
theorem Pst.loose {Γ : Gx} {E : XK} {α β : Type} {R : List Addr → Hp → α → β → Prop} {μ : List Addr} {H : Hp} {r : Res α} {Q : β → Hp → Prop} (h : Pst Γ E R μ H r Q) : Pst Γ ET R μ H r Q := by
  cases r with
  | ok a M => exact h
  | ex e M => exact fun _ _ _ _ _ _ _ _ => trivial
  | no => exact h
end

/-! ### the combinators -/
def eV (i : Nat) : LE := fun L M => match L[i]? with
  | some (some d) => .ok d M
  | _ => .no
def eC (d : D) : LE := fun _ M => .ok d M
def eB (f : D → D → Mem → Res D) (a b : LE) : LE := fun L M => (a L M).bind fun x M1 => (b L M1).bind fun y M2 => f x y M2
def eU (f : D → Mem → Res D) (a : LE) : LE := fun L M => (a L M).bind fun x M1 => f x M1
def eF (f : List D → Mem → Res D) (a : LA) : LE := fun L M => (a L M).bind fun xs M1 => f xs M1
def eM (f : D → List D → Mem → Res D) (o : LE) (a : LA) : LE := fun L M => (o L M).bind fun x M1 => (a L M1).bind fun xs M2 => f x xs M2
def eIf (c : LT) (a b : LE) : LE := fun L M => (c L M).bind fun k M1 => if k = true then a L M1 else b L M1
def eTup (a : LA) : LE := fun L M => (a L M).bind fun xs M1 => if xs.length ≤ 1000 then .ok (.tup xs) M1 else .no
def eLst (a : LA) : LE := fun L M => (a L M).bind fun xs M1 => if xs.length ≤ 1000 then .ok (.loc M1.length) (M1 ++ [.lst xs]) else .no
def aN : LA := fun _ M => .ok [] M
def aC (e : LE) (r : LA) : LA := fun L M => (e L M).bind fun x M1 => (r L M1).bind fun xs M2 => .ok (x :: xs) M2
/-- the truth of a value -/
def truD (x : D) (M : Mem) : Res Bool := match x with
  | .non => .ok false M
  | .bl b => .ok b M
  | .int i => .ok (i != 0) M
  | .str s => if s.length ≤ 16000000 then .ok ((s.length : Int) != 0) M else .no
  | .tup ds => .ok (!ds.isEmpty) M
  | .loc n => match M[n]? with
    | some o => .ok (!o.items.isEmpty) M
    | none => .no
def asB (x : D) (M : Mem) : Res Bool := match x with
  | .bl b => .ok b M
  | _ => .no
def tV (a : LE) : LT := fun L M => (a L M).bind truD
def tCm (f : D → D → Mem → Res D) (a b : LE) : LT := fun L M => (a L M).bind fun x M1 => (b L M1).bind fun y M2 => (f x y M2).bind asB
def tA (a b : LT) : LT := fun L M => (a L M).bind fun k M1 => if k = true then b L M1 else .ok false M1
def tO (a b : LT) : LT := fun L M => (a L M).bind fun k M1 => if k = true then .ok true M1 else b L M1
def tN (a : LT) : LT := fun L M => (a L M).bind fun k M1 => .ok (!k) M1
/-- a < b < c -/
def eCh (f g : D → D → Mem → Res D) (a b c : LE) : LE := fun L M => (a L M).bind fun x M1 => (b L M1).bind fun y M2 => (f x y M2).bind fun z M3 => (asB z M3).bind fun k M4 =>
  if k = true then (c L M4).bind fun w M5 => g y w M5 else .ok (.bl false) M4
/-- and, or of values; not -/
def eAnd (a b : LE) : LE := fun L M => (a L M).bind fun x M1 => (truD x M1).bind fun k M2 => if k = true then b L M2 else .ok x M2
def eOr (a b : LE) : LE := fun L M => (a L M).bind fun x M1 => (truD x M1).bind fun k M2 => if k = true then .ok x M2 else b L M2
def eNot (a : LE) : LE := fun L M => (a L M).bind fun x M1 => (truD x M1).bind fun k M2 => .ok (.bl (!k)) M2

section
variable {Γ : Gx} {E : XK} {μ : List Addr} {H : Hp} {M : Mem}
theorem Pst.here {α β : Type} {R : List Addr → Hp → α → β → Prop} {a : α} {b : β} {Q : β → Hp → Prop} (h : Pst Γ E R μ H (.ok a M) Q) (m : RM Γ.K μ H M) (r : R μ H a b) : Q b H := h μ b H (Ext.refl _) (Tk.refl _ _) m r
theorem Pst.newT {ds : List D} {vs : List V} {p : Addr} {Q : VK} (h : Pst Γ E (RvR Γ) μ H (.ok (.tup ds) M) Q) (m : RM Γ.K μ H M) (r : Rvs Γ.K μ H ds vs) (hp : H p = none) : Q (.ref p) (upd H p (.tup vs)) :=
  h μ _ _ (Ext.refl _) (Tk.new hp) (m.keep hp) (rv_tup (SqT.of upd_same) (r.mono (Ext.refl _) (Tk.new hp)))
theorem Pst.newL {ds : List D} {vs : List V} {p : Addr} {Q : VK} (h : Pst Γ E (RvR Γ) μ H (.ok (.loc M.length) (M ++ [.lst ds])) Q) (m : RM Γ.K μ H M) (r : Rvs Γ.K μ H ds vs) (hp : H p = none) : Q (.ref p) (upd H p (.lst vs)) :=
  h (μ ++ [p]) _ _ (Ext.push _ _) (Tk.new hp) (m.push hp r) (rv_loc (by rw [← m.len, List.getElem?_append_right (Nat.le_refl _), Nat.sub_self]; rfl))
theorem Pst.set {α β : Type} {R : List Addr → Hp → α → β → Prop} {x : α} {y : β} {n : Nat} {a : Addr} {ds es : List D} {ws : List V} {Q : β → Hp → Prop} (h : Pst Γ E R μ H (.ok x (M.set n (.lst es))) Q) (m : RM Γ.K μ H M) (ha : μ[n]? = some a) (hn : M[n]? = some (.lst ds)) (rv : Rvs Γ.K μ H es ws) (r : R μ (upd H a (.lst ws)) x y) : Q y (upd H a (.lst ws)) := by
  obtain ⟨vs, hv, _⟩ := m.lst ha hn
  exact h μ _ _ (Ext.refl _) (Tk.lst hv) (m.set ha hn rv) r
end

section
variable {X : Cx} {Γ : Gx} {W : WS} {E : XK} {a b c e : Expr} {es : List Expr} {ma mb mc : LE} {pos : Pos}
theorem step_B {f : D → D → Mem → Res D} {σ : L2.St} {H : Hp} {Q : VK} (h : tG Γ W (eB f ma mb) σ H Q) : tOp (rG Γ f) (tG Γ W ma) (tG Γ W mb) σ H Q := by
  obtain ⟨μ, L, M, hs, hm, hp⟩ := h
  refine ⟨μ, L, M, hs, hm, hp.bind fun x M1 μ1 v H1 _ e1 t1 m1 r1 hp1 => ?_⟩
  refine ⟨μ1, L, M1, hs.mono e1 t1, m1, hp1.bind fun y M2 μ2 w H2 _ e2 t2 m2 r2 hp2 => ?_⟩
  exact ⟨μ2, M2, x, y, m2, r1.mono e2 t2, r2, hp2.loose⟩
theorem pm_op {op : Operator} {f : D → D → Mem → Res D} (ho : OpR X (binaryOp op) (rG Γ f)) (ha : PE X a (tG Γ W ma)) (hb : PE X b (tG Γ W mb)) : PE X (.BinOp a op b pos) (tG Γ W (eB f ma mb)) :=
  pe_imp (pe_op ho ha hb) fun _ _ _ h => step_B h
theorem pm_cmp {op : CmpOp} {f : D → D → Mem → Res D} (ho : OpR X (compareOp op) (rG Γ f)) (ha : PE X a (tG Γ W ma)) (hb : PE X b (tG Γ W mb)) (hm : behindInMarks op b = false) : PE X (.Compare a [op] [b] pos) (tG Γ W (eB f ma mb)) :=
  pe_imp (pe_cmpR ho ha hb hm) fun _ _ _ h => step_B h
theorem pm_ix {f : D → D → Mem → Res D} (ho : IxR X (rG Γ f)) (ha : PE X a (tG Γ W ma)) (hb : PE X b (tG Γ W mb)) (hs : PlainIx b) : PE X (.Subscript a b pos) (tG Γ W (eB f ma mb)) :=
  pe_imp (pe_ix ho ha hb hs) fun _ _ _ h => step_B h
theorem pm_un {op : UnaryOp} {f : D → Mem → Res D} (ho : UnR X (unaryOp op) (rG1 Γ f)) (ha : PE X a (tG Γ W ma)) : PE X (.UnaryOp op a pos) (tG Γ W (eU f ma)) :=
  pe_imp (pe_un ho ha) fun _ _ _ h => by
    obtain ⟨μ, L, M, hs, hm, hp⟩ := h
    refine ⟨μ, L, M, hs, hm, hp.bind fun x M1 μ1 v H1 _ e1 t1 m1 r1 hp1 => ?_⟩
    exact ⟨μ1, M1, x, m1, r1, hp1.loose⟩
theorem pt_cm {op : CmpOp} {f : D → D → Mem → Res D} (ho : OpR X (compareOp op) (rG Γ f)) (ha : PE X a (tG Γ W ma)) (hb : PE X b (tG Γ W mb)) (hm : behindInMarks op b = false) : PT X (.Compare a [op] [b] pos) (tGT Γ W (tCm f ma mb)) :=
  pt_imp (pt_cmpR ho ha hb hm) fun _ _ _ h => by
    obtain ⟨μ, L, M, hs, hm, hp⟩ := h
    refine ⟨μ, L, M, hs, hm, hp.bind fun x M1 μ1 v H1 _ e1 t1 m1 r1 hp1 => ?_⟩
    refine ⟨μ1, L, M1, hs.mono e1 t1, m1, hp1.bind fun y M2 μ2 w H2 _ e2 t2 m2 r2 hp2 => ?_⟩
    refine ⟨μ2, M2, x, y, m2, r1.mono e2 t2, r2, (hp2.bind (R := RvR Γ) fun z M3 μ3 u H3 _ e3 t3 m3 r3 hp3 => ?_).loose⟩
    cases z with
    | bl k => exact ⟨k, r3.bl, hp3.here m3 rfl⟩
    | _ => exact hp3.elim
theorem tru_sim {μ : List Addr} {H : Hp} {M : Mem} {x : D} {v : V} (m : RM Γ.K μ H M) (r : Rv Γ.K μ H x v) (hn : truD x M ≠ .no) : ∃ k, truD x M = .ok k M ∧ TruV Γ.K v H k := by
  cases x with
  | non => obtain rfl := r.non; exact ⟨false, rfl, rfl⟩
  | bl k => obtain rfl := r.bl; exact ⟨k, rfl, rfl⟩
  | int i => obtain rfl := r.int; exact ⟨_, rfl, rfl⟩
  | str s =>
    obtain rfl := r.str
    unfold truD at hn ⊢
    by_cases q : s.length ≤ 16000000
    · simp only [q, if_true] at hn ⊢
      exact ⟨_, rfl, Nat.le_trans q (by decide), rfl⟩
    · simp only [q, if_false] at hn
      exact absurd rfl hn
  | tup ds =>
    obtain ⟨p, vs, rfl, h1, h2⟩ := r.tup
    refine ⟨!ds.isEmpty, rfl, .inr (.inl ⟨vs, h1, ?_⟩)⟩
    have hl := h2.length
    cases ds <;> cases vs <;> first | rfl | simp at hl
  | loc n =>
    obtain ⟨p, rfl, h1⟩ := r.loc
    unfold truD at hn ⊢
    cases q : M[n]? with
    | none => simp only [q] at hn; exact absurd rfl hn
    | some o =>
      simp only [q]
      obtain ⟨vs, h2, h3⟩ := m.sql h1 q
      refine ⟨!o.items.isEmpty, rfl, .inl ⟨vs, h2, ?_⟩⟩
      have hl := h3.length
      cases hi : o.items <;> cases vs <;> first | rfl | (rw [hi] at hl; simp at hl)
/-- a value's truth, then what follows -/
theorem tru_bind {μ : List Addr} {H : Hp} {M : Mem} {x : D} {v : V} {α β : Type} {R : List Addr → Hp → α → β → Prop} {f : Bool → Mem → Res α} {Q : β → Hp → Prop} (m : RM Γ.K μ H M) (r : Rv Γ.K μ H x v)
    (h : Pst Γ E R μ H ((truD x M).bind f) Q) : ∃ k, TruV Γ.K v H k ∧ Pst Γ E R μ H (f k M) Q := by
  cases q : truD x M with
  | no => rw [q] at h; exact h.elim
  | ex e M' =>
    have hn : truD x M ≠ .no := by rw [q]; intro z; cases z
    obtain ⟨k, e, _⟩ := tru_sim m r hn
    rw [q] at e; cases e
  | ok k M' =>
    have hn : truD x M ≠ .no := by rw [q]; intro z; cases z
    obtain ⟨k', e, t⟩ := tru_sim m r hn
    rw [e] at h
    exact ⟨k', t, h⟩
theorem pt_tru (ha : PE X a (tG Γ W ma)) (hK : X.K = Γ.K := by rfl) (he : ∀ whole, isTrue a X.env whole = (do let v ← whole; standAt a.pos; holding [v] (truthy v)) := by intro _; rfl) : PT X a (tGT Γ W (tV ma)) :=
  pt_imp (pt_truth ha he) fun σ _ Q h => by
    obtain ⟨μ, L, M, hs, hm, hp⟩ := h
    refine ⟨μ, L, M, hs, hm, hp.bind fun x M1 μ1 v H1 _ e1 t1 m1 r1 hp1 => ?_⟩
    rw [hK]
    have hp2 : Pst Γ (W σ) RbR μ1 H1 ((truD x M1).bind fun k M => .ok k M) Q := by
      cases q : truD x M1 <;> (rw [q] at hp1; exact hp1)
    obtain ⟨k, t, hp3⟩ := tru_bind m1 r1 hp2
    exact ⟨k, t, hp3.here m1 rfl⟩
theorem pwm_and1 {t : LT} (ha : PT X a (tGT Γ W t)) : PW X (.BoolOp .And [a] pos) (tGT Γ W t) := pw_and1 ha
theorem pwm_or1 {t : LT} (ha : PT X a (tGT Γ W t)) : PW X (.BoolOp .Or [a] pos) (tGT Γ W t) := pw_or1 ha
theorem pwm_and {t u : LT} (ha : PT X a (tGT Γ W t)) (hb : PW X (.BoolOp .And (b :: es) pos) (tGT Γ W u)) : PW X (.BoolOp .And (a :: b :: es) pos) (tGT Γ W (tA t u)) :=
  pw_imp (pw_and ha hb) fun _ _ _ h => by
    obtain ⟨μ, L, M, hs, hm, hp⟩ := h
    refine ⟨μ, L, M, hs, hm, hp.bind fun x M1 μ1 v H1 _ e1 t1 m1 r1 hp1 => ?_⟩
    have r1 : x = v := r1
    subst r1
    cases x with
    | true => exact iteT ⟨μ1, L, M1, hs.mono e1 t1, m1, hp1⟩
    | false => exact iteF (hp1.here m1 rfl)
theorem pwm_or {t u : LT} (ha : PT X a (tGT Γ W t)) (hb : PW X (.BoolOp .Or (b :: es) pos) (tGT Γ W u)) : PW X (.BoolOp .Or (a :: b :: es) pos) (tGT Γ W (tO t u)) :=
  pw_imp (pw_or ha hb) fun _ _ _ h => by
    obtain ⟨μ, L, M, hs, hm, hp⟩ := h
    refine ⟨μ, L, M, hs, hm, hp.bind fun x M1 μ1 v H1 _ e1 t1 m1 r1 hp1 => ?_⟩
    have r1 : x = v := r1
    subst r1
    cases x with
    | true => exact iteT (hp1.here m1 rfl)
    | false => exact iteF ⟨μ1, L, M1, hs.mono e1 t1, m1, hp1⟩
theorem ptm_not {t : LT} (ha : PT X a (tGT Γ W t)) : PT X (.UnaryOp .Not a pos) (tGT Γ W (tN t)) :=
  pt_imp (pt_not ha) fun _ _ _ h => by
    obtain ⟨μ, L, M, hs, hm, hp⟩ := h
    refine ⟨μ, L, M, hs, hm, hp.bind fun x M1 μ1 v H1 _ e1 t1 m1 r1 hp1 => ?_⟩
    have r1 : x = v := r1
    subst r1
    exact hp1.here m1 rfl
theorem pm_if {t : LT} (hc : PT X c (tGT Γ W t)) (ha : PE X a (tG Γ W ma)) (hb : PE X b (tG Γ W mb)) : PE X (.IfExp c a b pos) (tG Γ W (eIf t ma mb)) :=
  pe_imp (pe_ifExp hc ha hb) fun _ _ _ h => by
    obtain ⟨μ, L, M, hs, hm, hp⟩ := h
    refine ⟨μ, L, M, hs, hm, hp.bind fun x M1 μ1 v H1 _ e1 t1 m1 r1 hp1 => ?_⟩
    have r1 : x = v := r1
    subst r1
    cases x with
    | true => exact iteT ⟨μ1, L, M1, hs.mono e1 t1, m1, hp1⟩
    | false => exact iteF ⟨μ1, L, M1, hs.mono e1 t1, m1, hp1⟩
theorem step_chain {f g : D → D → Mem → Res D} {σ : L2.St} {H : Hp} {Q : VK} (h : tG Γ W (eCh f g ma mb mc) σ H Q) : tChain (rG Γ f) (rG Γ g) (tG Γ W ma) (tG Γ W mb) (tG Γ W mc) σ H Q := by
  obtain ⟨μ, L, M, hs, hm, hp⟩ := h
  refine ⟨μ, L, M, hs, hm, hp.bind fun x M1 μ1 v H1 _ e1 t1 m1 r1 hp1 => ?_⟩
  refine ⟨μ1, L, M1, hs.mono e1 t1, m1, hp1.bind fun y M2 μ2 w H2 _ e2 t2 m2 r2 hp2 => ?_⟩
  refine ⟨μ2, M2, x, y, m2, r1.mono e2 t2, r2, (hp2.bind (R := RvR Γ) fun z M3 μ3 u H3 _ e3 t3 m3 r3 hp3 => ?_).loose⟩
  cases z with
  | bl k =>
    refine ⟨k, r3.bl, ?_⟩
    cases k with
    | true =>
      have hp4 : Pst Γ (W _) (RvR Γ) μ3 H3 ((mc L M3).bind fun w M5 => g y w M5) _ := hp3
      refine iteT ⟨μ3, L, M3, hs.mono ((e1.trans e2).trans e3) ((t1.trans t2).trans t3), m3, hp4.bind fun w' M4 μ4 u4 H4 _ e4 t4 m4 r4 hp5 => ?_⟩
      exact ⟨μ4, M4, y, w', m4, r2.mono (e3.trans e4) (t3.trans t4), r4, hp5.loose⟩
    | false =>
      have hp4 : Pst Γ (W _) (RvR Γ) μ3 H3 (.ok (.bl false) M3) _ := hp3
      exact iteF (hp4.here m3 (rv_bl _))
  | _ => exact hp3.elim
theorem pm_chain {op op' : CmpOp} {f g : D → D → Mem → Res D} (ho : OpR X (compareOp op) (rG Γ f)) (ho' : OpR X (compareOp op') (rG Γ g)) (ha : PE X a (tG Γ W ma)) (hb : PE X b (tG Γ W mb)) (hc : PE X c (tG Γ W mc))
    (hm : lastMarks [op, op'] [b, c] = false := by with_unfolding_all rfl) : PE X (.Compare a [op, op'] [b, c] pos) (tG Γ W (eCh f g ma mb mc)) :=
  pe_imp (pe_chain ho ho' ha hb hc hm) fun _ _ _ h => step_chain h
/-- a chain as a test -/
def tCh (f g : D → D → Mem → Res D) (a b c : LE) : LT := fun L M => (eCh f g a b c L M).bind asB
theorem ptm_chain {op op' : CmpOp} {f g : D → D → Mem → Res D} (ho : OpR X (compareOp op) (rG Γ f)) (ho' : OpR X (compareOp op') (rG Γ g)) (ha : PE X a (tG Γ W ma)) (hb : PE X b (tG Γ W mb)) (hc : PE X c (tG Γ W mc))
    (hm : lastMarks [op, op'] [b, c] = false := by with_unfolding_all rfl) : PT X (.Compare a [op, op'] [b, c] pos) (tGT Γ W (tCh f g ma mb mc)) :=
  pt_imp (pt_chain ho ho' ha hb hc hm) fun _ _ _ h => by
    obtain ⟨μ, L, M, hs, hm, hp⟩ := h
    refine step_chain ⟨μ, L, M, hs, hm, hp.bind fun z M3 μ3 u H3 _ e3 t3 m3 r3 hp3 => ?_⟩
    cases z with
    | bl k => exact ⟨k, r3.bl, hp3.here m3 rfl⟩
    | _ => exact hp3.elim
theorem pm_and (ha : PE X a (tG Γ W ma)) (hb : PE X (.BoolOp .And (b :: es) pos) (tG Γ W mb)) (hK : X.K = Γ.K := by rfl) : PE X (.BoolOp .And (a :: b :: es) pos) (tG Γ W (eAnd ma mb)) :=
  pe_imp (pe_andT ha hb) fun _ _ _ h => by
    obtain ⟨μ, L, M, hs, hm, hp⟩ := h
    refine ⟨μ, L, M, hs, hm, hp.bind fun x M1 μ1 v H1 _ e1 t1 m1 r1 hp1 => ?_⟩
    obtain ⟨k, t, hp2⟩ := tru_bind m1 r1 hp1
    rw [hK]
    refine ⟨k, t, ?_⟩
    cases k with
    | true => exact iteT ⟨μ1, L, M1, hs.mono e1 t1, m1, hp2⟩
    | false => exact iteF (Pst.here (Γ := Γ) (E := W _) (R := RvR Γ) hp2 m1 r1)
theorem pm_or (ha : PE X a (tG Γ W ma)) (hb : PE X (.BoolOp .Or (b :: es) pos) (tG Γ W mb)) (hK : X.K = Γ.K := by rfl) : PE X (.BoolOp .Or (a :: b :: es) pos) (tG Γ W (eOr ma mb)) :=
  pe_imp (pe_orT ha hb) fun _ _ _ h => by
    obtain ⟨μ, L, M, hs, hm, hp⟩ := h
    refine ⟨μ, L, M, hs, hm, hp.bind fun x M1 μ1 v H1 _ e1 t1 m1 r1 hp1 => ?_⟩
    obtain ⟨k, t, hp2⟩ := tru_bind m1 r1 hp1
    rw [hK]
    refine ⟨k, t, ?_⟩
    cases k with
    | true => exact iteT (Pst.here (Γ := Γ) (E := W _) (R := RvR Γ) hp2 m1 r1)
    | false => exact iteF ⟨μ1, L, M1, hs.mono e1 t1, m1, hp2⟩
theorem pm_not (ha : PE X a (tG Γ W ma)) (hK : X.K = Γ.K := by rfl) : PE X (.UnaryOp .Not a pos) (tG Γ W (eNot ma)) :=
  pe_imp (pe_notT ha) fun _ _ _ h => by
    obtain ⟨μ, L, M, hs, hm, hp⟩ := h
    refine ⟨μ, L, M, hs, hm, hp.bind fun x M1 μ1 v H1 _ e1 t1 m1 r1 hp1 => ?_⟩
    obtain ⟨k, t, hp2⟩ := tru_bind m1 r1 hp1
    rw [hK]
    exact ⟨k, t, hp2.here m1 (rv_bl _)⟩
theorem pm_one {op : BoolOp} (ha : PE X a (tG Γ W ma)) : PE X (.BoolOp op [a] pos) (tG Γ W ma) := pe_one ha

theorem pm_int {i j} : PE X (.Constant (.int i) j pos) (tG Γ W (eC (.int i))) := pe_imp pe_int fun _ _ _ ⟨_, _, _, _, hm, hp⟩ => hp.here hm (rv_int _)
theorem pm_bl {i j} : PE X (.Constant (.bool i) j pos) (tG Γ W (eC (.bl i))) := pe_imp pe_bl fun _ _ _ ⟨_, _, _, _, hm, hp⟩ => hp.here hm (rv_bl _)
theorem pm_non {j} : PE X (.Constant .none j pos) (tG Γ W (eC .non)) := pe_imp pe_non fun _ _ _ ⟨_, _, _, _, hm, hp⟩ => hp.here hm rv_non
theorem pm_str {x j} : PE X (.Constant (.str x) j pos) (tG Γ W (eC (.str x))) := pe_imp pe_str fun _ _ _ ⟨_, _, _, _, hm, hp⟩ => hp.here hm (rv_str _)
theorem pm_v (i : Nat) {x : Str} {pos : Pos} (hN : X.N[i]? = some x := by rfl) (hv : Vis X.env.scope x := by first | exact Or.inl rfl | exact Or.inr (Or.inl rfl) | exact Or.inr (Or.inr rfl)) (hd : (x == ("__debug__" : Str)) = false := by decide)
    (hcd : (x == ("__classdict__" : Str)) = false := by decide) : PE X (.Name x pos) (tG Γ W (eV i)) := pe_imp (pe_var hN hv hd hcd) fun _ _ _ h => by
  obtain ⟨μ, L, M, hs, hm, hp⟩ := h
  unfold eV at hp
  cases q : L[i]? with
  | none => simp only [q] at hp; exact hp.elim
  | some o =>
    cases o with
    | none => simp only [q] at hp; exact hp.elim
    | some d =>
      simp only [q] at hp
      obtain ⟨v, h1, h2⟩ := hs.2 i d q
      exact ⟨v, h1, hp.here hm h2⟩
/-- a global name: its value is written -/
theorem pm_g {x : Str} {d : D} {v : V} {u : Value} (hg : Gl X x) (hm : X.mg x = some u) (r : RelV v u) (rd : ∀ μ H, Rv Γ.K μ H d v) (hd : (x == ("__debug__" : Str)) = false := by decide) : PE X (.Name x pos) (tG Γ W (eC d)) :=
  pe_imp (pe_glob hg hm r hd) fun _ _ _ ⟨_, _, _, _, hm, hp⟩ => hp.here hm (rd _ _)

theorem pam_nil : PA X [] (tGA Γ W aN) := pa_imp pa_nil fun _ _ _ ⟨_, _, _, _, hm, hp⟩ => hp.here hm rvs_nil
theorem pam_cons {ml : LA} (ha : PE X e (tG Γ W ma)) (hr : PA X es (tGA Γ W ml)) (hs : starEach (e :: es) X.env = (false, eval e X.env) :: starEach es X.env := by rfl) : PA X (e :: es) (tGA Γ W (aC ma ml)) :=
  pa_imp (pa_cons ha hr hs) fun _ _ _ h => by
    obtain ⟨μ, L, M, hs, hm, hp⟩ := h
    refine ⟨μ, L, M, hs, hm, hp.bind fun x M1 μ1 v H1 _ e1 t1 m1 r1 hp1 => ?_⟩
    refine ⟨μ1, L, M1, hs.mono e1 t1, m1, hp1.bind fun xs M2 μ2 vs H2 _ e2 t2 m2 r2 hp2 => ?_⟩
    exact hp2.here m2 (rvs_cons (r1.mono e2 t2) r2)
theorem pm_tup {ml : LA} {k} (h : PA X es (tGA Γ W ml)) : PE X (.Tuple es k pos) (tG Γ W (eTup ml)) :=
  pe_imp (pe_tup h) fun _ _ _ h => by
    obtain ⟨μ, L, M, hs, hm, hp⟩ := h
    refine ⟨μ, L, M, hs, hm, hp.bind fun xs M1 μ1 vs H1 _ e1 t1 m1 r1 hp1 => ?_⟩
    by_cases q : xs.length ≤ 1000
    · simp only [q, if_true] at hp1
      exact ⟨by rw [r1.length]; exact Nat.le_trans q (by decide), fun p np => hp1.newT m1 r1 np⟩
    · simp only [q, if_false] at hp1
      exact hp1.elim
theorem pm_lst {ml : LA} (h : PA X es (tGA Γ W ml)) : PE X (.List es pos) (tG Γ W (eLst ml)) :=
  pe_imp (pe_lst h) fun _ _ _ h => by
    obtain ⟨μ, L, M, hs, hm, hp⟩ := h
    refine ⟨μ, L, M, hs, hm, hp.bind fun xs M1 μ1 vs H1 _ e1 t1 m1 r1 hp1 => ?_⟩
    by_cases q : xs.length ≤ 1000
    · simp only [q, if_true] at hp1
      exact ⟨by rw [r1.length]; exact Nat.le_trans q (by decide), fun p np => hp1.newL m1 r1 np⟩
    · simp only [q, if_false] at hp1
      exact hp1.elim
end
end G

/-! S3: the operations by values. -/
namespace G
open PySem L2

/-! ### ints, texts, tuples, lists -/
def big : Nat := 16000000
theorem big_le {n : Nat} (h : n ≤ big) : n ≤ sizeLine := Nat.le_trans h (by decide)
theorem big_lt {n : Nat} (h : n < big) : n < sizeLine := Nat.lt_of_lt_of_le h (by decide)
def dAdd (x y : D) (M : Mem) : Res D := match x, y with
  | .int i, .int j => .ok (.int (i + j)) M
  | .str s, .str t => if s.length + t.length ≤ big then .ok (.str (s ++ t)) M else .no
  | .tup xs, .tup ys => if xs.length + ys.length ≤ big then .ok (.tup (xs ++ ys)) M else .no
  | .loc a, .loc b => match M[a]?, M[b]? with
    | some (.lst xs), some (.lst ys) => if xs.length + ys.length ≤ big then .ok (.loc M.length) (M ++ [.lst (xs ++ ys)]) else .no
    | _, _ => .no
  | _, _ => .no
def dSub (x y : D) (M : Mem) : Res D := match x, y with
  | .int i, .int j => .ok (.int (i - j)) M
  | _, _ => .no
def dMul (x y : D) (M : Mem) : Res D := match x, y with
  | .int i, .int j => if i.natAbs.log2 + j.natAbs.log2 < 1000000 then .ok (.int (i * j)) M else .no
  | .loc a, .int k => match M[a]? with
    | some (.lst xs) => if 0 ≤ k ∧ k < 1000000 ∧ xs.length * k.toNat ≤ big then .ok (.loc M.length) (M ++ [.lst (List.replicate k.toNat xs).flatten]) else .no
    | _ => .no
  | _, _ => .no
def dDiv (x y : D) (M : Mem) : Res D := match x, y with
  | .int i, .int j => if j ≠ 0 ∧ j.natAbs.log2 < 9000 then .ok (.int (i.fdiv j)) M else .no
  | _, _ => .no
def dMod (x y : D) (M : Mem) : Res D := match x, y with
  | .int i, .int j => if j ≠ 0 then .ok (.int (i.fmod j)) M else .no
  | _, _ => .no
def dPow (x y : D) (M : Mem) : Res D := match x, y with
  | .int i, .int j => if 0 ≤ j ∧ j ≤ 1000000 ∧ i.natAbs < 2 ^ 64 then .ok (.int (i ^ j.toNat)) M else .no
  | _, _ => .no
def dShl (x y : D) (M : Mem) : Res D := match x, y with
  | .int i, .int j => if 0 ≤ j ∧ (i.natAbs.log2 : Int) + j ≤ 1000000 then .ok (.int (i * 2 ^ j.toNat)) M else .no
  | _, _ => .no
def dShr (x y : D) (M : Mem) : Res D := match x, y with
  | .int i, .int j => if 0 ≤ j then .ok (.int (i / 2 ^ j.toNat)) M else .no
  | _, _ => .no
def dI (f : Int → Int → Int) (x y : D) (M : Mem) : Res D := match x, y with
  | .int i, .int j => .ok (.int (f i j)) M
  | _, _ => .no
def dNeg (x : D) (M : Mem) : Res D := match x with
  | .int i => .ok (.int (-i)) M
  | _ => .no
def dInv (x : D) (M : Mem) : Res D := match x with
  | .int i => .ok (.int (Builtin.bitNot i)) M
  | _ => .no
def dCmpI (f : Int → Int → Bool) (x y : D) (M : Mem) : Res D := match x, y with
  | .int i, .int j => .ok (.bl (f i j)) M
  | _, _ => .no
def isNon : D → Bool
  | .non => true
  | _ => false
def dIs (x y : D) (M : Mem) : Res D := match y with
  | .non => .ok (.bl (isNon x)) M
  | .bl b => match x with
    | .bl a => .ok (.bl (a == b)) M
    | _ => .no
  | _ => .no
def dNot (f : D → D → Mem → Res D) (x y : D) (M : Mem) : Res D := match f x y M with
  | .ok (.bl b) M' => .ok (.bl (!b)) M'
  | _ => .no

/-! ### data, for == and repr: a value with all that it leads to -/
mutual
def reif (f : Nat → Option PyData) : D → Option PyData
  | .non => some .none
  | .bl b => some (.bool b)
  | .int i => some (.int i)
  | .str s => some (.str s)
  | .tup ds => (reifs f ds).map PyData.tuple
  | .loc n => f n
def reifs (f : Nat → Option PyData) : List D → Option (List PyData)
  | [] => some []
  | d :: ds => (reif f d).bind fun x => (reifs f ds).map fun xs => x :: xs
end
/-- what a place leads to, lists within one another at most k deep -/
def heapD : Nat → Mem → Nat → Option PyData
  | 0, _, _ => none
  | k + 1, M, n => match M[n]? with
    | some o => (reifs (heapD k M) o.items).map PyData.list
    | none => none
def pyD (M : Mem) (d : D) : Option PyData := reif (heapD 6 M) d
section
variable {K : PySem.W.Frag} {μ : List Addr} {H : Hp} {f : Nat → Option PyData}
def FOk (K : PySem.W.Frag) (μ : List Addr) (H : Hp) (f : Nat → Option PyData) : Prop := ∀ n d a, f n = some d → μ[n]? = some a → Dp K H (.ref a) d
mutual
theorem reif_dp (hf : FOk K μ H f) : ∀ (d : D) {v : V} {p : PyData}, Rv K μ H d v → reif f d = some p → Dp K H v p
  | .non, _, _, r, e => by
    obtain rfl := r.non
    unfold reif at e; cases e
    exact .non
  | .bl b, _, _, r, e => by
    obtain rfl := r.bl
    unfold reif at e; cases e
    exact .bl b
  | .int i, _, _, r, e => by
    obtain rfl := r.int
    unfold reif at e; cases e
    exact .int i
  | .str s, _, _, r, e => by
    obtain rfl := r.str
    unfold reif at e; cases e
    exact .str s
  | .loc n, _, _, r, e => by
    obtain ⟨a, rfl, h⟩ := r.loc
    unfold reif at e
    exact hf n _ a e h
  | .tup ds, _, _, r, e => by
    obtain ⟨a, vs, rfl, h1, h2⟩ := r.tup
    unfold reif at e
    cases q : reifs f ds with
    | none => rw [q] at e; cases e
    | some ps =>
      rw [q] at e; cases e
      exact .tup h1 (reifs_dp hf ds h2 q)
theorem reifs_dp (hf : FOk K μ H f) : ∀ (ds : List D) {vs : List V} {ps : List PyData}, Rvs K μ H ds vs → reifs f ds = some ps → DpAll K H vs ps
  | [], _, _, r, e => by
    obtain rfl := r.nil
    unfold reifs at e; cases e
    exact .nil
  | d :: ds, _, _, r, e => by
    obtain ⟨v, vs, rfl, h1, h2⟩ := r.uncons
    unfold reifs at e
    cases q : reif f d with
    | none => rw [q] at e; cases e
    | some x =>
      rw [q] at e
      cases q2 : reifs f ds with
      | none => rw [q2] at e; cases e
      | some xs =>
        rw [q2] at e; cases e
        exact .cons (reif_dp hf d h1 q) (reifs_dp hf ds h2 q2)
end
theorem heapD_ok {M : Mem} (m : RM K μ H M) : ∀ k, FOk K μ H (heapD k M)
  | 0, _, _, _, e, _ => by unfold heapD at e; cases e
  | k + 1, n, d, a, e, ha => by
    unfold heapD at e
    cases q : M[n]? with
    | none => rw [q] at e; cases e
    | some o =>
      rw [q] at e
      obtain ⟨vs, h1, h2⟩ := m.sql ha q
      simp only at e
      cases q2 : reifs (heapD k M) o.items with
      | none => rw [q2] at e; cases e
      | some ps =>
        rw [q2] at e; cases e
        exact .lst h1 (reifs_dp (heapD_ok m k) _ h2 q2)
theorem pyD_dp {M : Mem} (m : RM K μ H M) {d : D} {v : V} {p : PyData} (r : Rv K μ H d v) (e : pyD M d = some p) : Dp K H v p := reif_dp (heapD_ok m 6) d r e
end
def strsD : D → D → Option (Str × Str)
  | .str s, .str t => some (s, t)
  | _, _ => none
def dEq (x y : D) (M : Mem) : Res D := match strsD x y with
  | some p => .ok (.bl (p.1 == p.2)) M
  | none => match pyD M x, pyD M y with
  | some d, some e => if SeqAt.shaped d = true ∧ SeqAt.shaped e = true then .ok (.bl (PyData.eqv d e)) M else .no
  | _, _ => .no
def dNe (x y : D) (M : Mem) : Res D := match strsD x y with
  | some p => .ok (.bl (p.1 != p.2)) M
  | none => match pyD M x, pyD M y with
  | some d, some e => if SeqAt.shaped d = true ∧ SeqAt.shaped e = true then .ok (.bl (!PyData.eqv d e)) M else .no
  | _, _ => .no
/-- flat values, for in -/
def flatD : D → Bool
  | .tup _ => false
  | .loc _ => false
  | _ => true
def eqF : D → D → Bool
  | .non, .non => true
  | .bl a, .bl b => a == b
  | .bl a, .int j => (if a then 1 else 0) == j
  | .int i, .bl b => i == (if b then 1 else 0)
  | .int i, .int j => i == j
  | .str x, .str y => x == y
  | _, _ => false

/-! ### the operations are simulated -/
section
variable {X : Cx} {Γ : Gx} {ce : Nat → Addr × List Str}
theorem og_add : OpR X (binaryOp .Add) (rG ⟨X.K, ce⟩ dAdd) := by
  intro pins s σ H x y v u Q I rx ry h
  obtain ⟨μ, M, a, b, hm, ra, rb, hp⟩ := h
  cases a with
  | int i =>
    cases b with
    | int j =>
      obtain rfl := ra.int; obtain rfl := rb.int
      exact op_add pins s σ H _ _ v u Q I rx ry ⟨i, j, rfl, rfl, hp.here hm (rv_int _)⟩
    | _ => exact hp.elim
  | str z =>
    cases b with
    | str z' =>
      obtain rfl := ra.str; obtain rfl := rb.str
      unfold dAdd at hp
      by_cases q : z.length + z'.length ≤ big
      · simp only [q, if_true] at hp
        exact op_add_str pins s σ H _ _ v u Q I rx ry ⟨z, z', rfl, rfl, big_le q, hp.here hm (rv_str _)⟩
      · simp only [q, if_false] at hp; exact hp.elim
    | _ => exact hp.elim
  | tup ds =>
    cases b with
    | tup es =>
      obtain ⟨p, vs, rfl, h1, h2⟩ := ra.tup
      obtain ⟨p', ws, rfl, h3, h4⟩ := rb.tup
      unfold dAdd at hp
      by_cases q : ds.length + es.length ≤ big
      · simp only [q, if_true] at hp
        refine op_catA pins s σ H _ _ v u Q I rx ry ⟨p, p', vs, ws, rfl, rfl, h1, h3, by rw [h2.length, h4.length]; exact big_le q, fun e => ?_, fun _ e => ?_, fun _ _ np n0 => ?_⟩
        · subst e
          have e1 : ds = [] := List.eq_nil_of_length_eq_zero (by rw [← h2.length]; rfl)
          subst e1
          exact hp.here hm (rv_tup h3 h4)
        · subst e
          have e1 : es = [] := List.eq_nil_of_length_eq_zero (by rw [← h4.length]; rfl)
          subst e1
          rw [List.append_nil] at hp
          exact hp.here hm (rv_tup h1 h2)
        · exact hp.newT hm (h2.append h4) n0
      · simp only [q, if_false] at hp; exact hp.elim
    | _ => exact hp.elim
  | loc n =>
    cases b with
    | loc n' =>
      obtain ⟨p, rfl, h1⟩ := ra.loc
      obtain ⟨p', rfl, h2⟩ := rb.loc
      unfold dAdd at hp
      cases q : M[n]? with
      | none => simp only [q] at hp; exact hp.elim
      | some o =>
        cases q' : M[n']? with
        | none => cases o <;> (simp only [q, q'] at hp; exact hp.elim)
        | some o' =>
          simp only [q, q'] at hp
          cases o with
          | rol ds => exact hp.elim
          | lst ds =>
            cases o' with
            | rol es => exact hp.elim
            | lst es =>
              obtain ⟨vs, h3, h4⟩ := hm.lst h1 q
              obtain ⟨ws, h5, h6⟩ := hm.lst h2 q'
              simp only at hp
              by_cases z : ds.length + es.length ≤ big
              · simp only [z, if_true] at hp
                exact op_cat pins s σ H _ _ v u Q I rx ry ⟨p, p', vs, ws, rfl, rfl, h3, h5, by rw [h4.length, h6.length]; exact big_le z, fun np n0 => hp.newL hm (h4.append h6) n0⟩
              · simp only [z, if_false] at hp; exact hp.elim
    | _ => exact hp.elim
  | _ => exact hp.elim
/-- an operation on two ints with a condition -/
theorem og_I {f : Value → Value → Sem Value} {C : Int → Int → Prop} {g : Int → Int → V} {g' : Int → Int → D} {d : D → D → Mem → Res D} (ho : OpR X f (rI C g))
    (hd : ∀ (μ : List Addr) (H : Hp) (x y : D) (M : Mem) (Q : VK), Pst ⟨X.K, ce⟩ ET (RvR ⟨X.K, ce⟩) μ H (d x y M) Q → ∃ i j, x = .int i ∧ y = .int j ∧ C i j ∧ d x y M = .ok (g' i j) M)
    (hg : ∀ μ H i j, Rv X.K μ H (g' i j) (g i j)) : OpR X f (rG ⟨X.K, ce⟩ d) := by
  intro pins s σ H x y v u Q I rx ry h
  obtain ⟨μ, M, a, b, hm, ra, rb, hp⟩ := h
  obtain ⟨i, j, rfl, rfl, c, e⟩ := hd _ _ _ _ _ _ hp
  rw [e] at hp
  obtain rfl := ra.int; obtain rfl := rb.int
  exact ho pins s σ H _ _ v u Q I rx ry ⟨i, j, rfl, rfl, c, hp.here hm (hg _ _ _ _)⟩
theorem og_I0 {f : Value → Value → Sem Value} {g : Int → Int → V} {g' : Int → Int → D} {d : D → D → Mem → Res D} (ho : OpR X f (rI0 g))
    (hd : ∀ (μ : List Addr) (H : Hp) (x y : D) (M : Mem) (Q : VK), Pst ⟨X.K, ce⟩ ET (RvR ⟨X.K, ce⟩) μ H (d x y M) Q → ∃ i j, x = .int i ∧ y = .int j ∧ d x y M = .ok (g' i j) M)
    (hg : ∀ μ H i j, Rv X.K μ H (g' i j) (g i j)) : OpR X f (rG ⟨X.K, ce⟩ d) :=
  og_I (C := fun _ _ => True) (fun pins s σ H x y v u Q I rx ry ⟨i, j, e1, e2, _, q⟩ => ho pins s σ H x y v u Q I rx ry ⟨i, j, e1, e2, q⟩)
    (fun μ H x y M Q hp => let ⟨i, j, e1, e2, e⟩ := hd μ H x y M Q hp; ⟨i, j, e1, e2, trivial, e⟩) hg
theorem og_sub : OpR X (binaryOp .Sub) (rG ⟨X.K, ce⟩ dSub) := og_I0 (g' := fun i j => .int (i - j)) op_sub (fun μ H x y M Q hp => by
  cases x <;> cases y <;> first | exact ⟨_, _, rfl, rfl, rfl⟩ | exact hp.elim) fun _ _ _ _ => rv_int _
theorem og_and : OpR X (binaryOp .BitAnd) (rG ⟨X.K, ce⟩ (dI Builtin.bitAnd)) := og_I0 (g' := fun i j => .int (Builtin.bitAnd i j)) op_and (fun μ H x y M Q hp => by
  cases x <;> cases y <;> first | exact ⟨_, _, rfl, rfl, rfl⟩ | exact hp.elim) fun _ _ _ _ => rv_int _
theorem og_or : OpR X (binaryOp .BitOr) (rG ⟨X.K, ce⟩ (dI Builtin.bitOr)) := og_I0 (g' := fun i j => .int (Builtin.bitOr i j)) op_or (fun μ H x y M Q hp => by
  cases x <;> cases y <;> first | exact ⟨_, _, rfl, rfl, rfl⟩ | exact hp.elim) fun _ _ _ _ => rv_int _
theorem og_xor : OpR X (binaryOp .BitXor) (rG ⟨X.K, ce⟩ (dI Builtin.bitXor)) := og_I0 (g' := fun i j => .int (Builtin.bitXor i j)) op_xor (fun μ H x y M Q hp => by
  cases x <;> cases y <;> first | exact ⟨_, _, rfl, rfl, rfl⟩ | exact hp.elim) fun _ _ _ _ => rv_int _
theorem og_div : OpR X (binaryOp .FloorDiv) (rG ⟨X.K, ce⟩ dDiv) := og_I (C := fun _ j => j ≠ 0 ∧ j.natAbs.log2 < 9000) (g := fun i j => .int (i.fdiv j)) (g' := fun i j => .int (i.fdiv j))
  (opI fun i j _ _ _ _ _ hc q => PyProof.Rows.floordiv_int hc.1 q (.inl (PyProof.noPylong_of_log2 hc.2))) (fun μ H x y M Q hp => by
  cases x <;> cases y <;> first
    | exact hp.elim
    | (unfold dDiv at hp ⊢
       rename_i i j
       by_cases q : j ≠ 0 ∧ j.natAbs.log2 < 9000
       · exact ⟨_, _, rfl, rfl, q, by simp only [q, ne_eq, not_false_eq_true, and_self, if_true]⟩
       · simp only [q, if_false] at hp; exact hp.elim)) fun _ _ _ _ => rv_int _
theorem og_mod : OpR X (binaryOp .Mod) (rG ⟨X.K, ce⟩ dMod) := og_I (g' := fun i j => .int (i.fmod j)) op_modN (fun μ H x y M Q hp => by
  cases x <;> cases y <;> first
    | exact hp.elim
    | (unfold dMod at hp ⊢
       rename_i i j
       by_cases q : j ≠ 0
       · exact ⟨_, _, rfl, rfl, q, by simp only [q, ne_eq, not_false_eq_true, if_true]⟩
       · simp only [q, if_false] at hp; exact hp.elim)) fun _ _ _ _ => rv_int _
theorem og_pow : OpR X (binaryOp .Pow) (rG ⟨X.K, ce⟩ dPow) := og_I (g' := fun i j => .int (i ^ j.toNat)) op_pow (fun μ H x y M Q hp => by
  cases x <;> cases y <;> first
    | exact hp.elim
    | (unfold dPow at hp ⊢
       rename_i i j
       by_cases q : 0 ≤ j ∧ j ≤ 1000000 ∧ i.natAbs < 2 ^ 64
       · exact ⟨_, _, rfl, rfl, q, by simp only [q, and_self, if_true]⟩
       · simp only [q, if_false] at hp; exact hp.elim)) fun _ _ _ _ => rv_int _
theorem og_shr : OpR X (binaryOp .RShift) (rG ⟨X.K, ce⟩ dShr) := og_I (g' := fun i j => .int (i / 2 ^ j.toNat)) op_shr (fun μ H x y M Q hp => by
  cases x <;> cases y <;> first
    | exact hp.elim
    | (unfold dShr at hp ⊢
       rename_i i j
       by_cases q : 0 ≤ j
       · exact ⟨_, _, rfl, rfl, q, by simp only [q, if_true]⟩
       · simp only [q, if_false] at hp; exact hp.elim)) fun _ _ _ _ => rv_int _
theorem og_shl : OpR X (binaryOp .LShift) (rG ⟨X.K, ce⟩ dShl) := og_I (g' := fun i j => .int (i * 2 ^ j.toNat)) op_shlW (fun μ H x y M Q hp => by
  cases x <;> cases y <;> first
    | exact hp.elim
    | (unfold dShl at hp ⊢
       rename_i i j
       by_cases q : 0 ≤ j ∧ (i.natAbs.log2 : Int) + j ≤ 1000000
       · refine ⟨_, _, rfl, rfl, ⟨q.1, ?_⟩, by simp only [q, and_self, if_true]⟩
         have b : Builtin.Int.intBits i ≤ i.natAbs.log2 + 1 := by
           unfold Builtin.Int.intBits
           split <;> omega
         have := q.2
         have e : (2 : Int) ^ 27 = 134217728 := by decide
         rw [e]
         omega
       · simp only [q, if_false] at hp; exact hp.elim)) fun _ _ _ _ => rv_int _
theorem og_mul : OpR X (binaryOp .Mult) (rG ⟨X.K, ce⟩ dMul) := by
  intro pins s σ H x y v u Q I rx ry h
  obtain ⟨μ, M, a, b, hm, ra, rb, hp⟩ := h
  cases a with
  | int i =>
    cases b with
    | int j =>
      obtain rfl := ra.int; obtain rfl := rb.int
      unfold dMul at hp
      by_cases q : i.natAbs.log2 + j.natAbs.log2 < 1000000
      · simp only [q, if_true] at hp
        exact op_mulW pins s σ H _ _ v u Q I rx ry ⟨i, j, rfl, rfl, q, hp.here hm (rv_int _)⟩
      · simp only [q, if_false] at hp; exact hp.elim
    | _ => exact hp.elim
  | loc n =>
    cases b with
    | int k =>
      obtain ⟨p, rfl, h1⟩ := ra.loc
      obtain rfl := rb.int
      unfold dMul at hp
      cases q : M[n]? with
      | none => simp only [q] at hp; exact hp.elim
      | some o =>
        simp only [q] at hp
        cases o with
        | rol ds => exact hp.elim
        | lst ds =>
          obtain ⟨vs, h3, h4⟩ := hm.lst h1 q
          simp only at hp
          by_cases z : 0 ≤ k ∧ k < 1000000 ∧ ds.length * k.toNat ≤ big
          · simp only [z, and_self, if_true] at hp
            refine op_rep pins s σ H _ _ v u Q I rx ry ⟨p, k, vs, rfl, rfl, h3, by omega, by omega, by rw [h4.length]; exact big_le z.2.2, fun np n0 => ?_⟩
            have rr : ∀ k : Nat, Rvs X.K μ H (List.replicate k ds).flatten (List.replicate k vs).flatten := fun k => by
              induction k with
              | zero => exact rvs_nil
              | succ k ih =>
                rw [List.replicate_succ, List.replicate_succ, List.flatten_cons, List.flatten_cons]
                exact h4.append ih
            exact hp.newL hm (rr _) n0
          · simp only [z, if_false] at hp; exact hp.elim
    | _ => exact hp.elim
  | _ => cases b <;> exact hp.elim
theorem og_lt : OpR X (compareOp .Lt) (rG ⟨X.K, ce⟩ (dCmpI fun i j => decide (i < j))) := og_I0 (g' := fun i j => .bl (decide (i < j))) op_lt (fun μ H x y M Q hp => by
  cases x <;> cases y <;> first | exact ⟨_, _, rfl, rfl, rfl⟩ | exact hp.elim) fun _ _ _ _ => rv_bl _
theorem og_le : OpR X (compareOp .LtE) (rG ⟨X.K, ce⟩ (dCmpI fun i j => decide (i ≤ j))) := og_I0 (g' := fun i j => .bl (decide (i ≤ j))) op_le (fun μ H x y M Q hp => by
  cases x <;> cases y <;> first | exact ⟨_, _, rfl, rfl, rfl⟩ | exact hp.elim) fun _ _ _ _ => rv_bl _
theorem og_gt : OpR X (compareOp .Gt) (rG ⟨X.K, ce⟩ (dCmpI fun i j => decide (j < i))) := og_I0 (g' := fun i j => .bl (decide (j < i))) op_gt (fun μ H x y M Q hp => by
  cases x <;> cases y <;> first | exact ⟨_, _, rfl, rfl, rfl⟩ | exact hp.elim) fun _ _ _ _ => rv_bl _
theorem og_ge : OpR X (compareOp .GtE) (rG ⟨X.K, ce⟩ (dCmpI fun i j => decide (j ≤ i))) := og_I0 (g' := fun i j => .bl (decide (j ≤ i))) op_ge (fun μ H x y M Q hp => by
  cases x <;> cases y <;> first | exact ⟨_, _, rfl, rfl, rfl⟩ | exact hp.elim) fun _ _ _ _ => rv_bl _
theorem og_eq (hu : X.A.units + 64 < cLine) : OpR X (compareOp .Eq) (rG ⟨X.K, ce⟩ dEq) := by
  intro pins s σ H x y v u Q I rx ry h
  obtain ⟨μ, M, a, b, hm, ra, rb, hp⟩ := h
  unfold dEq at hp
  cases q0 : strsD a b with
  | some p =>
    rw [q0] at hp
    cases a <;> cases b <;> simp only [strsD, reduceCtorEq, Option.some.injEq] at q0
    subst q0
    obtain rfl := ra.str
    obtain rfl := rb.str
    obtain ⟨t, rfl⟩ := rx
    obtain ⟨t', rfl⟩ := ry
    exact PyProof.Rows.eq_str ⟨.bl _, H, I, rfl, hp.here hm (rv_bl _)⟩
  | none =>
  rw [q0] at hp
  cases q1 : pyD M a with
  | none => rw [q1] at hp; exact hp.elim
  | some d =>
    cases q2 : pyD M b with
    | none => rw [q1, q2] at hp; exact hp.elim
    | some e =>
      rw [q1, q2] at hp
      simp only at hp
      by_cases z : SeqAt.shaped d = true ∧ SeqAt.shaped e = true
      · simp only [z, and_self, if_true] at hp
        exact op_eqD hu pins s σ H _ _ v u Q I rx ry ⟨d, e, pyD_dp hm ra q1, pyD_dp hm rb q2, z.1, z.2, hp.here hm (rv_bl _)⟩
      · simp only [z, if_false] at hp; exact hp.elim
theorem og_ne (hu : X.A.units + 64 < cLine) : OpR X (compareOp .NotEq) (rG ⟨X.K, ce⟩ dNe) := by
  intro pins s σ H x y v u Q I rx ry h
  obtain ⟨μ, M, a, b, hm, ra, rb, hp⟩ := h
  unfold dNe at hp
  cases q0 : strsD a b with
  | some p =>
    rw [q0] at hp
    cases a <;> cases b <;> simp only [strsD, reduceCtorEq, Option.some.injEq] at q0
    subst q0
    obtain rfl := ra.str
    obtain rfl := rb.str
    obtain ⟨t, rfl⟩ := rx
    obtain ⟨t', rfl⟩ := ry
    exact PyProof.Rows.ne_str ⟨.bl _, H, I, rfl, hp.here hm (rv_bl _)⟩
  | none =>
  rw [q0] at hp
  cases q1 : pyD M a with
  | none => rw [q1] at hp; exact hp.elim
  | some d =>
    cases q2 : pyD M b with
    | none => rw [q1, q2] at hp; exact hp.elim
    | some e =>
      rw [q1, q2] at hp
      simp only at hp
      by_cases z : SeqAt.shaped d = true ∧ SeqAt.shaped e = true
      · simp only [z, and_self, if_true] at hp
        exact op_neD hu pins s σ H _ _ v u Q I rx ry ⟨d, e, pyD_dp hm ra q1, pyD_dp hm rb q2, z.1, z.2, hp.here hm (rv_bl _)⟩
      · simp only [z, if_false] at hp; exact hp.elim
theorem og_neg : UnR X (unaryOp .USub) (rG1 ⟨X.K, ce⟩ dNeg) := by
  intro pins s σ H x v Q I rx h
  obtain ⟨μ, M, a, hm, ra, hp⟩ := h
  cases a with
  | int i =>
    obtain rfl := ra.int
    exact un_neg pins s σ H _ v Q I rx ⟨i, rfl, hp.here hm (rv_int _)⟩
  | _ => exact hp.elim
theorem og_inv : UnR X (unaryOp .Invert) (rG1 ⟨X.K, ce⟩ dInv) := by
  intro pins s σ H x v Q I rx h
  obtain ⟨μ, M, a, hm, ra, hp⟩ := h
  cases a with
  | int i =>
    obtain rfl := ra.int
    exact un_inv pins s σ H _ v Q I rx ⟨i, rfl, hp.here hm (rv_int _)⟩
  | _ => exact hp.elim
/-- x is None -/
def dIsN (x y : D) (M : Mem) : Res D := match y with
  | .non => .ok (.bl (isNon x)) M
  | _ => .no
def dNotN (x y : D) (M : Mem) : Res D := match y with
  | .non => .ok (.bl (!isNon x)) M
  | _ => .no
theorem isNon_v {K : PySem.W.Frag} {μ : List Addr} {H : Hp} {d : D} {v : V} (r : Rv K μ H d v) : decide (v = .non) = isNon d := by
  cases d with
  | non => rw [r.non]; rfl
  | bl b => rw [r.bl]; rfl
  | int b => rw [r.int]; rfl
  | str b => rw [r.str]; rfl
  | tup b => obtain ⟨_, _, e, _⟩ := r.tup; rw [e]; rfl
  | loc b => obtain ⟨_, e, _⟩ := r.loc; rw [e]; rfl
theorem og_isN : OpR X (compareOp .Is) (rG ⟨X.K, ce⟩ dIsN) := by
  intro pins s σ H x y v u Q I rx ry h
  obtain ⟨μ, M, a, b, hm, ra, rb, hp⟩ := h
  cases b with
  | non =>
    obtain rfl := rb.non
    refine op_isN pins s σ H _ _ v u Q I rx ry ⟨rfl, ?_⟩
    rw [isNon_v ra]
    exact hp.here hm (rv_bl _)
  | _ => exact hp.elim
theorem og_notN : OpR X (compareOp .IsNot) (rG ⟨X.K, ce⟩ dNotN) := by
  intro pins s σ H x y v u Q I rx ry h
  obtain ⟨μ, M, a, b, hm, ra, rb, hp⟩ := h
  cases b with
  | non =>
    obtain rfl := rb.non
    refine op_notN pins s σ H _ _ v u Q I rx ry ⟨rfl, ?_⟩
    rw [isNon_v ra]
    exact hp.here hm (rv_bl _)
  | _ => exact hp.elim
end
end G

/-! S4: subscripts, slices, built-in calls, methods, calls of the text's defs. -/
namespace G
open PySem L2

/-! ### a[i], a[i:j], a[::-1] -/
def dIx (x y : D) (M : Mem) : Res D := match x, y with
  | .tup ds, .int i => match atI ds i with
    | some d => .ok d M
    | none => .no
  | .loc n, .int i => match M[n]? with
    | some o => match atI o.items i with
      | some d => .ok d M
      | none => .no
    | none => .no
  | .str s, .int i => if s.length ≤ big then (match atI s.cps.toList i with
    | some c => .ok (.str ⟨#[c]⟩) M
    | none => .no) else .no
  | _, _ => .no
def cutD (ds : List D) (lo hi : Option Int) : List D := (ds.drop (HT.sIx ds.length 0 lo)).take (HT.sIx ds.length ds.length hi - HT.sIx ds.length 0 lo)
def dSl (x : D) (lo hi : Option Int) (M : Mem) : Res D := match x with
  | .tup ds => .ok (.tup (cutD ds lo hi)) M
  | .loc n => match M[n]? with
    | some o => .ok (.loc M.length) (M ++ [.lst (cutD o.items lo hi)])
    | none => .no
  | _ => .no
def dRev (x : D) (M : Mem) : Res D := match x with
  | .loc n => match M[n]? with
    | some o => .ok (.loc M.length) (M ++ [.lst o.items.reverse])
    | none => .no
  | _ => .no
abbrev LO := Env → Mem → Res (Option Int)
def oN : LO := fun _ M => .ok none M
def oS (a : LE) : LO := fun L M => (a L M).bind fun x M1 => match x with
  | .int i => .ok (some i) M1
  | _ => .no
def eSl (a : LE) (lo hi : LO) : LE := fun L M => (a L M).bind fun x M1 => (lo L M1).bind fun l M2 => (hi L M2).bind fun h M3 => dSl x l h M3
/-- xs[i] = v -/
def dSet (o i v : D) (M : Mem) : Res Unit := match o, i with
  | .loc n, .int k => match M[n]? with
    | some (.lst ds) => match ixN ds.length k with
      | some j => .ok () (M.set n (.lst (ds.set j v)))
      | none => .no
    | _ => .no
  | _, _ => .no

section
variable {X : Cx} {Γ : Gx} {ce : Nat → Addr × List Str} {W : WS} {a b e : Expr} {es : List Expr} {ma mb : LE} {ml : LA} {pos : Pos}
theorem atI_rv {K : PySem.W.Frag} {μ : List Addr} {H : Hp} {ds : List D} {vs : List V} {i : Int} {d : D} (r : Rvs K μ H ds vs) (h : atI ds i = some d) : ∃ v, atI vs i = some v ∧ Rv K μ H d v := by
  unfold atI at h ⊢
  rw [r.length]
  cases q : ixN ds.length i with
  | none => rw [q] at h; cases h
  | some j =>
    rw [q] at h
    obtain ⟨v, h1, h2⟩ := r.get (i := j) h
    exact ⟨v, h1, h2⟩
theorem og_ix : IxR X (rG ⟨X.K, ce⟩ dIx) := by
  intro value slice pins s σ H x y v u Q I rx ry h hs
  obtain ⟨μ, M, a, b, hm, ra, rb, hp⟩ := h
  cases a with
  | tup ds =>
    cases b with
    | int i =>
      obtain ⟨p, vs, rfl, h1, h2⟩ := ra.tup
      obtain rfl := rb.int
      unfold dIx at hp
      cases q : atI ds i with
      | none => simp only [q] at hp; exact hp.elim
      | some d =>
        simp only [q] at hp
        obtain ⟨w, h3, h4⟩ := atI_rv h2 q
        exact ix_tup value slice pins s σ H _ _ v u Q I rx ry ⟨p, vs, i, w, rfl, rfl, h1, h3, hp.here hm h4⟩ hs
    | _ => exact hp.elim
  | loc n =>
    cases b with
    | int i =>
      obtain ⟨p, rfl, h1⟩ := ra.loc
      obtain rfl := rb.int
      unfold dIx at hp
      cases q0 : M[n]? with
      | none => simp only [q0] at hp; exact hp.elim
      | some o =>
        simp only [q0] at hp
        obtain ⟨vs, h2, h5⟩ := hm.sql h1 q0
        cases q : atI o.items i with
        | none => simp only [q] at hp; exact hp.elim
        | some d =>
          simp only [q] at hp
          obtain ⟨w, h3, h4⟩ := atI_rv h5 q
          exact ix_list value slice pins s σ H _ _ v u Q I rx ry ⟨p, vs, i, w, rfl, rfl, h2, h3, hp.here hm h4⟩ hs
    | _ => exact hp.elim
  | str z =>
    cases b with
    | int i =>
      obtain rfl := ra.str
      obtain rfl := rb.int
      unfold dIx at hp
      by_cases z1 : z.length ≤ big
      · simp only [z1, if_true] at hp
        cases q : atI z.cps.toList i with
        | none => simp only [q] at hp; exact hp.elim
        | some c =>
          simp only [q] at hp
          exact ix_str value slice pins s σ H _ _ v u Q I rx ry ⟨z, i, c, rfl, rfl, big_le z1, q, hp.here hm (rv_str _)⟩ hs
      · simp only [z1, if_false] at hp; exact hp.elim
    | _ => exact hp.elim
  | _ => exact hp.elim
theorem cut_rv {K : PySem.W.Frag} {μ : List Addr} {H : Hp} {ds : List D} {vs : List V} {lo hi : Option Int} (r : Rvs K μ H ds vs) : Rvs K μ H (cutD ds lo hi) (cutV vs lo hi) := by
  unfold cutD cutV
  rw [r.length]
  exact (r.drop _).take _
theorem cut_whole {ds : List D} {lo hi : Option Int} (h : HT.sIx ds.length 0 lo = 0 ∧ HT.sIx ds.length ds.length hi = ds.length) : cutD ds lo hi = ds := by
  unfold cutD
  rw [h.1, h.2]
  simp
def rSlG (Γ : Gx) : V → Option Int → Option Int → Hp → VK → Prop := fun v lo hi H Q => ∃ μ M x, RM Γ.K μ H M ∧ Rv Γ.K μ H x v ∧ Pst Γ ET (RvR Γ) μ H (dSl x lo hi M) Q
theorem og_sl : SlR X (rSlG ⟨X.K, ce⟩) := by
  intro pins s σ H x v vl vu lo hi sl Q I rx hs pl pu h
  obtain ⟨μ, M, a, hm, ra, hp⟩ := h
  cases a with
  | tup ds =>
    obtain ⟨p, vs, rfl, h1, h2⟩ := ra.tup
    refine sl_tupA pins s σ H _ v vl vu lo hi sl Q I rx hs pl pu ⟨p, vs, rfl, h1, fun w => ?_, fun w np n0 => ?_⟩
    · unfold dSl at hp
      rw [h2.length] at w
      simp only [cut_whole w] at hp
      exact hp.here hm (rv_tup h1 h2)
    · exact Pst.newT (ds := cutD ds lo hi) hp hm (cut_rv h2) n0
  | loc n =>
    obtain ⟨p, rfl, h1⟩ := ra.loc
    unfold dSl at hp
    cases q0 : M[n]? with
    | none => simp only [q0] at hp; exact hp.elim
    | some o =>
      simp only [q0] at hp
      obtain ⟨vs, h2, h5⟩ := hm.sql h1 q0
      exact sl_list pins s σ H _ v vl vu lo hi sl Q I rx hs pl pu ⟨p, vs, rfl, h2, fun np n0 => hp.newL hm (cut_rv h5) n0⟩
  | _ => exact hp.elim
def tGO (Γ : Gx) (W : WS) (m : LO) : TO := fun σ H Q => ∃ μ L M, Rs Γ.K μ H L σ ∧ RM Γ.K μ H M ∧ Pst Γ (W σ) (fun _ _ a b => a = b) μ H (m L M) Q
theorem po_imp {X : Cx} {e : Option Expr} {t t' : TO} (h : PO X e t) (k : ∀ σ H Q, t' σ H Q → t σ H Q) : PO X e t' := ⟨fun pins s σ H Q I q => h.run pins s σ H Q I (k σ H Q q)⟩
theorem pom_none : PO X none (tGO Γ W oN) := po_imp po_none fun _ _ _ ⟨_, _, _, _, hm, hp⟩ => hp.here hm rfl
theorem pom_some (h : PE X e (tG Γ W ma)) : PO X (some e) (tGO Γ W (oS ma)) := po_imp (po_some h) fun _ _ _ h => by
  obtain ⟨μ, L, M, hs, hm, hp⟩ := h
  refine ⟨μ, L, M, hs, hm, hp.bind fun x M1 μ1 v H1 _ e1 t1 m1 r1 hp1 => ?_⟩
  cases x with
  | int i => exact ⟨i, r1.int, hp1.here m1 rfl⟩
  | _ => exact hp1.elim
theorem pm_slice {lo hi : Option Expr} {ol oh : LO} {p2 : Pos} (he : PE X e (tG ⟨X.K, ce⟩ W ma)) (hl : PO X lo (tGO ⟨X.K, ce⟩ W ol)) (hu : PO X hi (tGO ⟨X.K, ce⟩ W oh)) : PE X (.Subscript e (.Slice lo hi none p2) pos) (tG ⟨X.K, ce⟩ W (eSl ma ol oh)) :=
  pe_imp (pe_slice og_sl he hl hu) fun _ _ _ h => by
    obtain ⟨μ, L, M, hs, hm, hp⟩ := h
    refine ⟨μ, L, M, hs, hm, hp.bind fun x M1 μ1 v H1 _ e1 t1 m1 r1 hp1 => ?_⟩
    refine ⟨μ1, L, M1, hs.mono e1 t1, m1, hp1.bind fun l M2 μ2 l' H2 _ e2 t2 m2 r2 hp2 => ?_⟩
    obtain rfl : l = l' := r2
    refine ⟨μ2, L, M2, hs.mono (e1.trans e2) (t1.trans t2), m2, hp2.bind fun u M3 μ3 u' H3 _ e3 t3 m3 r3 hp3 => ?_⟩
    obtain rfl : u = u' := r3
    exact ⟨μ3, M3, x, m3, r1.mono (e2.trans e3) (t2.trans t3), hp3.loose⟩
theorem pm_revL {k : Nat} {p1 p2 p3 : Pos} (he : PE X e (tG ⟨X.K, ce⟩ W ma)) : PE X (.Subscript e (.Slice none none (some (.UnaryOp .USub (.Constant (.int 1) k p1) p2)) p3) pos) (tG ⟨X.K, ce⟩ W (eU dRev ma)) :=
  pe_imp (pe_revL he) fun _ _ _ h => by
    obtain ⟨μ, L, M, hs, hm, hp⟩ := h
    refine ⟨μ, L, M, hs, hm, hp.bind fun x M1 μ1 v H1 _ e1 t1 m1 r1 hp1 => ?_⟩
    cases x with
    | loc n =>
      obtain ⟨p, rfl, h1⟩ := r1.loc
      unfold dRev at hp1
      cases q0 : M1[n]? with
      | none => simp only [q0] at hp1; exact hp1.elim
      | some o =>
        simp only [q0] at hp1
        obtain ⟨vs, h2, h5⟩ := m1.sql h1 q0
        exact ⟨p, vs, rfl, h2, fun np n0 => hp1.newL m1 h5.reverse n0⟩
    | _ => exact hp1.elim

/-! ### built-in functions by name -/
theorem pm_cb {x : Str} {id : String} {p : Pos} {f : List D → Mem → Res D} (hc : CallR X (.builtin id) (rGs Γ f)) (hg : Gl X x) (hm : X.mg x = none) (hv : bootBuiltins x = some (.builtin id)) (ha : PA X (e :: es) (tGA Γ W ml)) (hn : x ≠ "__name__" := by decide) (hdb : (x == ("__debug__" : Str)) = false := by decide)
    (he : starEach (e :: es) X.env = (false, eval e X.env) :: starEach es X.env := by rfl) (hpl : (backTo pos (starEach es X.env)).any (·.1) = false := by rfl) : PE X (.Call (.Name x p) (e :: es) [] pos) (tG Γ W (eF f ml)) :=
  pe_imp (pe_callB hc hg hm hv ha hn hdb he hpl) fun _ _ _ h => by
    obtain ⟨μ, L, M, hs, hm, hp⟩ := h
    refine ⟨μ, L, M, hs, hm, hp.bind fun xs M1 μ1 vs H1 _ e1 t1 m1 r1 hp1 => ?_⟩
    exact ⟨μ1, M1, xs, m1, r1, hp1.loose⟩
theorem pm_ct {x : Str} {T : String} {p : Pos} {f : List D → Mem → Res D} (hc : CallR X (.type T) (rGs Γ f)) (hg : Gl X x) (hm : X.mg x = none) (hv : bootBuiltins x = some (.type T)) (ha : PA X (e :: es) (tGA Γ W ml)) (hn : x ≠ "__name__" := by decide) (hdb : (x == ("__debug__" : Str)) = false := by decide)
    (he : starEach (e :: es) X.env = (false, eval e X.env) :: starEach es X.env := by rfl) (hpl : (backTo pos (starEach es X.env)).any (·.1) = false := by rfl) : PE X (.Call (.Name x p) (e :: es) [] pos) (tG Γ W (eF f ml)) :=
  pe_imp (pe_callTy hc hg hm hv ha hn hdb he hpl) fun _ _ _ h => by
    obtain ⟨μ, L, M, hs, hm, hp⟩ := h
    refine ⟨μ, L, M, hs, hm, hp.bind fun xs M1 μ1 vs H1 _ e1 t1 m1 r1 hp1 => ?_⟩
    exact ⟨μ1, M1, xs, m1, r1, hp1.loose⟩
end

/-! ### what the built-ins do -/
def itemsD (x : D) (M : Mem) : Option (List D) := match x with
  | .tup ds => some ds
  | .loc n => match M[n]? with
    | some o => some o.items
    | none => none
  | _ => none
def bLen (xs : List D) (M : Mem) : Res D := match xs with
  | [.str s] => if s.length ≤ big then .ok (.int s.length) M else .no
  | [x] => match itemsD x M with
    | some ds => .ok (.int ds.length) M
    | none => .no
  | _ => .no
def bMax (xs : List D) (M : Mem) : Res D := match xs with
  | [.int i, .int j] => .ok (.int (if j > i then j else i)) M
  | _ => .no
def bMin (xs : List D) (M : Mem) : Res D := match xs with
  | [.int i, .int j] => .ok (.int (if j < i then j else i)) M
  | _ => .no
def bList (xs : List D) (M : Mem) : Res D := match xs with
  | [x] => match itemsD x M with
    | some ds => .ok (.loc M.length) (M ++ [.lst ds])
    | none => .no
  | _ => .no
def bTuple (xs : List D) (M : Mem) : Res D := match xs with
  | [x] => match itemsD x M with
    | some ds => .ok (.tup ds) M
    | none => .no
  | _ => .no
def asBs : List D → Option (List Bool)
  | [] => some []
  | .bl b :: r => (asBs r).map (b :: ·)
  | _ => none
def asIs : List D → Option (List Int)
  | [] => some []
  | .int b :: r => (asIs r).map (b :: ·)
  | _ => none
def locD (x : D) (M : Mem) : Option (List D) := match x with
  | .loc n => match M[n]? with
    | some o => some o.items
    | none => none
  | _ => none
def bAll (xs : List D) (M : Mem) : Res D := match xs with
  | [x] => match (locD x M).bind asBs with
    | some bs => .ok (.bl (bs.all id)) M
    | none => .no
  | _ => .no
def bAny (xs : List D) (M : Mem) : Res D := match xs with
  | [x] => match (locD x M).bind asBs with
    | some bs => .ok (.bl (bs.any id)) M
    | none => .no
  | _ => .no
def bSum (xs : List D) (M : Mem) : Res D := match xs with
  | [x] => match (locD x M).bind asIs with
    | some ns => .ok (.int ns.sum) M
    | none => .no
  | _ => .no
def bInt (xs : List D) (M : Mem) : Res D := match xs with
  | [.int i] => .ok (.int i) M
  | [.bl k] => .ok (.int (if k then 1 else 0)) M
  | _ => .no
/-- a value's built-in type -/
def tyD : D → Mem → Option String
  | .non, _ => some "NoneType"
  | .bl _, _ => some "bool"
  | .int _, _ => some "int"
  | .str _, _ => some "str"
  | .tup _, _ => some "tuple"
  | .loc n, M => match M[n]? with
    | some (.lst _) => some "list"
    | _ => none
/-- isinstance(x, T), T a built-in type -/
def bIsi (T : String) (xs : List D) (M : Mem) : Res D := match xs with
  | [x] => match tyD x M with
    | some t => .ok (.bl (t == T || (t == "bool" && T == "int"))) M
    | none => .no
  | _ => .no

section
variable {X : Cx} {Γ : Gx} {ce : Nat → Addr × List Str} {W : WS}
theorem items_sq {K : PySem.W.Frag} {μ : List Addr} {H : Hp} {M : Mem} {x : D} {v : V} {ds : List D} (m : RM K μ H M) (r : Rv K μ H x v) (h : itemsD x M = some ds) : ∃ p vs, v = .ref p ∧ (SqL K H p vs ∨ SqT K H p vs) ∧ Rvs K μ H ds vs := by
  cases x with
  | tup es =>
    obtain ⟨p, vs, rfl, h1, h2⟩ := r.tup
    cases h
    exact ⟨p, vs, rfl, .inr h1, h2⟩
  | loc n =>
    obtain ⟨p, rfl, h1⟩ := r.loc
    unfold itemsD at h
    cases q : M[n]? with
    | none => simp only [q] at h; cases h
    | some o =>
      simp only [q] at h; cases h
      obtain ⟨vs, h2, h3⟩ := m.sql h1 q
      exact ⟨p, vs, rfl, .inl h2, h3⟩
  | _ => cases h
theorem loc_sq {K : PySem.W.Frag} {μ : List Addr} {H : Hp} {M : Mem} {x : D} {v : V} {ds : List D} (m : RM K μ H M) (r : Rv K μ H x v) (h : locD x M = some ds) : ∃ p vs, v = .ref p ∧ SqL K H p vs ∧ Rvs K μ H ds vs := by
  cases x with
  | loc n =>
    obtain ⟨p, rfl, h1⟩ := r.loc
    unfold locD at h
    cases q : M[n]? with
    | none => simp only [q] at h; cases h
    | some o =>
      simp only [q] at h; cases h
      obtain ⟨vs, h2, h3⟩ := m.sql h1 q
      exact ⟨p, vs, rfl, h2, h3⟩
  | _ => cases h
theorem cg_len : CallR X (.builtin "len") (rGs ⟨X.K, ce⟩ bLen) := by
  intro pins s σ H xs us Q I r h
  obtain ⟨μ, M, ds, hm, rd, hp⟩ := h
  cases ds with
  | nil => exact hp.elim
  | cons x t =>
    cases t with
    | cons _ _ => cases x <;> exact hp.elim
    | nil =>
      obtain ⟨v, rfl, rv⟩ := rd.one
      have seq : ∀ ds, itemsD x M = some ds → Pst ⟨X.K, ce⟩ ET (RvR ⟨X.K, ce⟩) μ H (.ok (.int ds.length) M) Q → wpAny (model X.prog X.w) X.A (call (.builtin "len") us) (EP X pins σ Q) X.xe s := fun ds e hq => by
        obtain ⟨p, vs, rfl, h1, h2⟩ := items_sq hm rv e
        exact call_len_seq pins s σ H _ us Q I r ⟨p, vs, rfl, h1, by rw [h2.length]; exact hq.here hm (rv_int _)⟩
      cases x with
      | str z =>
        obtain rfl := rv.str
        unfold bLen at hp
        by_cases q : z.length ≤ big
        · simp only [q, if_true] at hp
          exact call_len_str pins s σ H _ us Q I r ⟨z, rfl, big_le q, hp.here hm (rv_int _)⟩
        · simp only [q, if_false] at hp; exact hp.elim
      | tup es => exact seq es rfl hp
      | loc n =>
        unfold bLen at hp
        cases q : itemsD (.loc n) M with
        | none => simp only [q] at hp; exact hp.elim
        | some ds => simp only [q] at hp; exact seq ds q hp
      | _ => exact hp.elim
theorem two_int {K : PySem.W.Frag} {μ : List Addr} {H : Hp} {i j : Int} {vs : List V} (r : Rvs K μ H [.int i, .int j] vs) : vs = [.int i, .int j] := by
  obtain ⟨v, t, rfl, h1, h2⟩ := r.uncons
  obtain ⟨w, rfl, h3⟩ := h2.one
  rw [h1.int, h3.int]
theorem cg_max (hc : X.calm = true := by rfl) : CallR X (.builtin "max") (rGs ⟨X.K, ce⟩ bMax) := by
  intro pins s σ H xs us Q I r h
  obtain ⟨μ, M, ds, hm, rd, hp⟩ := h
  unfold bMax at hp
  split at hp
  · rename_i i j
    obtain rfl := two_int rd
    exact call_max2 hc pins s σ H _ us Q I r ⟨i, j, rfl, hp.here hm (rv_int _)⟩
  · exact hp.elim
theorem cg_min (hc : X.calm = true := by rfl) : CallR X (.builtin "min") (rGs ⟨X.K, ce⟩ bMin) := by
  intro pins s σ H xs us Q I r h
  obtain ⟨μ, M, ds, hm, rd, hp⟩ := h
  unfold bMin at hp
  split at hp
  · rename_i i j
    obtain rfl := two_int rd
    exact call_min2 hc pins s σ H _ us Q I r ⟨i, j, rfl, hp.here hm (rv_int _)⟩
  · exact hp.elim
theorem cg_list : CallR X (.type "list") (rGs ⟨X.K, ce⟩ bList) := by
  intro pins s σ H xs us Q I r h
  obtain ⟨μ, M, ds, hm, rd, hp⟩ := h
  unfold bList at hp
  split at hp
  · rename_i x
    obtain ⟨v, rfl, rv⟩ := rd.one
    cases q : itemsD x M with
    | none => simp only [q] at hp; exact hp.elim
    | some es =>
      simp only [q] at hp
      obtain ⟨p, vs, rfl, h1, h2⟩ := items_sq hm rv q
      exact call_list_of pins s σ H _ us Q I r ⟨p, vs, rfl, h1, fun np n0 => hp.newL hm h2 n0⟩
  · exact hp.elim
theorem cg_tuple : CallR X (.type "tuple") (rGs ⟨X.K, ce⟩ bTuple) := by
  intro pins s σ H xs us Q I r h
  obtain ⟨μ, M, ds, hm, rd, hp⟩ := h
  unfold bTuple at hp
  split at hp
  · rename_i x
    obtain ⟨v, rfl, rv⟩ := rd.one
    cases q : itemsD x M with
    | none => simp only [q] at hp; exact hp.elim
    | some es =>
      simp only [q] at hp
      obtain ⟨p, vs, rfl, h1, h2⟩ := items_sq hm rv q
      refine call_tuple_of pins s σ H _ us Q I r ⟨p, vs, rfl, ?_⟩
      rcases h1 with h1 | h1
      · exact .inl ⟨h1, fun np n0 => hp.newT hm h2 n0⟩
      · exact .inr ⟨h1, hp.here hm (rv_tup h1 h2)⟩
  · exact hp.elim
theorem asBs_v {K : PySem.W.Frag} {μ : List Addr} {H : Hp} : ∀ {ds : List D} {bs : List Bool} {vs : List V}, Rvs K μ H ds vs → asBs ds = some bs → vs = bs.map V.bl
  | [], _, _, r, e => by cases e; exact r.nil
  | d :: ds, _, _, r, e => by
    obtain ⟨v, t, rfl, h1, h2⟩ := r.uncons
    cases d with
    | bl b =>
      unfold asBs at e
      cases q : asBs ds with
      | none => rw [q] at e; cases e
      | some cs =>
        rw [q] at e; cases e
        rw [h1.bl, asBs_v h2 q]; rfl
    | _ => cases e
theorem asIs_v {K : PySem.W.Frag} {μ : List Addr} {H : Hp} : ∀ {ds : List D} {bs : List Int} {vs : List V}, Rvs K μ H ds vs → asIs ds = some bs → vs = bs.map V.int
  | [], _, _, r, e => by cases e; exact r.nil
  | d :: ds, _, _, r, e => by
    obtain ⟨v, t, rfl, h1, h2⟩ := r.uncons
    cases d with
    | int b =>
      unfold asIs at e
      cases q : asIs ds with
      | none => rw [q] at e; cases e
      | some cs =>
        rw [q] at e; cases e
        rw [h1.int, asIs_v h2 q]; rfl
    | _ => cases e
theorem cg_all (hc : X.calm = true := by rfl) : CallR X (.builtin "all") (rGs ⟨X.K, ce⟩ bAll) := by
  intro pins s σ H xs us Q I r h
  obtain ⟨μ, M, ds, hm, rd, hp⟩ := h
  unfold bAll at hp
  split at hp
  · rename_i x
    obtain ⟨v, rfl, rv⟩ := rd.one
    cases q : locD x M with
    | none => simp only [q, Option.bind_none] at hp; exact hp.elim
    | some es =>
      simp only [q, Option.bind_some] at hp
      cases q2 : asBs es with
      | none => simp only [q2] at hp; exact hp.elim
      | some bs =>
        simp only [q2] at hp
        obtain ⟨p, vs, rfl, h1, h2⟩ := loc_sq hm rv q
        obtain rfl := asBs_v h2 q2
        exact cr_all hc pins s σ H _ us Q I r ⟨p, bs, rfl, h1, hp.here hm (rv_bl _)⟩
  · exact hp.elim
theorem cg_any (hc : X.calm = true := by rfl) : CallR X (.builtin "any") (rGs ⟨X.K, ce⟩ bAny) := by
  intro pins s σ H xs us Q I r h
  obtain ⟨μ, M, ds, hm, rd, hp⟩ := h
  unfold bAny at hp
  split at hp
  · rename_i x
    obtain ⟨v, rfl, rv⟩ := rd.one
    cases q : locD x M with
    | none => simp only [q, Option.bind_none] at hp; exact hp.elim
    | some es =>
      simp only [q, Option.bind_some] at hp
      cases q2 : asBs es with
      | none => simp only [q2] at hp; exact hp.elim
      | some bs =>
        simp only [q2] at hp
        obtain ⟨p, vs, rfl, h1, h2⟩ := loc_sq hm rv q
        obtain rfl := asBs_v h2 q2
        exact cr_any hc pins s σ H _ us Q I r ⟨p, bs, rfl, h1, hp.here hm (rv_bl _)⟩
  · exact hp.elim
theorem cg_sum (hc : X.calm = true := by rfl) : CallR X (.builtin "sum") (rGs ⟨X.K, ce⟩ bSum) := by
  intro pins s σ H xs us Q I r h
  obtain ⟨μ, M, ds, hm, rd, hp⟩ := h
  unfold bSum at hp
  split at hp
  · rename_i x
    obtain ⟨v, rfl, rv⟩ := rd.one
    cases q : locD x M with
    | none => simp only [q, Option.bind_none] at hp; exact hp.elim
    | some es =>
      simp only [q, Option.bind_some] at hp
      cases q2 : asIs es with
      | none => simp only [q2] at hp; exact hp.elim
      | some bs =>
        simp only [q2] at hp
        obtain ⟨p, vs, rfl, h1, h2⟩ := loc_sq hm rv q
        obtain rfl := asIs_v h2 q2
        exact cr_sum hc pins s σ H _ us Q I r ⟨p, bs, rfl, h1, hp.here hm (rv_int _)⟩
  · exact hp.elim
theorem cg_int : CallR X (.type "int") (rGs ⟨X.K, ce⟩ bInt) := by
  intro pins s σ H xs us Q I r h
  obtain ⟨μ, M, ds, hm, rd, hp⟩ := h
  unfold bInt at hp
  split at hp
  · rename_i i
    obtain ⟨v, rfl, rv⟩ := rd.one
    obtain rfl := rv.int
    exact call_int1 pins s σ H _ us Q I r (.inl ⟨i, rfl, hp.here hm (rv_int _)⟩)
  · rename_i i
    obtain ⟨v, rfl, rv⟩ := rd.one
    obtain rfl := rv.bl
    exact call_int1 pins s σ H _ us Q I r (.inr ⟨i, rfl, hp.here hm (rv_int _)⟩)
  · exact hp.elim
theorem tyD_x {K : PySem.W.Frag} {μ : List Addr} {H : Hp} {M : Mem} {x : D} {v : V} {t : String} (m : RM K μ H M) (r : Rv K μ H x v) (h : tyD x M = some t) : TyX K H v (.type t) := by
  cases x with
  | non => cases h; rw [r.non]; exact .base .non
  | bl b => cases h; rw [r.bl]; exact .base (.bl b)
  | int i => cases h; rw [r.int]; exact .base (.int i)
  | str z => cases h; rw [r.str]; exact .base (.str z)
  | tup ds =>
    cases h
    obtain ⟨p, vs, rfl, h1, _⟩ := r.tup
    rcases h1 with (h1 | ⟨o, h1⟩) | ⟨o, its, n, h1, h2, _⟩
    · exact .base (.tup h1)
    · exact .fTuple h1
    · exact .kTuple h1 h2
  | loc n =>
    obtain ⟨p, rfl, h1⟩ := r.loc
    unfold tyD at h
    cases q : M[n]? with
    | none => simp only [q] at h; cases h
    | some o =>
      cases o with
      | lst ds =>
        simp only [q] at h; cases h
        obtain ⟨vs, h2, _⟩ := m.lst h1 q
        exact .base (.lst h2)
      | rol ds => simp only [q] at h; cases h
/-- isinstance(x, T): kt decides the few built-in types -/
theorem cg_isi {T : String} {x : Str} {p2 p3 pos : Pos} {e : Expr} {ma : LE} (kt : ∀ t ∈ ["NoneType", "bool", "int", "str", "tuple", "list"], kitB t T = some (t == T || (t == "bool" && T == "int")))
    (he : PE X e (tG ⟨X.K, ce⟩ W ma)) (hg : Gl X "isinstance") (hm : X.mg "isinstance" = none) (hg2 : Gl X x) (hm2 : X.mg x = none) (hv2 : bootBuiltins x = some (.type T)) (hn2 : x ≠ "__name__" := by decide) (hdb2 : (x == ("__debug__" : Str)) = false := by decide)
    (hs1 : starEach [e, .Name x p3] X.env = (false, eval e X.env) :: starEach [.Name x p3] X.env := by rfl) (hs2 : starEach [.Name x p3] X.env = (false, eval (.Name x p3) X.env) :: starEach [] X.env := by rfl)
    (hpl : (backTo pos (starEach [.Name x p3] X.env)).any (·.1) = false := by rfl) :
    PE X (.Call (.Name "isinstance" p2) [e, .Name x p3] [] pos) (tG ⟨X.K, ce⟩ W (eF (bIsi T) (aC ma aN))) :=
  pe_imp (pe_callB (r := rIsi X.K) call_isi hg hm (by decide +kernel) (pa_cons he (pa_cons (pe_bltn (v := .ty T) hg2 hm2 hv2 rfl hn2 hdb2) pa_nil hs2) hs1) (he := hs1) (hpl := hpl)) fun σ _ Q h => by
    obtain ⟨μ, L, M, hs, hm, hp⟩ := h
    unfold eF aC aN at hp
    simp only [Res.bind] at hp
    cases q : ma L M with
    | no => rw [q] at hp; exact hp.elim
    | ex e2 M' => refine ⟨μ, L, M, hs, hm, ?_⟩; rw [q] at hp ⊢; exact hp
    | ok z M1 =>
      rw [q] at hp
      refine ⟨μ, L, M, hs, hm, ?_⟩
      rw [q]
      intro μ1 v H1 e1 t1 m1 r1
      simp only [bIsi] at hp
      cases q2 : tyD z M1 with
      | none => simp only [q2] at hp; exact hp.elim
      | some t =>
        simp only [q2] at hp
        refine ⟨v, .ty T, .type t, .type T, _, rfl, .ty T, tyD_x m1 r1 q2, kit_ty (kt t ?_), ?_⟩
        · cases z <;> first
            | (cases q2; decide)
            | (unfold tyD at q2; rename_i n; cases q3 : M1[n]? with
               | none => simp only [q3] at q2; cases q2
               | some o => cases o <;> first | (simp only [q3] at q2; cases q2; decide) | (simp only [q3] at q2; cases q2))
        · exact hp μ1 _ _ e1 t1 m1 (rv_bl _)
end
end G

/-! S5: defs with what is known of the guards around them; their calls; repr of data. -/
namespace G
open PySem L2 PyProof.Rows

/-- a def's promise where no repr runs around -/
structure FG (P : Program) (w : World) (K : PySem.W.Frag) (mg : Str → Option Value) (base : Heap) (CX : CXT) (k : Nat) (f : Addr) (fd : FuncData) (ps : List Str) (sp : Sp) : Prop where
  ar : ∀ vs H Q E, sp vs H Q E → vs.length = ps.length
  go : ∀ (A : Around) (out : List PySem.Env) (s : Shared) (H : Hp) (as : Args) (us : List Value) (vs : List V) (Q : VK) (E : XK), Room k A → A.guards = some [] → Env0 P w K mg base A out s H →
    BindsTo s fd as (ps.zip us) → Vals vs us → sp vs H Q E → codeAny (model P w) A (.call (.ref f) as) (CR CX out P w H s Q E) s
theorem FG.mono {P : Program} {w : World} {K : PySem.W.Frag} {mg : Str → Option Value} {base : Heap} {CX : CXT} {j k : Nat} {f : Addr} {fd : FuncData} {ps : List Str} {sp : Sp} (F : FG P w K mg base CX j f fd ps sp) (h : j ≤ k) : FG P w K mg base CX k f fd ps sp :=
  ⟨F.ar, fun A out s H as us vs Q E r => F.go A out s H as us vs Q E (r.mono h)⟩

theorem fg_of {CX : CXT} {P : Program} {w : World} {K : PySem.W.Frag} {mg : Str → Option Value} {base : Heap} {k : Nat} {f : Addr} {nm ql : Str} {prm : Arguments} {bdy : List Stmt} {scp : Scope} {dV kV dc pm cdv ct oc : Value} {an od : Option Addr}
    {sl : Array (Option Value)} {N ps : List Str} {sp : Sp} (lk : K.lookup f = some ⟨oc, od, .func (PySem.W.fnOf nm ql prm bdy scp dV kV dc pm an cdv ct), sl⟩) (hc : PySem.W.codeIn K cdv ql = true) (S : FnScope N ps scp)
    (ar : ∀ vs H Q E, sp vs H Q E → vs.length = ps.length)
    (body : ∀ (A : Around) (out : List PySem.Env) (s : Shared) (H : Hp) (vs : List V) (Q : VK) (E : XK), Room k (A.deeper (envOfC ql scp s.heap.objs.size f cdv)) → A.guards = some [] → sp vs H Q E →
      ∃ t, PSs (cxOf CX P w K mg base N ql scp f cdv A out s H E) bdy t ∧ t { nx := fun _ H' => Q .non H', rt := Q } (start N vs) H) :
    FG P w K mg base CX (k + 1) f (PySem.W.fnOf nm ql prm bdy scp dV kV dc pm an cdv ct) ps sp := by
  refine ⟨ar, fun A out s H as us vs Q E room gd en bnd rel pr => ?_⟩
  have ln := ar _ _ _ _ pr
  have kin : K.In s.heap := en.mod.kin.keeps fun b o q => (en.bs b o q).1
  have nl : s.heap.NoLimit := en.mod.nolimit.keeps fun b o q => (en.bs b o q).1
  have kinds : ∀ y ∈ ps.zip us, scp.names.lookup y.1 = some .local ∨ (scp.names.lookup y.1 = some .cell ∧ ((cellsFrom (s.heap.objs.size + 1) scp.names []).lookup y.1).isSome = true) := by
    intro y hy
    have par := S.par y.1 (List.of_mem_zip hy).1
    rcases par with q | q
    · exact .inl q
    · exact .inr ⟨q, PySem.W.cellsFrom_some _ _ _ (.inl q)⟩
  have binds := bnd
  refine codeAny_call_function room.depth (kin _ _ lk) rfl S.co S.gen rfl (PySem.W.codeRec_of kin hc) (binds _ _ _ _ ?_)
  refine wpAny_newFunctionEnv_cells S.kind kinds fun ev ee s1 xx => ?_
  subst ee
  refine ⟨nl.keeps xx.toInCall.keep, codeAny_func ?_⟩
  obtain ⟨t, d, q⟩ := body A out s H vs Q E (room.deeper _) gd pr
  have J : Inv (cxOf CX P w K mg base N ql scp f cdv A out s H E) [] (start N vs) H s1 := inv_start S room.hd en ln rel xx
  refine wpAny_mono (d.run [] s1 (start N vs) H _ J q) (fun fl s' z => ?_) fun x s' z => z
  have last : ∀ {σ' : L2.St} {H' : Hp} {v : V} {u : Value}, Inv (cxOf CX P w K mg base N ql scp f cdv A out s H E) [] σ' H' s' → RelV v u → Q v H' → CE out P w H s Q u s' := by
    intro σ' H' v u j rv qv
    exact ⟨v, H', j.os, j.bare, j.base, j.hok, rv, qv⟩
  cases fl with
  | ret u => obtain ⟨v, σ', H', j, rv, qv⟩ := z; exact last j rv qv
  | next => obtain ⟨σ', H', j, qv⟩ := z; exact last (v := V.non) (u := Value.none) j rfl qv
  | brk => obtain ⟨_, _, _, qv⟩ := z; exact qv.elim
  | cont => obtain ⟨_, _, _, qv⟩ := z; exact qv.elim

/-! ### what a def does, by values -/
abbrev Fn := List D → Mem → Res D
/-- a body run at its parameters' values, n names in all, p of them parameters -/
def retF (r : Res (Fl × Env)) : Res D := match r with
  | .ok (.nx, _) M1 => .ok .non M1
  | .ok (.rt d, _) M1 => .ok d M1
  | .ok (.xc e, _) M1 => .ex e M1
  | .ex e M1 => .ex e M1
  | _ => .no
def runF (n p : Nat) (b : LS) : Fn := fun ds M => if ds.length = p then retF (b (ds.map some ++ List.replicate (n - p) none) M) else .no
def spG (Γ : Gx) (f : Fn) : Sp := fun vs H Q E => ∃ μ M ds, RM Γ.K μ H M ∧ Rvs Γ.K μ H ds vs ∧ Pst Γ E (RvR Γ) μ H (f ds M) Q
def PstS (Γ : Gx) (W : WS) (μ : List Addr) (H : Hp) (r : Res (Fl × Env)) (D : Ends) : Prop := match r with
  | .ok (fl, L') M' => ∀ μ' σ' H', Ext μ μ' → Tk Γ.K H H' → RM Γ.K μ' H' M' → Rs Γ.K μ' H' L' σ' → match fl with
    | .nx => D.nx σ' H'
    | .bk => D.bk σ' H'
    | .ct => D.ct σ' H'
    | .rt d => ∀ v, Rv Γ.K μ' H' d v → D.rt v H'
    | .xc e => ∀ cls dd, RX Γ.K Γ.ce μ' H' e cls dd → W σ' cls dd H'
  | .ex e M' => ∀ μ' σ' H' cls dd, Ext μ μ' → Tk Γ.K H H' → RM Γ.K μ' H' M' → RX Γ.K Γ.ce μ' H' e cls dd → W σ' cls dd H'
  | .no => False
def tGS (Γ : Gx) (W : WS) (m : LS) : TS := fun D σ H => ∃ μ L M, Rs Γ.K μ H L σ ∧ RM Γ.K μ H M ∧ PstS Γ W μ H (m L M) D

section
variable {P : Program} {w : World} {K : PySem.W.Frag} {mg : Str → Option Value} {base : Heap} {ce : Nat → Addr × List Str}
/-- a def of the text (its defaults stand in the call), by its body -/
theorem fg_fun {CX : CXT} {x qual : Str} {st : Stmt} {dvs : List V} {kws : List (Str × V)} {f : Addr} {fd : FuncData} {N ps : List Str} {k : Nat} {b : LS} (F : FunD K x qual (defArgs st) (defBody st) (defScope st) dvs kws f fd) (S : FnScope N ps (defScope st))
    (body : ∀ (cdv : Value) (A : Around) (out : List PySem.Env) (s : Shared) (H : Hp) (E : XK), Room k (A.deeper (envOfC qual (defScope st) s.heap.objs.size f cdv)) → A.guards = some [] →
      PSs (cxOf CX P w K mg base N qual (defScope st) f cdv A out s H E) (defBody st) (tGS ⟨K, ce⟩ (fun _ => E) b)) :
    FG P w K mg base CX (k + 1) f fd ps (spG ⟨K, ce⟩ (runF N.length ps.length b)) := by
  obtain ⟨oc, od, dV, kV, doc, pm, an, cdv, ct, osl, rfl, lk, hcd, _, _⟩ := F.ex
  have arity : ∀ vs H Q E, spG ⟨K, ce⟩ (runF N.length ps.length b) vs H Q E → ∃ μ M ds, vs.length = ps.length ∧ RM K μ H M ∧ Rvs K μ H ds vs ∧ ds.length = ps.length ∧ Pst ⟨K, ce⟩ E (RvR ⟨K, ce⟩) μ H (runF N.length ps.length b ds M) Q := by
    rintro vs H Q E ⟨μ, M, ds, hm, hr, hp⟩
    by_cases q : ds.length = ps.length
    · exact ⟨μ, M, ds, by rw [hr.length]; exact q, hm, hr, q, hp⟩
    · unfold runF at hp
      rw [if_neg q] at hp
      exact hp.elim
  refine fg_of lk hcd S (fun vs H Q E h => let ⟨_, _, _, e, _⟩ := arity vs H Q E h; e) fun A out s H vs Q E room gd pr => ⟨_, body cdv A out s H E room gd, ?_⟩
  obtain ⟨μ, M, ds, _, hm, hr, hd, hp⟩ := arity _ _ _ _ pr
  unfold runF at hp
  rw [if_pos hd] at hp
  refine ⟨μ, ds.map some ++ List.replicate (N.length - ps.length) none, M, ⟨?_, fun i d e => ?_⟩, hm, ?_⟩
  · unfold L2.start
    simp only [List.length_append, List.length_map, List.length_replicate, hr.length, hd]
  · have hi : i < ds.length := by
      by_cases hi : i < ds.length
      · exact hi
      · rw [List.getElem?_append_right (by rw [List.length_map]; omega), List.getElem?_replicate] at e
        split at e <;> cases e
    rw [List.getElem?_append_left (by rw [List.length_map]; exact hi), List.getElem?_map] at e
    have e2 : ds[i]? = some d := by
      cases q : ds[i]? with
      | none => rw [q] at e; cases e
      | some z => rw [q] at e; cases e; rfl
    obtain ⟨v, h1, h2⟩ := hr.get e2
    refine ⟨v, ?_, h2⟩
    unfold L2.start
    rw [List.getElem?_append_left (by rw [List.length_map]; exact (List.getElem?_eq_some_iff.mp h1).1), List.getElem?_map, h1]
    rfl
  · cases q : b (ds.map some ++ List.replicate (N.length - ps.length) none) M with
    | no => rw [q] at hp; exact hp.elim
    | ex e M' =>
      rw [q] at hp
      exact fun μ' σ' H' cls dd e1 t1 m1 rx => hp μ' H' cls dd e1 t1 m1 rx
    | ok r M1 =>
      rw [q] at hp
      obtain ⟨fl, L'⟩ := r
      intro μ' σ' H' e1 t1 m1 r1
      cases fl with
      | nx => exact hp μ' _ H' e1 t1 m1 rv_non
      | rt d => exact fun v rv => hp μ' v H' e1 t1 m1 rv
      | xc e => exact fun cls dd rx => hp μ' H' cls dd e1 t1 m1 rx
      | bk => exact hp.elim
      | ct => exact hp.elim
end

/-! ### calls of the text's defs -/
section
variable {X : Cx} {Γ : Gx} {ce : Nat → Addr × List Str} {W : WS} {CX : CXT} {k : Nat} {f : Addr} {fd : FuncData} {ps : List Str} {fn : Fn} {dvs : List V} {dds : List D} {x : Str} {p pos : Pos} {e : Expr} {es : List Expr} {ml : LA}
/-- f(..), the defaults dds behind the arguments -/
def eCall (fn : Fn) (dds : List D) (a : LA) : LE := fun L M => (a L M).bind fun xs M1 => fn (xs ++ dds) M1
theorem run_fg {ds : List Value} {pins : List (Addr × Obj)} {σ : L2.St} {H : Hp} {s : Shared} {Q : VK} {us : List Value} {vs : List V} {sp : Sp} {E : XK} (F : FG X.prog X.w X.K X.mg X.base CX k f fd ps sp) (hr : Room k X.A) (hgd : X.A.guards = some []) (hb : Binds X.K fd ps ds) (hd : Vals dvs ds)
    (hx : PassesAt CX X σ E) (I : Inv X pins σ H s) (r : Vals vs us) (h : sp (vs ++ dvs) H Q E) : wpAny (model X.prog X.w) X.A (call (.ref f) us) (EP X pins σ Q) X.xe s := by
  have rr : Vals (vs ++ dvs) (us ++ ds) := r.append hd
  have ll : (us ++ ds).length = ps.length := rr.length.symm.trans (F.ar _ _ _ _ h)
  refine wpAny_call (codeAny_mono (F.go X.A X.stack s H ⟨us, []⟩ (us ++ ds) (vs ++ dvs) Q E hr hgd I.env0 (hb s us I.kIn ll) rr h) fun z s' hz => ?_)
  cases z with
  | error u => exact hx pins H s u s' I hz
  | ok fl => cases fl with
    | ret u => exact I.after hz
    | next => exact hz.elim
    | brk => exact hz.elim
    | cont => exact hz.elim
theorem pm_call {ce : Nat → Addr × List Str} (F : FG X.prog X.w X.K X.mg X.base CX k f fd ps (spG ⟨X.K, ce⟩ fn)) (hr : Room k X.A) (hgd : X.A.guards = some []) (hg : Gl X x) (hm : X.mg x = some (.ref f)) (hk : PySem.W.keepIn X.K (.ref f) = true)
    (hbd : ∃ ds, Vals dvs ds ∧ Binds X.K fd ps ds) (hdd : ∀ μ H, Rvs X.K μ H dds dvs) (hx : ∀ σ, PassesAt CX X σ (W σ)) (ha : PA X (e :: es) (tGA ⟨X.K, ce⟩ W ml)) (hdb : (x == ("__debug__" : Str)) = false := by decide)
    (he : starEach (e :: es) X.env = (false, eval e X.env) :: starEach es X.env := by rfl) (hpl : (backTo pos (starEach es X.env)).any (·.1) = false := by rfl) :
    PE X (.Call (.Name x p) (e :: es) [] pos) (tG ⟨X.K, ce⟩ W (eCall fn dds ml)) := by
  obtain ⟨ds, hd, hb⟩ := hbd
  refine ⟨fun pins s σ H Q I h => ?_⟩
  obtain ⟨μ, L, M, hs, hM, hp⟩ := h
  refine wpAny_Call_Name_kw (ld_glob I hg hm ?_ hdb)
  have args := ha.run pos pins s σ H (fun vs H1 => spG ⟨X.K, ce⟩ fn (vs ++ dvs) H1 Q (W σ)) I ⟨μ, L, M, hs, hM, hp.bind fun xs M1 μ1 vs H1 _ e1 t1 m1 r1 hp1 => ⟨μ1, M1, xs ++ dds, m1, r1.append (hdd _ _), hp1⟩⟩
  refine PySem.W.callWith_K (h₀ := X.base) I.ok.mod.kin hk (thn args fun us s1 ⟨vs, H1, I1, r, q⟩ => ⟨I1.kIn, ?_⟩) he hpl
  exact run_fg F hr hgd hb hd (hx σ) I1 r q
theorem pm_call0 {ce : Nat → Addr × List Str} (F : FG X.prog X.w X.K X.mg X.base CX k f fd ps (spG ⟨X.K, ce⟩ fn)) (hr : Room k X.A) (hgd : X.A.guards = some []) (hg : Gl X x) (hm : X.mg x = some (.ref f)) (hk : PySem.W.keepIn X.K (.ref f) = true)
    (hbd : ∃ ds, Vals dvs ds ∧ Binds X.K fd ps ds) (hdd : ∀ μ H, Rvs X.K μ H dds dvs) (hx : ∀ σ, PassesAt CX X σ (W σ)) (hdb : (x == ("__debug__" : Str)) = false := by decide) :
    PE X (.Call (.Name x p) [] [] pos) (tG ⟨X.K, ce⟩ W (eCall fn dds aN)) := by
  obtain ⟨ds, hd, hb⟩ := hbd
  refine ⟨fun pins s σ H Q I h => ?_⟩
  obtain ⟨μ, L, M, hs, hM, hp⟩ := h
  refine wpAny_Call_Name_kw (ld_glob I hg hm ?_ hdb)
  exact PySem.W.callWith_K0 I.kIn hk (run_fg (us := []) (vs := []) F hr hgd hb hd (hx σ) I .nil ⟨μ, M, dds, hM, hdd _ _, hp⟩)
end

/-! ### repr of data whose ints have at most 4,300 digits -/
section
variable {prog : Program} {w : World} {A : Around} {E : Value → Shared → Prop} {s : Shared}
theorem over_small {a : Int} {Q : Option Nat → Shared → Prop} (hn : s.heap.NoDigits) (h : a.natAbs < 10 ^ 4300) (q : Q none s) : wpAny (model prog w) A (Builtin.overDigitLimit? a) Q E s :=
  overDigitLimit_any hn (fun _ => q) fun g => absurd h (Nat.not_lt.mpr g)
theorem obj_int_big {a : Int} {t : Tok} {Q : Value → Shared → Prop} (hn : s.heap.NoDigits) (ha : a.natAbs < 10 ^ 4300) (q : Q (.str (toString a) s.toks) { s with toks := s.toks + 1 }) : wpAny (model prog w) A (pyReprObj (.int a t)) Q E s := by
  unfold pyReprObj; simp only [cRoomFor, List.any_cons, List.any_nil, Value.onHeap, Bool.or_false, Bool.false_eq_true, if_false, pure_bind]
  refine wpAny_bind (wpAny_specialOf (name := Str.ofString "__repr__") (typeIs_int s a t) PySem.F.slot_int_repr.lookup ?_)
  refine wpAny_bind (m := callSpecialIfBound? (.int a t) (Str.ofString "__repr__")) (wpAny_callSpecialIfBound?_slot (name := Str.ofString "__repr__") (typeIs_int s a t) PySem.F.slot_int_repr ?_)
  refine wpAny_call (codeAny_call_builtin PySem.F.slot_int_repr.plain PySem.F.entry_int_repr (PySem.F.slot_int_repr.check _ _ _ _ _ _ _ _ (typeIs_int s a t) (PySem.F.args_int_repr_1 _) ?_))
  unfold Builtin.«int.__repr__»; show wpAny _ _ (do let r ← Builtin.overDigitLimit? a; _) _ _ s
  refine wpAny_bind (over_small hn ha ?_)
  refine wpAny_bind (wpAny_mkStr (wpAny_pure ?_) (int_text_fits10 ha))
  exact wpAny_bind (wpAny_isInstance (T := "str") (b := true) rfl isSubtype_str_str (wpAny_pure q))

theorem pyRepr_int_big {a : Int} {t : Tok} {Q : Str → Shared → Prop} (hn : s.heap.NoDigits) (ha : a.natAbs < 10 ^ 4300) (q : Q (toString a) { s with toks := s.toks + 1 }) : wpAny (model prog w) A (pyRepr (.int a t)) Q E s := by
  unfold pyRepr
  exact wpAny_bind (obj_int_big hn ha (wpAny_pure q))
end
mutual
/-- what repr can show: no dict, ints of at most 4,300 digits -/
def tame : PyData → Bool
  | .none | .bool _ | .str _ => true
  | .int i => decide (i.natAbs < 10 ^ 4300)
  | .list xs | .tuple xs => tames xs
  | .dict _ => false
def tames : List PyData → Bool
  | [] => true
  | x :: xs => tame x && tames xs
end
section
variable {prog : Program} {w : World} {h₀ : Heap}
mutual
theorem reprK_tame (hn : h₀.NoDigits) : ∀ {v : Value} {d : PyData} {as : List Addr}, Reads h₀ v d as → tame d = true → d.shown.length ≤ sizeLine → ∃ bs, ReadAtMost h₀ d.depth bs ∧ ReprK prog w bs h₀ d.depth v d.shown
  | _, _, _, .none, _, _ => ⟨[], (fun _ z => nomatch z), by simp only [PyData.shown]; exact ReprK.of_is ReprIs.none _ _ _⟩
  | _, _, _, .bool b, _, _ => ⟨[], (fun _ z => nomatch z), by simp only [PyData.shown]; exact ReprK.of_is (ReprIs.bool b) _ _ _⟩
  | _, _, _, .int i t, ht, _ => ⟨[], (fun _ z => nomatch z), by
    simp only [PyData.shown]
    intro base hb A g E s Q hg hcl hu hk hQ
    rw [pyReprUnder_leaf (v := .int i t) (by omega) (fun _ e => nomatch e)]
    exact pyRepr_int_big (hn.keeps hk) (by simpa [tame] using ht) (hQ s.heap _ fun _ _ e => e)⟩
  | _, _, _, .str x t, _, hz => ⟨[], (fun _ z => nomatch z), by simp only [PyData.shown]; exact ReprK.of_is (ReprIs.str x t (by simpa only [PyData.shown] using hz)) _ _ _⟩
  | _, _, _, .list (a := a) (vs := vs) (xs := xs) g1 g2 g3 g4, ht, hz => by
    have z : (listText (PyData.shownAll xs)).length ≤ sizeLine := by simpa only [PyData.shown] using hz
    obtain ⟨bs, am, kk⟩ := reprAllK_tame hn g4 (by simpa [tame] using ht) fun t m => Nat.le_trans (listText_mem_le m) z
    have rd : Reads h₀ (.ref a) (.list xs) _ := .list g1 g2 g3 g4
    have off : a ∉ bs := not_mem_of_deeper rd (by simp only [PyData.depth]; omega) am
    refine ⟨a :: bs, fun b hb => ?_, ?_⟩
    · rcases List.mem_cons.mp hb with rfl | hb
      · exact ⟨_, _, rd, Nat.le_refl _⟩
      · obtain ⟨d', as', r', l'⟩ := am b hb
        exact ⟨d', as', r', by simp only [PyData.depth]; omega⟩
    · simp only [PyData.depth, PyData.shown]
      obtain ⟨l⟩ := vs
      cases l with
      | nil => have g5 : ReadsAll h₀ [] xs _ := g4; cases g5; simp only [PyData.shownAll, listText_nil]; exact ReprK.listEmpty g1 g2 g3
      | cons x l => exact ReprK.list g1 g2 g3 off (by simpa using kk.length_eq) fun i y e => kk.item i y (by simpa using e)
  | _, _, _, .tuple (a := a) (xs := xs) g1 g2 g3 g4, ht, hz => by
    have z : (tupleText (PyData.shownAll xs)).length ≤ sizeLine := by simpa only [PyData.shown] using hz
    obtain ⟨bs, am, kk⟩ := reprAllK_tame hn g4 (by simpa [tame] using ht) fun t m => Nat.le_trans (tupleText_mem_le m) z
    have rd : Reads h₀ (.ref a) (.tuple xs) _ := .tuple g1 g2 g3 g4
    have off : a ∉ bs := not_mem_of_deeper rd (by simp only [PyData.depth]; omega) am
    refine ⟨a :: bs, fun b hb => ?_, ?_⟩
    · rcases List.mem_cons.mp hb with rfl | hb
      · exact ⟨_, _, rd, Nat.le_refl _⟩
      · obtain ⟨d', as', r', l'⟩ := am b hb
        exact ⟨d', as', r', by simp only [PyData.depth]; omega⟩
    · simp only [PyData.depth, PyData.shown]
      exact ReprK.tuple g1 g2 g3 off kk
  | _, _, _, .dict g1 g2 g3 g4 g5, ht, _ => by simp [tame] at ht
theorem reprAllK_tame (hn : h₀.NoDigits) : ∀ {vs : List Value} {ds : List PyData} {as : List Addr}, ReadsAll h₀ vs ds as → tames ds = true → (∀ t ∈ PyData.shownAll ds, t.length ≤ sizeLine) →
    ∃ bs, ReadAtMost h₀ (PyData.depthAll ds) bs ∧ ReprAllK prog w bs h₀ (PyData.depthAll ds) vs (PyData.shownAll ds)
  | _, _, _, .nil, _, _ => ⟨[], (fun _ z => nomatch z), by simp only [PyData.shownAll]; exact .nil⟩
  | _, _, _, .cons (d := d) (ds := ds) r rs, ht, hz => by
    have tt : tame d = true ∧ tames ds = true := by simpa [tames] using ht
    obtain ⟨b1, am1, k1⟩ := reprK_tame hn r tt.1 (hz _ (by simp only [PyData.shownAll]; exact List.mem_cons_self ..))
    obtain ⟨b2, am2, k2⟩ := reprAllK_tame hn rs tt.2 fun t m => hz t (by simp only [PyData.shownAll]; exact List.mem_cons_of_mem _ m)
    refine ⟨b1 ++ b2, fun b hm => ?_, ?_⟩
    · simp only [PyData.depthAll]
      rcases List.mem_append.mp hm with m | m
      · obtain ⟨d', as', r', l'⟩ := am1 b m
        exact ⟨d', as', r', Nat.le_trans l' (Nat.le_max_left _ _)⟩
      · obtain ⟨d', as', r', l'⟩ := am2 b m
        exact ⟨d', as', r', Nat.le_trans l' (Nat.le_max_right _ _)⟩
    · simp only [PyData.depthAll, PyData.shownAll]
      exact .cons ((k1.more fun b m => List.mem_append_left _ m).level_le (Nat.le_max_left _ _)) (k2.more_le (fun b m => List.mem_append_right _ m) (Nat.le_max_right _ _))
end
variable {A : Around} {E : Value → Shared → Prop} {s : Shared} {Q : Value → Shared → Prop}
theorem call_repr_ref {a : Addr} {d : PyData} {as : List Addr} (hn : s.heap.NoDigits) (r : Reads s.heap (.ref a) d as) (ht : tame d = true) (hz : d.shown.length ≤ sizeLine) (hg : A.guards = some []) (hu : A.units + (d.depth + 1) < cLine)
    (hQ : ∀ h' u tk, (∀ b o, s.heap.get? b = some o → h'.get? b = some o) → Q (.str d.shown u) { s with heap := h', toks := tk }) : wpAny (model prog w) A (call (.builtin "repr") [.ref a]) Q E s := by
  cases r with
  | list g1 g2 g3 g4 =>
    rename_i o vs n xs bs₀
    have z : (listText (PyData.shownAll xs)).length ≤ sizeLine := by simpa only [PyData.shown] using hz
    obtain ⟨bs, am, kk⟩ := reprAllK_tame (prog := prog) (w := w) hn g4 (by simpa [tame] using ht) fun t m => Nat.le_trans (listText_mem_le m) z
    have off : a ∉ bs := not_mem_of_deeper (.list g1 g2 g3 g4) (by simp only [PyData.depth]; omega) am
    simp only [PyData.depth] at hu
    simp only [PyData.shown] at hQ
    refine call_repr_slot (by omega) ⟨o, g1, g2⟩ PySem.F.slot_list_repr.toG ?_
    obtain ⟨l⟩ := vs
    cases l with
    | nil =>
      have g5 : ReadsAll s.heap [] xs _ := g4
      cases g5
      simp only [PyData.shownAll, listText_nil] at hQ
      exact call_list_repr_empty ⟨o, g1, g2⟩ g1 g3 ⟨_, _, rfl, hQ s.heap _ _ fun _ _ e => e⟩
    | cons x l =>
      exact call_list_reprK g1 g2 g3 off (by simpa using kk.length_eq) (fun i y e => kk.item i y (by simpa using e)) hg (fun b _ => Clear.nil b) (by show A.units + 1 + _ < cLine; omega) (fun _ _ e => e) (fun h' u tk k => ⟨_, _, rfl, hQ h' u tk k⟩) z
  | tuple g1 g2 g3 g4 =>
    rename_i o vs n xs
    have z : (tupleText (PyData.shownAll xs)).length ≤ sizeLine := by simpa only [PyData.shown] using hz
    obtain ⟨bs, am, kk⟩ := reprAllK_tame (prog := prog) (w := w) hn g4 (by simpa [tame] using ht) fun t m => Nat.le_trans (tupleText_mem_le m) z
    have off : a ∉ bs := not_mem_of_deeper (.tuple g1 g2 g3 g4) (by simp only [PyData.depth]; omega) am
    simp only [PyData.depth] at hu
    simp only [PyData.shown] at hQ
    refine call_repr_slot (by omega) ⟨o, g1, g2⟩ PySem.F.slot_tuple_repr ?_
    exact call_tuple_reprK g1 g2 g3 off kk hg (fun b _ => Clear.nil b) (by show A.units + 1 + _ < cLine; omega) (fun _ _ e => e) (fun h' u tk k => ⟨_, _, rfl, hQ h' u tk k⟩) z
  | dict g1 g2 g3 g4 g5 => simp [tame] at ht
/-- repr(v) -/
theorem call_repr_tame {v : Value} {d : PyData} {as : List Addr} (hn : s.heap.NoDigits) (r : Reads s.heap v d as) (ht : tame d = true) (hz : d.shown.length ≤ sizeLine) (hg : A.guards = some []) (hu : A.units + (d.depth + 1) < cLine)
    (hQ : ∀ h' u tk, (∀ b o, s.heap.get? b = some o → h'.get? b = some o) → Q (.str d.shown u) { s with heap := h', toks := tk }) : wpAny (model prog w) A (call (.builtin "repr") [v]) Q E s := by
  cases r with
  | none => simp only [PyData.shown] at hQ; exact PySem.P.repr_of_none (hQ s.heap _ _ fun _ _ e => e)
  | bool b => simp only [PyData.shown] at hQ; exact PySem.P.repr_of_bool (hQ s.heap _ _ fun _ _ e => e)
  | str x t => simp only [PyData.shown] at hQ hz; exact PySem.P.repr_of_str (hQ s.heap _ _ fun _ _ e => e) hz
  | int i t =>
    simp only [PyData.shown] at hQ
    have hi : i.natAbs < 10 ^ 4300 := by simpa [tame] using ht
    refine PySem.Calls.call_function_entry PySem.F.kind_repr PySem.F.plain_repr PySem.F.entry_repr (PySem.F.args_repr1 _) ?_
    unfold Builtin.«repr»; refine wpAny_bind (m := oneArg "repr" _) (wpAny_pure ?_)
    simp only [cRoomFor, List.any_cons, List.any_nil, Value.onHeap, Bool.or_false, Bool.false_eq_true, if_false, pure_bind]
    refine wpAny_bind (wpAny_specialOf (name := Str.ofString "__repr__") (typeIs_int s i t) PySem.F.slot_int_repr.lookup ?_)
    refine wpAny_bind (m := callSpecialIfBound? (.int i t) (Str.ofString "__repr__")) (wpAny_callSpecialIfBound?_slot (name := Str.ofString "__repr__") (typeIs_int s i t) PySem.F.slot_int_repr ?_)
    refine wpAny_call (codeAny_call_builtin PySem.F.slot_int_repr.plain PySem.F.entry_int_repr (PySem.F.slot_int_repr.check _ _ _ _ _ _ _ _ (typeIs_int s i t) (PySem.F.args_int_repr_1 _) ?_))
    unfold Builtin.«int.__repr__»; show wpAny _ _ (do let r ← Builtin.overDigitLimit? i; _) _ _ s
    refine wpAny_bind (over_small hn hi ?_)
    refine wpAny_bind (wpAny_mkStr (wpAny_pure ?_) (int_text_fits10 hi))
    refine wpAny_bind (wpAny_isInstance (T := "str") (b := true) rfl isSubtype_str_str ?_)
    exact wpAny_pure ⟨_, rfl, hQ s.heap _ _ fun _ _ e => e⟩
  | list g1 g2 g3 g4 => exact call_repr_ref hn (.list g1 g2 g3 g4) ht hz hg hu hQ
  | tuple g1 g2 g3 g4 => exact call_repr_ref hn (.tuple g1 g2 g3 g4) ht hz hg hu hQ
  | dict g1 g2 g3 g4 g5 => simp [tame] at ht
end
/-- repr, by values -/
def bRepr (xs : List D) (M : Mem) : Res D := match xs with
  | [x] => match pyD M x with
    | some p => if tame p = true ∧ p.depth ≤ 60 ∧ p.shown.length ≤ big then .ok (.str p.shown) M else .no
    | none => .no
  | _ => .no
theorem cg_repr {X : Cx} {ce : Nat → Addr × List Str} (hg : X.A.guards = some []) (hu : X.A.units + 64 < cLine) (hn : X.base.NoDigits) : CallR X (.builtin "repr") (rGs ⟨X.K, ce⟩ bRepr) := by
  intro pins s σ H xs us Q I r h
  obtain ⟨μ, M, ds, hm, rd, hp⟩ := h
  unfold bRepr at hp
  split at hp
  · rename_i x
    obtain ⟨v, rfl, rv⟩ := rd.one
    obtain ⟨u, rfl, ru⟩ := vals1 r
    cases q : pyD M x with
    | none => simp only [q] at hp; exact hp.elim
    | some p =>
      simp only [q] at hp
      by_cases z : tame p = true ∧ p.depth ≤ 60 ∧ p.shown.length ≤ big
      · simp only [z, and_self, if_true] at hp
        obtain ⟨as, rds⟩ := Dp.reads I p v u (pyD_dp hm rv q) ru
        refine call_repr_tame (hn.keeps I.bk) rds z.1 (big_le z.2.2) hg (by omega) fun h' t tk k => ?_
        exact ⟨.str p.shown, H, I.kept (t' := tk) k, ⟨t, rfl⟩, hp.here hm (rv_str _)⟩
      · simp only [z, if_false] at hp; exact hp.elim
  · exact hp.elim
end G

/-! S6: statements, loops, comprehensions. -/
namespace G
open PySem L2 PyProof.Rows

/-! ### combinators -/
/-- an expression's result as a statement's: an exception becomes a flow -/
def outE {α : Type} (L : Env) (r : Res α) (f : α → Mem → Res (Fl × Env)) : Res (Fl × Env) := match r with
  | .ok a M => f a M
  | .ex e M => .ok (.xc e, L) M
  | .no => .no
def sSeq (a b : LS) : LS := fun L M => (a L M).bind fun r M1 => match r.1 with
  | .nx => b r.2 M1
  | _ => .ok r M1
def sNil : LS := fun L M => .ok (.nx, L) M
def sBrk : LS := fun L M => .ok (.bk, L) M
def sCnt : LS := fun L M => .ok (.ct, L) M
def sEx (e : LE) : LS := fun L M => outE L (e L M) fun _ M1 => .ok (.nx, L) M1
def sSet (i : Nat) (e : LE) : LS := fun L M => outE L (e L M) fun d M1 => .ok (.nx, L.set i (some d)) M1
def sPar (is : List Nat) (a : LA) : LS := fun L M => outE L (a L M) fun ds M1 => if ds.length = is.length then .ok (.nx, (is.zip ds).foldl (fun L p => L.set p.1 (some p.2)) L) M1 else .no
def sRet (e : LE) : LS := fun L M => outE L (e L M) fun d M1 => .ok (.rt d, L) M1
def sRetN : LS := fun L M => .ok (.rt .non, L) M
def sIf (c : LT) (a b : LS) : LS := fun L M => outE L (c L M) fun k M1 => if k = true then a L M1 else b L M1
def sSub (o i v : LE) : LS := fun L M => outE L ((v L M).bind fun x M1 => (o L M1).bind fun y M2 => (i L M2).bind fun z M3 => dSet y z x M3) fun _ M1 => .ok (.nx, L) M1
def sNo : LS := fun _ _ => .no
/-- targets: a name; names of a tuple -/
inductive Pat where
  | nm (i : Nat) | tp (is : List Nat)
def Pat.put (p : Pat) (d : D) (L : Env) : Option Env := match p with
  | .nm i => some (L.set i (some d))
  | .tp is => match d with
    | .tup ds => if ds.length = is.length then some ((is.zip ds).foldl (fun L p => L.set p.1 (some p.2)) L) else none
    | _ => none
def sAsg (p : Pat) (e : LE) : LS := fun L M => outE L (e L M) fun d M1 => match p.put d L with
  | some L' => .ok (.nx, L') M1
  | none => .no
/-! what a for walks -/
inductive IV where
  | tup (ds : List D) | loc (n : Nat) | rng (lo : Int) (n : Nat)
def IV.at : IV → Nat → Mem → Option D
  | .tup ds, i, _ => ds[i]?
  | .loc n, i, M => match M[n]? with
    | some o => o.items[i]?
    | none => none
  | .rng lo n, i, _ => if i < n then some (.int (lo + i)) else none
def IV.size : IV → Mem → Nat
  | .tup ds, _ => ds.length
  | .loc n, M => match M[n]? with
    | some o => o.items.length
    | none => 0
  | .rng _ n, _ => n
abbrev LI := Env → Mem → Res IV
def iE (e : LE) : LI := fun L M => (e L M).bind fun d M1 => match d with
  | .tup ds => .ok (.tup ds) M1
  | .loc n => match M1[n]? with
    | some _ => .ok (.loc n) M1
    | none => .no
  | _ => .no
def iR1 (e : LE) : LI := fun L M => (e L M).bind fun d M1 => match d with
  | .int j => if -1000000000 ≤ j ∧ j ≤ 1000000000 then .ok (.rng 0 j.toNat) M1 else .no
  | _ => .no
def iR2 (a b : LE) : LI := fun L M => (a L M).bind fun d M1 => (b L M1).bind fun e M2 => match d, e with
  | .int i, .int j => if -1000000000 ≤ i ∧ i ≤ 1000000000 ∧ -1000000000 ≤ j ∧ j ≤ 1000000000 then .ok (.rng i (j - i).toNat) M2 else .no
  | _, _ => .no
def forL (v : IV) (p : Pat) (b : LS) : Nat → Nat → Env → Mem → Res (Fl × Env)
  | 0, _, _, _ => .no
  | f + 1, i, L, M => match v.at i M with
    | none => .ok (.nx, L) M
    | some d => match p.put d L with
      | none => .no
      | some L1 => (b L1 M).bind fun r M1 => match r.1 with
        | .nx => forL v p b f (i + 1) r.2 M1
        | .ct => forL v p b f (i + 1) r.2 M1
        | .bk => .ok (.nx, r.2) M1
        | .rt d => .ok (.rt d, r.2) M1
        | .xc e => .ok (.xc e, r.2) M1
def sFor (it : LI) (p : Pat) (b : LS) : LS := fun L M => outE L (it L M) fun v M1 => forL v p b (v.size M1 + 1) 0 L M1
def whL (c : LT) (b : LS) : Nat → Env → Mem → Res (Fl × Env)
  | 0, _, _ => .no
  | f + 1, L, M => outE L (c L M) fun k M1 => if k = true then (b L M1).bind fun r M2 => match r.1 with
      | .nx => whL c b f r.2 M2
      | .ct => whL c b f r.2 M2
      | .bk => .ok (.nx, r.2) M2
      | .rt d => .ok (.rt d, r.2) M2
      | .xc e => .ok (.xc e, r.2) M2
    else .ok (.nx, L) M1
/-- the fuel stands open: any number -/
def sWh (fuel : Nat) (c : LT) (b : LS) : LS := fun L M => whL c b fuel L M
def noX {α : Type} (r : Res α) : Res α := match r with
  | .ex _ _ => .no
  | r => r
def wipeL (L : Env) : List Nat → Env
  | [] => L
  | i :: r => (wipeL L r).set i none
/-- [te for p in v if tt]: the new list stands at n -/
def lcL (v : IV) (p : Pat) (tt : LT) (te : LE) (n : Nat) : Nat → Nat → Env → Mem → Res D
  | 0, _, _, _ => .no
  | f + 1, i, L, M => match v.at i M with
    | none => .ok (.loc n) M
    | some d => match p.put d L with
      | none => .no
      | some L1 => (noX (tt L1 M)).bind fun k M1 => if k = true then (noX (te L1 M1)).bind fun y M2 => match M2[n]? with
          | some (.lst acc) => if acc.length < big then lcL v p tt te n f (i + 1) L (M2.set n (.lst (acc ++ [y]))) else .no
          | _ => .no
        else lcL v p tt te n f (i + 1) L M1
def tY : LT := fun _ M => .ok true M
def eLc (it : LI) (p : Pat) (tt : LT) (te : LE) (vs : List Nat) : LE := fun L M => (it L M).bind fun v M1 => lcL v p tt te M1.length (v.size M1 + 1) 0 (wipeL L vs) (M1 ++ [.lst []])

/-! ### they simulate -/
section
variable {Γ : Gx} {W : WS} {μ : List Addr} {H : Hp}
theorem PstS.shift {μ1 : List Addr} {H1 : Hp} {r : Res (Fl × Env)} {D : Ends} (e : Ext μ μ1) (t : Tk Γ.K H H1) (h : PstS Γ W μ H r D) : PstS Γ W μ1 H1 r D := by
  cases r with
  | ok a M => obtain ⟨fl, L⟩ := a; exact fun μ' σ' H' e' t' m q => h μ' σ' H' (e.trans e') (t.trans t') m q
  | ex x M => exact fun μ' σ' H' c d e' t' m q => h μ' σ' H' c d (e.trans e') (t.trans t') m q
  | no => exact h
/-- an expression ahead of a statement's end -/
theorem PstS.outE {α β : Type} {R : List Addr → Hp → α → β → Prop} {L : Env} {σ : L2.St} {r : Res α} {f : α → Mem → Res (Fl × Env)} {D : Ends} {Q : β → Hp → Prop} (h : PstS Γ W μ H (G.outE L r f) D) (hs : Rs Γ.K μ H L σ)
    (k : ∀ a M1 μ1 b H1, r = .ok a M1 → Ext μ μ1 → Tk Γ.K H H1 → RM Γ.K μ1 H1 M1 → R μ1 H1 a b → PstS Γ W μ1 H1 (f a M1) D → Q b H1) : Pst Γ (W σ) R μ H r Q := by
  cases r with
  | ok a M => exact fun μ' b H' e t m q => k a M μ' b H' rfl e t m q (PstS.shift e t h)
  | ex x M => exact fun μ' H' c d e t m q => h μ' σ H' e t m (hs.mono e t) c d q
  | no => exact h
theorem PstS.next {L : Env} {M : Mem} {σ : L2.St} {D : Ends} (h : PstS Γ W μ H (.ok (.nx, L) M) D) (m : RM Γ.K μ H M) (hs : Rs Γ.K μ H L σ) : D.nx σ H := h μ σ H (Ext.refl _) (Tk.refl _ _) m hs
end

section
variable {X : Cx} {Γ : Gx} {ce : Nat → Addr × List Str} {W : WS} {e o i : Expr} {es : List Expr} {me mo mi : LE} {ml : LA} {pos : Pos} {st : Stmt} {rest a b : List Stmt} {ma mb : LS}
theorem psm_nil : PSs X [] (tGS Γ W sNil) := pss_imp pss_nil fun _ _ _ ⟨_, _, _, hs, hm, hp⟩ => hp.next hm hs
theorem step_seq {D : Ends} {σ : L2.St} {H : Hp} (h : tGS Γ W (sSeq ma mb) D σ H) : tSeq (tGS Γ W ma) (tGS Γ W mb) D σ H := by
  obtain ⟨μ, L, M, hs, hm, hp⟩ := h
  refine ⟨μ, L, M, hs, hm, ?_⟩
  unfold sSeq at hp
  cases q : ma L M with
  | no => rw [q] at hp; exact hp
  | ex x M1 => rw [q] at hp; exact hp
  | ok r M1 =>
    rw [q] at hp
    obtain ⟨fl, L1⟩ := r
    cases fl with
    | nx => exact fun μ' σ' H' e t m s => ⟨μ', L1, M1, s, m, PstS.shift e t hp⟩
    | _ => exact hp
theorem psm_cons (h1 : PS X st (tGS Γ W ma)) (h2 : PSs X rest (tGS Γ W mb)) : PSs X (st :: rest) (tGS Γ W (sSeq ma mb)) := pss_imp (pss_cons h1 h2) fun _ _ _ h => step_seq h
theorem psm_one (h1 : PS X st (tGS Γ W ma)) : PSs X [st] (tGS Γ W ma) := pss_one h1
theorem psm_pass : PS X (.Pass pos) (tGS Γ W sNil) := ps_imp ps_pass fun _ _ _ ⟨_, _, _, hs, hm, hp⟩ => hp.next hm hs
theorem psm_brk : PS X (.Break pos) (tGS Γ W sBrk) := ps_imp ps_break fun _ σ H ⟨μ, _, _, hs, hm, hp⟩ => hp μ σ H (Ext.refl _) (Tk.refl _ _) hm hs
theorem psm_cnt : PS X (.Continue pos) (tGS Γ W sCnt) := ps_imp ps_continue fun _ σ H ⟨μ, _, _, hs, hm, hp⟩ => hp μ σ H (Ext.refl _) (Tk.refl _ _) hm hs
theorem psm_doc {x j pos'} : PS X (.Expr (.Constant (.str x) j pos) pos') (tGS Γ W sNil) := ps_imp ps_doc fun _ _ _ ⟨_, _, _, hs, hm, hp⟩ => hp.next hm hs
theorem psm_never : PS X st (tGS Γ W sNo) := ps_imp ps_never fun _ _ _ ⟨_, _, _, _, _, hp⟩ => hp
theorem psm_nevers : PSs X a (tGS Γ W sNo) := pss_imp pss_never fun _ _ _ ⟨_, _, _, _, _, hp⟩ => hp
theorem psm_expr (he : PE X e (tG Γ W me)) (hs : swapsWith e none pos.line X.env = pure false := by rfl) : PS X (.Expr e pos) (tGS Γ W (sEx me)) :=
  ps_imp (ps_expr he hs) fun _ σ H h => by
    obtain ⟨μ, L, M, hs, hm, hp⟩ := h
    exact ⟨μ, L, M, hs, hm, hp.outE hs fun d M1 μ1 v H1 _ e1 t1 m1 r1 hp1 => hp1.next m1 (hs.mono e1 t1)⟩
theorem psm_ret (he : PE X e (tG Γ W me)) : PS X (.Return (some e) pos) (tGS Γ W (sRet me)) :=
  ps_imp (ps_ret he) fun _ σ H h => by
    obtain ⟨μ, L, M, hs, hm, hp⟩ := h
    exact ⟨μ, L, M, hs, hm, hp.outE hs fun d M1 μ1 v H1 _ e1 t1 m1 r1 hp1 => hp1 μ1 σ H1 (Ext.refl _) (Tk.refl _ _) m1 (hs.mono e1 t1) v r1⟩
theorem psm_retN : PS X (.Return none pos) (tGS Γ W sRetN) :=
  ps_imp ps_retN fun _ σ H h => by
    obtain ⟨μ, L, M, hs, hm, hp⟩ := h
    exact hp μ σ H (Ext.refl _) (Tk.refl _ _) hm hs _ rv_non
theorem psm_if {c : Expr} {t : LT} (hc : PT X c (tGT Γ W t)) (ha : PSs X a (tGS Γ W ma)) (hb : PSs X b (tGS Γ W mb)) : PS X (.If c a b pos) (tGS Γ W (sIf t ma mb)) :=
  ps_imp (ps_if hc ha hb) fun _ σ H h => by
    obtain ⟨μ, L, M, hs, hm, hp⟩ := h
    refine ⟨μ, L, M, hs, hm, hp.outE hs fun k M1 μ1 v H1 _ e1 t1 m1 r1 hp1 => ?_⟩
    obtain rfl : k = v := r1
    cases k with
    | true => exact iteT ⟨μ1, L, M1, hs.mono e1 t1, m1, hp1⟩
    | false => exact iteF ⟨μ1, L, M1, hs.mono e1 t1, m1, hp1⟩
/-! targets -/
def gNames : List Nat → TGs
  | [] => gNil
  | i :: r => gCons (gName i) (gNames r)
def Pat.rd (K : PySem.W.Frag) : Pat → TG
  | .nm i => gName i
  | .tp is => gTup K is.length (gNames is)
theorem wipe_in {σ : L2.St} {j : Nat} : ∀ {us : List Nat}, j ∈ us → (L2.wipe σ us)[j]? = if j < σ.length then some none else none
  | [], h => by cases h
  | i :: r, h => by
    unfold L2.wipe
    by_cases e : i = j
    · subst e
      by_cases hi : i < σ.length
      · rw [List.getElem?_set_self (by rw [L2.wipe_length]; exact hi), if_pos hi]
      · rw [if_neg hi, List.getElem?_eq_none (by rw [List.length_set, L2.wipe_length]; omega)]
    · rw [List.getElem?_set_ne e]
      exact wipe_in ((List.mem_cons.mp h).resolve_left (Ne.symm e))
theorem wipe_ext {σ τ : L2.St} {us : List Nat} (hl : σ.length = τ.length) (h : ∀ j, j ∉ us → σ[j]? = τ[j]?) : L2.wipe σ us = L2.wipe τ us := by
  refine List.ext_getElem? fun j => ?_
  by_cases q : j ∈ us
  · rw [wipe_in q, wipe_in q, hl]
  · rw [L2.wipe_out q, L2.wipe_out q, h j q]
theorem wipe_set {σ : L2.St} {x : V} {i : Nat} {us : List Nat} (h : i ∈ us) : L2.wipe (σ.set i (some x)) us = L2.wipe σ us :=
  wipe_ext (List.length_set) fun j hj => List.getElem?_set_ne fun e => hj (by rw [← e]; exact h)
theorem Rs.wipe {K : PySem.W.Frag} {μ : List Addr} {H : Hp} {L : Env} {σ : L2.St} (r : Rs K μ H L σ) : ∀ vs : List Nat, Rs K μ H (wipeL L vs) (L2.wipe σ vs)
  | [] => r
  | i :: vs => by
    have ih := Rs.wipe r vs
    unfold wipeL L2.wipe
    refine ⟨by rw [List.length_set, List.length_set]; exact ih.1, fun j d h => ?_⟩
    by_cases e : i = j
    · subst e
      by_cases hi : i < (wipeL L vs).length
      · rw [List.getElem?_set_self hi] at h; cases h
      · rw [List.getElem?_eq_none (by rw [List.length_set]; omega)] at h; cases h
    · rw [List.getElem?_set_ne e] at h ⊢
      exact ih.2 j d h
theorem names_put {K : PySem.W.Frag} {μ : List Addr} {H : Hp} : ∀ {is : List Nat} {ds : List D} {vs : List V} {L : Env} {σ : L2.St} {Q : L2.St → Hp → Prop}, Rvs K μ H ds vs → ds.length = is.length → Rs K μ H L σ →
    (∀ σ', Rs K μ H ((is.zip ds).foldl (fun L p => L.set p.1 (some p.2)) L) σ' → (∀ us : List Nat, (∀ i ∈ is, i ∈ us) → L2.wipe σ' us = L2.wipe σ us) → Q σ' H) → gNames is vs σ H Q
  | [], ds, vs, L, σ, Q, r, e, hs, k => by
    have e0 : ds = [] := List.eq_nil_of_length_eq_zero e
    subst e0
    exact ⟨r.nil, k σ hs fun _ _ => rfl⟩
  | i :: is, ds, vs, L, σ, Q, r, e, hs, k => by
    cases ds with
    | nil => cases e
    | cons d ds =>
      obtain ⟨v, t, rfl, h1, h2⟩ := r.uncons
      refine ⟨v, t, rfl, names_put (is := is) h2 (by simpa using e) (hs.set h1 i) fun σ' hs' hw => ?_⟩
      refine k σ' hs' fun us hu => ?_
      rw [hw us fun j hj => hu j (List.mem_cons_of_mem _ hj)]
      exact wipe_set (hu i (List.mem_cons_self ..))
theorem pat_put {K : PySem.W.Frag} {μ : List Addr} {H : Hp} {p : Pat} {d : D} {v : V} {L L' : Env} {σ : L2.St} {Q : L2.St → Hp → Prop} (hp : p.put d L = some L') (r : Rv K μ H d v) (hs : Rs K μ H L σ)
    (k : ∀ σ', Rs K μ H L' σ' → (∀ us : List Nat, (∀ i ∈ (match p with | .nm i => [i] | .tp is => is), i ∈ us) → L2.wipe σ' us = L2.wipe σ us) → Q σ' H) : p.rd K v σ H Q := by
  cases p with
  | nm i =>
    cases hp
    exact k _ (hs.set r i) fun us hu => wipe_set (hu i (by simp))
  | tp is =>
    cases d with
    | tup ds =>
      unfold Pat.put at hp
      by_cases q : ds.length = is.length
      · simp only [q, if_true] at hp
        cases hp
        obtain ⟨a, vs, rfl, h1, h2⟩ := r.tup
        exact ⟨a, vs, rfl, h1, by rw [h2.length]; exact q, names_put h2 q hs k⟩
      · simp only [q, if_false] at hp; cases hp
    | _ => cases hp
theorem psm_asg {tg : Expr} {p : Pat} (he : PE X e (tG ⟨X.K, ce⟩ W me)) (hg : PG X tg (p.rd X.K)) (hs : swapsWithSole [tg] e pos.line X.env = pure false := by rfl) (hw : swappedStores [tg] e X.env = pure none := by rfl)
    (h1 : (assignEach [tg] X.env).map (·.2) = [assign tg X.env] := by rfl) :
    PS X (.Assign [tg] e pos) (tGS ⟨X.K, ce⟩ W (sAsg p me)) :=
  ps_imp (ps_asg he hg hs hw h1) fun D σ H h => by
    obtain ⟨μ, L, M, hs, hm, hp⟩ := h
    refine ⟨μ, L, M, hs, hm, hp.outE hs fun d M1 μ1 v H1 _ e1 t1 m1 r1 hp1 => ?_⟩
    cases q : p.put d L with
    | none => simp only [q] at hp1; exact hp1.elim
    | some L' =>
      simp only [q] at hp1
      exact pat_put q r1 (hs.mono e1 t1) fun σ' hs' _ => hp1.next m1 hs'
/-- name = e -/
theorem psm_set {j : Nat} {x : Str} {p : Pos} (hN : X.N.Nodup) (hi : X.N[j]? = some x) (hx : Loc X.env.scope x) (he : PE X e (tG Γ W me)) (hs : swapsWith e (some (.Name x p)) pos.line X.env = pure false := by rfl) (hf : X.fn x = true ∨ X.env.scope.names.lookup x = some .local := by first | exact .inl rfl | exact .inr rfl) :
    PS X (.Assign [.Name x p] e pos) (tGS Γ W (sSet j me)) :=
  ps_imp (ps_set hN hi hx he hs hf) fun D σ H h => by
    obtain ⟨μ, L, M, hs, hm, hp⟩ := h
    refine ⟨μ, L, M, hs, hm, hp.outE hs fun d M1 μ1 v H1 _ e1 t1 m1 r1 hp1 => ?_⟩
    exact hp1.next m1 ((hs.mono e1 t1).set r1 j)
/-- a, b = e1, e2 -/
theorem psm_par {j k : Nat} {x y : Str} {c d : Expr} {px py pt : Pos} {kt k2 pt2} (hc : X.calm = true) (hN : X.N.Nodup) (hi : X.N[j]? = some x) (hj : X.N[k]? = some y) (hij : j ≠ k)
    (hx : X.env.scope.names.lookup x = some .local) (hy : X.env.scope.names.lookup y = some .local) (ha : PA X [c, d] (tGA Γ W ml))
    (hw : swappedStores [.Tuple [.Name x px, .Name y py] kt pt] (.Tuple [c, d] k2 pt2) X.env = pure (some [x, y]))
    (hs : swapsWithSole [.Tuple [.Name x px, .Name y py] kt pt] (.Tuple [c, d] k2 pt2) pos.line X.env = pure false := by rfl) :
    PS X (.Assign [.Tuple [.Name x px, .Name y py] kt pt] (.Tuple [c, d] k2 pt2) pos) (tGS Γ W (sPar [j, k] ml)) :=
  ps_imp (ps_par hc hN hi hj hij hx hy ha hw hs) fun D σ H h => by
    obtain ⟨μ, L, M, hs, hm, hp⟩ := h
    refine ⟨μ, L, M, hs, hm, hp.outE hs fun ds M1 μ1 vs H1 _ e1 t1 m1 r1 hp1 => ?_⟩
    match ds, r1, hp1 with
    | [d1, d2], r1, hp1 =>
      obtain ⟨v1, t, rfl, h1, h2⟩ := r1.uncons
      obtain ⟨v2, rfl, h3⟩ := h2.one
      exact ⟨v1, v2, rfl, hp1.next m1 (((hs.mono e1 t1).set h1 j).set h3 k)⟩
    | [], _, hp1 => exact hp1.elim
    | [_], _, hp1 => exact hp1.elim
    | _ :: _ :: _ :: _, _, hp1 => exact (show False by simp at hp1; exact hp1).elim
theorem psm_par3 {j k l : Nat} {x y z : Str} {c d f : Expr} {px py pz pt : Pos} {kt k2 pt2} (hc : X.calm = true) (hN : X.N.Nodup) (hi : X.N[j]? = some x) (hj : X.N[k]? = some y) (hl : X.N[l]? = some z) (hij : j ≠ k) (hil : j ≠ l) (hjl : k ≠ l)
    (hx : X.env.scope.names.lookup x = some .local) (hy : X.env.scope.names.lookup y = some .local) (hz : X.env.scope.names.lookup z = some .local) (ha : PA X [c, d, f] (tGA Γ W ml))
    (hw : swappedStores [.Tuple [.Name x px, .Name y py, .Name z pz] kt pt] (.Tuple [c, d, f] k2 pt2) X.env = pure (some [x, y, z]))
    (hs : swapsWithSole [.Tuple [.Name x px, .Name y py, .Name z pz] kt pt] (.Tuple [c, d, f] k2 pt2) pos.line X.env = pure false := by rfl) :
    PS X (.Assign [.Tuple [.Name x px, .Name y py, .Name z pz] kt pt] (.Tuple [c, d, f] k2 pt2) pos) (tGS Γ W (sPar [j, k, l] ml)) :=
  ps_imp (ps_par3 hc hN hi hj hl hij hil hjl hx hy hz ha hw hs) fun D σ H h => by
    obtain ⟨μ, L, M, hs, hm, hp⟩ := h
    refine ⟨μ, L, M, hs, hm, hp.outE hs fun ds M1 μ1 vs H1 _ e1 t1 m1 r1 hp1 => ?_⟩
    match ds, r1, hp1 with
    | [d1, d2, d3], r1, hp1 =>
      obtain ⟨v1, t, rfl, h1, h2⟩ := r1.uncons
      obtain ⟨v2, t, rfl, h3, h4⟩ := h2.uncons
      obtain ⟨v3, rfl, h5⟩ := h4.one
      exact ⟨v1, v2, v3, rfl, hp1.next m1 ((((hs.mono e1 t1).set h1 j).set h3 k).set h5 l)⟩
    | [], _, hp1 => exact hp1.elim
    | [_], _, hp1 => exact hp1.elim
    | [_, _], _, hp1 => exact hp1.elim
    | _ :: _ :: _ :: _ :: _, _, hp1 => exact (show False by simp at hp1; exact hp1).elim
/-- o[i] = e -/
theorem psm_sub {tp : Pos} (he : PE X e (tG ⟨X.K, ce⟩ W me)) (ho : PE X o (tG ⟨X.K, ce⟩ W mo)) (hi : PE X i (tG ⟨X.K, ce⟩ W mi))
    (hq : ∀ v, assign (.Subscript o i tp) X.env v = (do
      let ov ← holding [v] (eval o X.env)
      let iv ← holding [v, ov] (eval i X.env)
      standAt tp
      holding [v, ov, iv] (setItem ov iv v)
      release [v, ov, iv] []) := by intro _; rfl)
    (hs : swapsWithSole [.Subscript o i tp] e pos.line X.env = pure false := by rfl) (hw : swappedStores [.Subscript o i tp] e X.env = pure none := by rfl) :
    PS X (.Assign [.Subscript o i tp] e pos) (tGS ⟨X.K, ce⟩ W (sSub mo mi me)) :=
  ps_imp (ps_asg he (pg_sub ho hi set_list hq) hs hw) fun D σ H h => by
    obtain ⟨μ, L, M, hs, hm, hp⟩ := h
    have hp1 : Pst ⟨X.K, ce⟩ (W σ) (fun _ _ (_ : Unit) (_ : Unit) => True) μ H ((me L M).bind fun x M1 => (mo L M1).bind fun y M2 => (mi L M2).bind fun z M3 => dSet y z x M3) (fun _ H' => D.nx σ H') :=
      hp.outE hs fun d M1 μ1 v H1 _ e1 t1 m1 r1 hp1 => hp1.next m1 (hs.mono e1 t1)
    refine ⟨μ, L, M, hs, hm, hp1.bind fun x M1 μ1 v H1 _ e1 t1 m1 r1 hp2 => ?_⟩
    refine ⟨μ1, L, M1, hs.mono e1 t1, m1, hp2.bind fun y M2 μ2 u H2 _ e2 t2 m2 r2 hp3 => ?_⟩
    refine ⟨μ2, L, M2, hs.mono (e1.trans e2) (t1.trans t2), m2, hp3.bind fun z M3 μ3 t H3 _ e3 t3 m3 r3 hp4 => ?_⟩
    have r2' := r2.mono e3 t3
    have r1' := r1.mono (e2.trans e3) (t2.trans t3)
    cases y with
    | loc n =>
      cases z with
      | int k =>
        obtain ⟨p, rfl, h1⟩ := r2'.loc
        obtain rfl := r3.int
        unfold dSet at hp4
        cases q : M3[n]? with
        | none => simp only [q] at hp4; exact hp4.elim
        | some oo =>
          cases oo with
          | rol ds => simp only [q] at hp4; exact hp4.elim
          | lst ds =>
            simp only [q] at hp4
            obtain ⟨vs, h2, h3⟩ := m3.lst h1 q
            cases q2 : ixN ds.length k with
            | none => simp only [q2] at hp4; exact hp4.elim
            | some j =>
              simp only [q2] at hp4
              exact ⟨p, vs, k, j, rfl, rfl, h2, by rw [h3.length]; exact q2, Pst.set (y := ()) hp4 m3 h1 q (h3.set r1' j) trivial⟩
      | _ => exact hp4.elim
    | _ => exact hp4.elim

/-! ### loops -/
def RI (K : PySem.W.Frag) (μ : List Addr) (H : Hp) (v : IV) (J : It) : Prop := match v with
  | .tup ds => ∃ a vs, J = Itt K a ∧ SqT K H a vs ∧ Rvs K μ H ds vs
  | .loc n => ∃ a, J = Itl K a ∧ μ[n]? = some a
  | .rng lo n => J = Itr lo n
theorem RI.mono {K : PySem.W.Frag} {μ μ' : List Addr} {H H' : Hp} {v : IV} {J : It} (e : Ext μ μ') (t : Tk K H H') (r : RI K μ H v J) : RI K μ' H' v J := by
  cases v with
  | tup ds => obtain ⟨a, vs, h1, h2, h3⟩ := r; exact ⟨a, vs, h1, t _ _ h2, h3.mono e t⟩
  | loc n => obtain ⟨a, h1, h2⟩ := r; exact ⟨a, h1, e n a h2⟩
  | rng lo n => exact r
/-- an item is there -/
theorem ri_some {K : PySem.W.Frag} {μ : List Addr} {H : Hp} {M : Mem} {v : IV} {J : It} {i : Nat} {d : D} (m : RM K μ H M) (r : RI K μ H v J) (h : v.at i M = some d) : J.go i H ∧ ∀ x H', J.yld i H x H' → H' = H ∧ Rv K μ H d x := by
  cases v with
  | tup ds =>
    obtain ⟨a, vs, rfl, h2, h3⟩ := r
    obtain ⟨w, q1, q2⟩ := h3.get (i := i) h
    refine ⟨⟨vs, w, h2, q1⟩, fun x H' y => ⟨y.1, ?_⟩⟩
    have := y.2 vs h2
    rw [q1] at this; cases this
    exact q2
  | loc n =>
    obtain ⟨a, rfl, h2⟩ := r
    unfold IV.at at h
    cases q : M[n]? with
    | none => simp only [q] at h; cases h
    | some o =>
      simp only [q] at h
      obtain ⟨vs, g1, g2⟩ := m.sql h2 q
      obtain ⟨w, q1, q2⟩ := g2.get h
      refine ⟨⟨vs, w, g1, q1⟩, fun x H' y => ⟨y.1, ?_⟩⟩
      have := y.2 vs g1
      rw [q1] at this; cases this
      exact q2
  | rng lo n =>
    cases r
    unfold IV.at at h
    by_cases q : i < n
    · simp only [q, if_true] at h
      cases h
      refine ⟨q, fun x H' y => ⟨y.1, ?_⟩⟩
      rw [y.2]; exact rv_int _
    · simp only [q, if_false] at h; cases h
/-- none is left -/
theorem ri_none {K : PySem.W.Frag} {μ : List Addr} {H : Hp} {M : Mem} {v : IV} {J : It} {i : Nat} (m : RM K μ H M) (r : RI K μ H v J) (h : v.at i M = none) : J.stop i H := by
  cases v with
  | tup ds =>
    obtain ⟨a, vs, rfl, h2, h3⟩ := r
    refine ⟨vs, h2, ?_⟩
    rw [h3.length]
    exact List.getElem?_eq_none_iff.mp h
  | loc n =>
    obtain ⟨a, rfl, h2⟩ := r
    have hn : n < M.length := by rw [← m.len]; exact (List.getElem?_eq_some_iff.mp h2).1
    unfold IV.at at h
    simp only [List.getElem?_eq_getElem hn] at h
    obtain ⟨vs, g1, g2⟩ := m.sql h2 (List.getElem?_eq_getElem hn)
    refine ⟨vs, g1, ?_⟩
    rw [g2.length]
    exact List.getElem?_eq_none_iff.mp h
  | rng lo n =>
    cases r
    unfold IV.at at h
    by_cases q : i < n
    · simp only [q, if_true] at h; cases h
    · show n ≤ i; omega
def tGI (Γ : Gx) (W : WS) (m : LI) : TI := fun σ H R => ∃ μ L M, Rs Γ.K μ H L σ ∧ RM Γ.K μ H M ∧ Pst Γ (W σ) (fun μ H v J => RI Γ.K μ H v J) μ H (m L M) R
theorem pi_imp {tg it : Expr} {t t' : TI} (h : PI X tg it t) (k : ∀ σ H Q, t' σ H Q → t σ H Q) : PI X tg it t' := ⟨fun pins s σ H Q I q => h.run pins s σ H Q I (k σ H Q q)⟩
/-- a list or a tuple is walked -/
theorem pim_e {tg : Expr} (he : PE X e (tG ⟨X.K, ce⟩ W me)) : PI X tg e (tGI ⟨X.K, ce⟩ W (iE me)) := by
  refine ⟨fun pins s σ H R I h => ?_⟩
  obtain ⟨μ, L, M, hs, hm, hp⟩ := h
  unfold iE at hp
  cases q : me L M with
  | no => rw [q] at hp; exact hp.elim
  | ex x M1 =>
    rw [q] at hp
    refine (pi_list (tg := tg) he).run pins s σ H R I ⟨μ, L, M, hs, hm, ?_⟩
    rw [q]; exact hp
  | ok d M1 =>
    rw [q] at hp
    cases d with
    | tup ds =>
      refine (pi_tup (tg := tg) he).run pins s σ H R I ⟨μ, L, M, hs, hm, ?_⟩
      rw [q]
      intro μ1 v H1 e1 t1 m1 r1
      obtain ⟨a, vs, rfl, h1, h2⟩ := r1.tup
      exact ⟨a, rfl, ⟨vs, h1⟩, hp μ1 _ H1 e1 t1 m1 ⟨a, vs, rfl, h1, h2⟩⟩
    | loc n =>
      refine (pi_list (tg := tg) he).run pins s σ H R I ⟨μ, L, M, hs, hm, ?_⟩
      rw [q]
      intro μ1 v H1 e1 t1 m1 r1
      obtain ⟨a, rfl, h1⟩ := r1.loc
      simp only [Res.bind] at hp
      cases q2 : M1[n]? with
      | none => simp only [q2] at hp; exact hp.elim
      | some o =>
        simp only [q2] at hp
        obtain ⟨vs, g1, g2⟩ := m1.sql h1 q2
        exact ⟨a, rfl, ⟨vs, g1⟩, hp μ1 _ H1 e1 t1 m1 ⟨a, rfl, h1⟩⟩
    | _ => exact hp.elim
theorem pim_r1 {tg : Expr} {p : Pos} (hg : Gl X "range") (hm : X.mg "range" = none) (he : PE X e (tG Γ W me)) (hs : starEach [e] X.env = [(false, eval e X.env)] := by rfl) (hs1 : starEach [e] X.env = (false, eval e X.env) :: starEach [] X.env := by rfl) :
    PI X tg (.Call (.Name "range" p) [e] [] pos) (tGI Γ W (iR1 me)) :=
  pi_imp (pi_range1 hg hm (pa_cons he pa_nil hs1) hs) fun σ H R h => by
    obtain ⟨μ, L, M, hs, hm, hp⟩ := h
    refine ⟨μ, L, M, hs, hm, hp.bind fun d M1 μ1 v H1 _ e1 t1 m1 r1 hp1 => ?_⟩
    cases d with
    | int j =>
      simp only at hp1
      by_cases q : -1000000000 ≤ j ∧ j ≤ 1000000000
      · simp only [q, and_self, if_true] at hp1
        obtain rfl := r1.int
        exact ⟨j, rfl, by omega, by omega, hp1.here m1 rfl⟩
      · simp only [q, if_false] at hp1; exact hp1.elim
    | _ => exact hp1.elim
theorem pim_r2 {tg f : Expr} {mf : LE} {p : Pos} (hg : Gl X "range") (hm : X.mg "range" = none) (he : PE X e (tG Γ W me)) (hf : PE X f (tG Γ W mf)) (hs : starEach [e, f] X.env = [(false, eval e X.env), (false, eval f X.env)] := by rfl) (hs2 : starEach [f] X.env = [(false, eval f X.env)] := by rfl)
    (hs1 : starEach [e, f] X.env = (false, eval e X.env) :: starEach [f] X.env := by rfl) (hs3 : starEach [f] X.env = (false, eval f X.env) :: starEach [] X.env := by rfl) :
    PI X tg (.Call (.Name "range" p) [e, f] [] pos) (tGI Γ W (iR2 me mf)) :=
  pi_imp (pi_range2 hg hm (pa_cons he (pa_cons hf pa_nil hs3) hs1) hs hs2) fun σ H R h => by
    obtain ⟨μ, L, M, hs, hm, hp⟩ := h
    refine ⟨μ, L, M, hs, hm, hp.bind fun d M1 μ1 v H1 _ e1 t1 m1 r1 hp1 => ?_⟩
    refine ⟨μ1, L, M1, hs.mono e1 t1, m1, hp1.bind fun d2 M2 μ2 u H2 _ e2 t2 m2 r2 hp2 => ?_⟩
    cases d with
    | int i =>
      cases d2 with
      | int j =>
        simp only at hp2
        by_cases q : -1000000000 ≤ i ∧ i ≤ 1000000000 ∧ -1000000000 ≤ j ∧ j ≤ 1000000000
        · simp only [q, and_self, if_true] at hp2
          obtain rfl := r1.int
          obtain rfl := r2.int
          exact ⟨i, j, rfl, by omega, hp2.here m2 rfl⟩
        · simp only [q, if_false] at hp2; exact hp2.elim
      | _ => exact hp2.elim
    | _ => exact hp2.elim
/-- for p in it: b -/
theorem psm_for {tg it : Expr} {p : Pat} {mit : LI} (hpo : PassesOwn (model X.prog X.w) X.A X.env X.xe) (hc : X.calm = true) (hi : PI X tg it (tGI ⟨X.K, ce⟩ W mit)) (hg : PG X tg (p.rd X.K)) (hb : PSs X b (tGS ⟨X.K, ce⟩ W mb))
    (hs : ∀ x, foldedSetIterable it X.env x = pure x := by intro _; rfl) : PS X (.For tg it b [] pos) (tGS ⟨X.K, ce⟩ W (sFor mit p mb)) :=
  ps_imp (ps_for hpo hc hi hg hb hs) fun D σ H h => by
    obtain ⟨μ, L, M, hs, hm, hp⟩ := h
    refine ⟨μ, L, M, hs, hm, hp.outE hs fun v M1 μ1 J H1 _ e1 t1 m1 r1 hp1 => ?_⟩
    refine ⟨fun i f σ H => ∃ μ L M, Rs X.K μ H L σ ∧ RM X.K μ H M ∧ RI X.K μ H v J ∧ PstS ⟨X.K, ce⟩ W μ H (forL v p mb f i L M) D, ⟨_, μ1, L, M1, hs.mono e1 t1, m1, r1, hp1⟩, ?_⟩
    rintro i f σ2 H2 ⟨μ2, L2, M2, s2, m2, r2, p2⟩
    cases f with
    | zero => exact p2.elim
    | succ f =>
      unfold forL at p2
      cases q : v.at i M2 with
      | none =>
        simp only [q] at p2
        exact .inl ⟨ri_none m2 r2 q, p2.next m2 s2⟩
      | some d =>
        simp only [q] at p2
        obtain ⟨g1, g2⟩ := ri_some m2 r2 q
        refine .inr ⟨g1, fun σ H => ∃ μ L M, Rs X.K μ H L σ ∧ RM X.K μ H M ∧ RI X.K μ H v J ∧ PstS ⟨X.K, ce⟩ W μ H (forL v p mb f (i + 1) L M) D, fun σ' H' z => ⟨f, Nat.lt_succ_self _, z⟩, fun x H' y => ?_⟩
        obtain ⟨rfl, rx⟩ := g2 x H' y
        cases q3 : p.put d L2 with
        | none => simp only [q3] at p2; exact p2.elim
        | some L3 =>
          simp only [q3] at p2
          refine pat_put q3 rx s2 fun σ' hs' _ => ⟨μ2, L3, M2, hs', m2, ?_⟩
          cases q4 : mb L3 M2 with
          | no => rw [q4] at p2; exact p2.elim
          | ex e M => rw [q4] at p2; exact p2
          | ok r M =>
            rw [q4] at p2
            obtain ⟨fl, L5⟩ := r
            cases fl with
            | nx => exact fun μ' σ' H' e t m s => ⟨μ', L5, M, s, m, r2.mono e t, PstS.shift e t p2⟩
            | ct => exact fun μ' σ' H' e t m s => ⟨μ', L5, M, s, m, r2.mono e t, PstS.shift e t p2⟩
            | bk => exact p2
            | rt d => exact p2
            | xc e => exact p2
/-- while c: b -/
theorem psm_wh {c : Expr} {t : LT} (fuel : Nat) (hpo : PassesOwn (model X.prog X.w) X.A X.env X.xe) (hc : PT X c (tGT Γ W t)) (hb : PSs X b (tGS Γ W mb)) : PS X (.While c b [] pos) (tGS Γ W (sWh fuel t mb)) :=
  ps_imp (ps_while hpo hc hb) fun D σ H h => by
    obtain ⟨μ, L, M, hs, hm, hp⟩ := h
    refine ⟨fun f σ H => ∃ μ L M, Rs Γ.K μ H L σ ∧ RM Γ.K μ H M ∧ PstS Γ W μ H (whL t mb f L M) D, ⟨_, μ, L, M, hs, hm, hp⟩, ?_⟩
    rintro f σ2 H2 ⟨μ2, L2, M2, s2, m2, p2⟩
    cases f with
    | zero => exact p2.elim
    | succ f =>
      unfold whL at p2
      refine ⟨μ2, L2, M2, s2, m2, p2.outE s2 fun k M3 μ3 k' H3 _ e3 t3 m3 r3 p3 => ?_⟩
      obtain rfl : k = k' := r3
      cases k with
      | false => exact iteF (PstS.next p3 m3 (s2.mono e3 t3))
      | true =>
        refine iteT ⟨fun σ H => ∃ μ L M, Rs Γ.K μ H L σ ∧ RM Γ.K μ H M ∧ PstS Γ W μ H (whL t mb f L M) D, fun σ' H' z => ⟨f, Nat.lt_succ_self _, z⟩, μ3, L2, M3, s2.mono e3 t3, m3, ?_⟩
        simp only [if_true] at p3
        cases q4 : mb L2 M3 with
        | no => rw [q4] at p3; exact p3.elim
        | ex e M => rw [q4] at p3; exact p3
        | ok r M =>
          rw [q4] at p3
          obtain ⟨fl, L5⟩ := r
          cases fl with
          | nx => exact fun μ' σ' H' e t m s => ⟨μ', L5, M, s, m, PstS.shift e t p3⟩
          | ct => exact fun μ' σ' H' e t m s => ⟨μ', L5, M, s, m, PstS.shift e t p3⟩
          | bk => exact p3
          | rt d => exact p3
          | xc e => exact p3

/-! ### comprehensions -/
abbrev W0 : WS := fun _ _ _ _ => False
theorem Pst.bindX {α β γ δ : Type} {E : XK} {R : List Addr → Hp → α → β → Prop} {R' : List Addr → Hp → γ → δ → Prop} {μ : List Addr} {H : Hp} {r : Res α} {f : α → Mem → Res γ} {Q : δ → Hp → Prop} {Q' : β → Hp → Prop} {σ : L2.St} (h : Pst Γ E R' μ H ((noX r).bind f) Q)
    (k : ∀ a M1 μ1 b H1, r = .ok a M1 → Ext μ μ1 → Tk Γ.K H H1 → RM Γ.K μ1 H1 M1 → R μ1 H1 a b → Pst Γ E R' μ1 H1 (f a M1) Q → Q' b H1) : Pst Γ (W0 σ) R μ H r Q' := by
  cases r with
  | ok a M => exact fun μ' b H' e t m q => k a M μ' b H' rfl e t m q (h.shift e t)
  | ex x M => exact h.elim
  | no => exact h.elim
def tGTs (Γ : Gx) (W : WS) (m : LT) : TT := tGT Γ W m
theorem ptsm_nil : PTs X [] (tGT Γ W tY) := ⟨fun pins s σ H Q I h => pts_nil.run pins s σ H Q I (by
  obtain ⟨μ, L, M, hs, hm, hp⟩ := h
  exact hp.here hm rfl)⟩
theorem ptsm_one {c : Expr} {t : LT} (h : PT X c (tGT Γ W t)) : PTs X [c] (tGT Γ W t) := pts_one h
def Pat.slots : Pat → List Nat
  | .nm i => [i]
  | .tp is => is
theorem lc_step {p : Pat} {mit : LI} {tt : LT} {te : LE} {vs : List Nat} {σ : L2.St} {H : Hp} {Q : VK} (hv : ∀ i ∈ p.slots, i ∈ vs) (h : tG ⟨X.K, ce⟩ W (eLc mit p tt te vs) σ H Q) :
    tLc (tGI ⟨X.K, ce⟩ W mit) (p.rd X.K) (tGT ⟨X.K, ce⟩ W0 tt) (tG ⟨X.K, ce⟩ W0 te) vs σ H Q := by
  obtain ⟨μ, L, M, hs, hm, hp⟩ := h
  refine ⟨μ, L, M, hs, hm, hp.bind fun v M1 μ1 J H1 _ e1 t1 m1 r1 hp1 => ?_⟩
  intro D hD
  have tk : Tk X.K H1 (upd H1 D (.lst [])) := Tk.new hD
  refine ⟨fun i f H => ∃ μ M, μ[M1.length]? = some D ∧ Rs X.K μ H (wipeL L vs) (L2.wipe σ vs) ∧ RM X.K μ H M ∧ RI X.K μ H v J ∧ Pst ⟨X.K, ce⟩ (W σ) (RvR ⟨X.K, ce⟩) μ H (lcL v p tt te M1.length f i (wipeL L vs) M) Q,
    ⟨_, μ1 ++ [D], M1 ++ [.lst []], ?_, ((hs.mono e1 t1).mono (Ext.push _ _) tk).wipe vs, m1.push hD rvs_nil, r1.mono (Ext.push _ _) tk, hp1.shift (Ext.push _ _) tk⟩, ?_⟩
  · rw [← m1.len, List.getElem?_append_right (Nat.le_refl _), Nat.sub_self]; rfl
  rintro i f H2 ⟨μ2, M2, a2, s2, m2, r2, p2⟩
  cases f with
  | zero => exact p2.elim
  | succ f =>
    unfold lcL at p2
    cases q : v.at i M2 with
    | none =>
      simp only [q] at p2
      exact .inl ⟨ri_none m2 r2 q, p2.here m2 (rv_loc a2)⟩
    | some d =>
      simp only [q] at p2
      obtain ⟨g1, g2⟩ := ri_some m2 r2 q
      refine .inr ⟨g1, fun H => ∃ μ M, μ[M1.length]? = some D ∧ Rs X.K μ H (wipeL L vs) (L2.wipe σ vs) ∧ RM X.K μ H M ∧ RI X.K μ H v J ∧ Pst ⟨X.K, ce⟩ (W σ) (RvR ⟨X.K, ce⟩) μ H (lcL v p tt te M1.length f (i + 1) (wipeL L vs) M) Q,
        fun H' z => ⟨f, Nat.lt_succ_self _, z⟩, fun x H' y => ?_⟩
      obtain ⟨rfl, rx⟩ := g2 x H' y
      cases q3 : p.put d (wipeL L vs) with
      | none => simp only [q3] at p2; exact p2.elim
      | some L3 =>
        simp only [q3] at p2
        refine pat_put q3 rx s2 fun σ' hs' hw => ?_
        have hw2 : L2.wipe σ' vs = L2.wipe σ vs := by
          rw [hw vs (by cases p <;> exact hv)]
          exact wipe_ext (L2.wipe_length _ _) fun j hj => L2.wipe_out hj
        refine ⟨hw2, μ2, L3, M2, hs', m2, p2.bindX fun k M4 μ4 k' H4 _ e4 t4 m4 r4 p4 => ?_⟩
        obtain rfl : k = k' := r4
        cases k with
        | false =>
          simp only [Bool.false_eq_true, if_false] at p4
          exact iteF ⟨μ4, M4, e4 _ _ a2, s2.mono e4 t4, m4, r2.mono e4 t4, p4⟩
        | true =>
          simp only [if_true] at p4
          refine iteT ⟨μ4, L3, M4, hs'.mono e4 t4, m4, p4.bindX fun z M5 μ5 w H5 _ e5 t5 m5 r5 p5 => ?_⟩
          have a5 := e5 _ _ (e4 _ _ a2)
          cases q6 : M5[M1.length]? with
          | none => simp only [q6] at p5; exact p5.elim
          | some o =>
            cases o with
            | rol ds => simp only [q6] at p5; exact p5.elim
            | lst acc =>
              simp only [q6] at p5
              obtain ⟨us, g5, g6⟩ := m5.lst a5 q6
              by_cases z : acc.length < big
              · simp only [z, if_true] at p5
                have tk5 : Tk X.K H5 (upd H5 D (.lst (us ++ [w]))) := Tk.lst g5
                exact ⟨us, g5, by rw [g6.length]; exact big_lt z, μ5, _, a5, ((s2.mono e4 t4).mono e5 t5).mono (Ext.refl _) tk5, m5.set a5 q6 (g6.append (rvs_cons r5 rvs_nil)), ((r2.mono e4 t4).mono e5 t5).mono (Ext.refl _) tk5, p5.shift (Ext.refl _) tk5⟩
              · simp only [z, if_false] at p5; exact p5.elim
section
variable {elt tg iter : Expr} {ifs : List Expr} {scope : Scope} {own : List (Str × Nat)} {p : Pat} {mit : LI} {tt : LT} {te : LE}
theorem pm_lc (hc : X.calm = true) (hN : X.N.Nodup) (hi : PI X tg iter (tGI ⟨X.K, ce⟩ W mit)) (ok : BlkOk X.N X.env.scope scope own) (hv : ∀ i ∈ p.slots, i ∈ own.map (·.2))
    (hg : ∀ (s : Shared) (H : Hp) (C : Addr) (cl : List (Str × Addr)) (fp : List Addr), PG (X.blk s H scope (compEnvC scope cl C X.env) fp) tg (p.rd X.K)) (ht : ∀ (s : Shared) (H : Hp) (C : Addr) (cl : List (Str × Addr)) (fp : List Addr), PTs (X.blk s H scope (compEnvC scope cl C X.env) fp) ifs (tGT ⟨X.K, ce⟩ W0 tt))
    (he : ∀ (s : Shared) (H : Hp) (C : Addr) (cl : List (Str × Addr)) (fp : List Addr), PE (X.blk s H scope (compEnvC scope cl C X.env) fp) elt (tG ⟨X.K, ce⟩ W0 te)) (hs : ∀ x, foldedSetIterable iter X.env x = pure x := by intro _; rfl) :
    PE X (.ListComp elt [⟨tg, iter, ifs, 0⟩] scope pos) (tG ⟨X.K, ce⟩ W (eLc mit p tt te (own.map (·.2)))) :=
  pe_imp (pe_lc hc hN hi ok hg ht he hs) fun _ _ _ h => lc_step hv h
theorem psm_setLc {j : Nat} {y : Str} {py spos : Pos} (hc : X.calm = true) (hN : X.N.Nodup) (hy : X.N[j]? = some y) (hyl : X.env.scope.names.lookup y = some .local)
    (hsw : swapsWith (.ListComp elt [⟨tg, iter, ifs, 0⟩] scope pos) (some (.Name y py)) spos.line X.env = pure true) (hi : PI X tg iter (tGI ⟨X.K, ce⟩ W mit)) (ok : BlkOk X.N X.env.scope scope own) (hv : ∀ i ∈ p.slots, i ∈ own.map (·.2))
    (hg : ∀ (s : Shared) (H : Hp) (C : Addr) (cl : List (Str × Addr)) (fp : List Addr), PG (X.blk s H scope (compEnvC scope cl C X.env) fp) tg (p.rd X.K)) (ht : ∀ (s : Shared) (H : Hp) (C : Addr) (cl : List (Str × Addr)) (fp : List Addr), PTs (X.blk s H scope (compEnvC scope cl C X.env) fp) ifs (tGT ⟨X.K, ce⟩ W0 tt))
    (he : ∀ (s : Shared) (H : Hp) (C : Addr) (cl : List (Str × Addr)) (fp : List Addr), PE (X.blk s H scope (compEnvC scope cl C X.env) fp) elt (tG ⟨X.K, ce⟩ W0 te)) (hs : ∀ x, foldedSetIterable iter X.env x = pure x := by intro _; rfl) :
    PS X (.Assign [.Name y py] (.ListComp elt [⟨tg, iter, ifs, 0⟩] scope pos) spos) (tGS ⟨X.K, ce⟩ W (sSet j (eLc mit p tt te (own.map (·.2))))) :=
  ps_imp (ps_setLc hc hN hy hyl hsw hi ok hg ht he hs) fun D σ H h => by
    obtain ⟨μ, L, M, hs, hm, hp⟩ := h
    refine lc_step hv ⟨μ, L, M, hs, hm, hp.outE hs fun d M1 μ1 v H1 _ e1 t1 m1 r1 hp1 => ?_⟩
    exact hp1.next m1 ((hs.mono e1 t1).set r1 j)
end
end
end G

/-! S7: methods of lists; the law's end. -/
namespace G
open PySem L2 PyProof.Rows

/-! ### methods of lists -/
def mApp (x : D) (xs : List D) (M : Mem) : Res D := match x, xs with
  | .loc n, [y] => match M[n]? with
    | some (.lst ds) => if ds.length < big then .ok .non (M.set n (.lst (ds ++ [y]))) else .no
    | _ => .no
  | _, _ => .no
def mExt (x : D) (xs : List D) (M : Mem) : Res D := match x, xs with
  | .loc n, [.loc k] => match M[n]?, M[k]? with
    | some (.lst ds), some (.lst es) => if ds.length + es.length ≤ big then .ok .non (M.set n (.lst (ds ++ es))) else .no
    | _, _ => .no
  | _, _ => .no
def mPop (x : D) (xs : List D) (M : Mem) : Res D := match x, xs with
  | .loc n, [] => match M[n]? with
    | some (.lst ds) => match ds.getLast? with
      | some d => .ok d (M.set n (.lst ds.dropLast))
      | none => .no
    | _ => .no
  | _, _ => .no
/-- a method's call on a list -/
def eML (f : D → List D → Mem → Res D) (o : LE) (a : LA) : LE := fun L M => (o L M).bind fun x M1 => match x with
  | .loc n => (a L M1).bind fun xs M2 => f (.loc n) xs M2
  | _ => .no
def eML0 (f : D → List D → Mem → Res D) (o : LE) : LE := fun L M => (o L M).bind fun x M1 => match x with
  | .loc n => f (.loc n) [] M1
  | _ => .no
section
variable {X : Cx} {Γ : Gx} {ce : Nat → Addr × List Str} {W : WS} {o e : Expr} {es : List Expr} {mo : LE} {ml : LA} {apos cpos : Pos} {name : Str} {id : String} {f : D → List D → Mem → Res D}
theorem loc_ty {K : PySem.W.Frag} {μ : List Addr} {H : Hp} {M : Mem} {n : Nat} {v : V} (m : RM K μ H M) (r : Rv K μ H (.loc n) v) : tyV K "list" v H := by
  obtain ⟨a, rfl, h⟩ := r.loc
  have hn : n < M.length := by rw [← m.len]; exact (List.getElem?_eq_some_iff.mp h).1
  obtain ⟨vs, g1, _⟩ := m.sql h (List.getElem?_eq_getElem hn)
  exact .inl ⟨rfl, vs, g1⟩
theorem pm_ml (slot : Slot "list" name id) (hty : typeOf (.builtin id) = pure (.type "method_descriptor")) (hm : MtR X id (rGm ⟨X.K, ce⟩ f)) (ho : PE X o (tG ⟨X.K, ce⟩ W mo)) (ha : PA X (e :: es) (tGA ⟨X.K, ce⟩ W ml))
    (hbase : attributeBase o name X.env (eval o X.env) = eval o X.env := by rfl)
    (hfew : ((backTo cpos (starEach (e :: es) X.env)).all (fun x => !x.1) && (backToKw cpos (keywordEach [] X.env)).all (fun x => x.1.isSome)
      && decide ((e :: es).length + ([] : List Keyword).length + (if ([] : List Keyword).isEmpty then 0 else 1) < 30)) = true := by rfl)
    (hline : (apos.endLine == cpos.line) = true := by rfl) (hs : starEach (e :: es) X.env = (false, eval e X.env) :: starEach es X.env := by rfl) (hplain : (backTo cpos (starEach es X.env)).any (·.1) = false := by rfl) :
    PE X (.Call (.Attribute o name apos) (e :: es) [] cpos) (tG ⟨X.K, ce⟩ W (eML f mo ml)) :=
  pe_imp (pe_bm PySem.F.plainAttrs_list slot hty hm ho ha hbase hfew hline hs hplain) fun σ H Q h => by
    obtain ⟨μ, L, M, hs, hm, hp⟩ := h
    refine ⟨μ, L, M, hs, hm, hp.bind fun x M1 μ1 v H1 _ e1 t1 m1 r1 hp1 => ?_⟩
    cases x with
    | loc n =>
      refine ⟨loc_ty m1 r1, μ1, L, M1, hs.mono e1 t1, m1, hp1.bind fun xs M2 μ2 vs H2 _ e2 t2 m2 r2 hp2 => ?_⟩
      exact ⟨μ2, M2, .loc n, xs, m2, r1.mono e2 t2, r2, hp2.loose⟩
    | _ => exact hp1.elim
theorem pm_ml0 (slot : Slot "list" name id) (hty : typeOf (.builtin id) = pure (.type "method_descriptor")) (hm : MtR X id (rGm ⟨X.K, ce⟩ f)) (ho : PE X o (tG ⟨X.K, ce⟩ W mo))
    (hbase : attributeBase o name X.env (eval o X.env) = eval o X.env := by rfl) (hline : (apos.endLine == cpos.line) = true := by rfl) :
    PE X (.Call (.Attribute o name apos) [] [] cpos) (tG ⟨X.K, ce⟩ W (eML0 f mo)) :=
  pe_imp (pe_bm0 PySem.F.plainAttrs_list slot hty hm ho hbase hline) fun σ H Q h => by
    obtain ⟨μ, L, M, hs, hm, hp⟩ := h
    refine ⟨μ, L, M, hs, hm, hp.bind fun x M1 μ1 v H1 _ e1 t1 m1 r1 hp1 => ?_⟩
    cases x with
    | loc n => exact ⟨loc_ty m1 r1, μ1, M1, .loc n, [], m1, r1, rvs_nil, hp1.loose⟩
    | _ => exact hp1.elim
theorem mg_append : MtR X "list.append" (rGm ⟨X.K, ce⟩ mApp) := by
  intro pins s σ H x xs v us Q I rx rs h
  obtain ⟨μ, M, d, ds, hm, rd, rds, hp⟩ := h
  unfold mApp at hp
  split at hp
  · rename_i n y
    obtain ⟨a, rfl, h1⟩ := rd.loc
    obtain ⟨w, rfl, h2⟩ := rds.one
    cases q : M[n]? with
    | none => simp only [q] at hp; exact hp.elim
    | some o =>
      cases o with
      | rol es => simp only [q] at hp; exact hp.elim
      | lst es =>
        simp only [q] at hp
        obtain ⟨vs, g1, g2⟩ := hm.lst h1 q
        by_cases z : es.length < big
        · simp only [z, if_true] at hp
          exact mt_append pins s σ H _ _ v us Q I rx rs ⟨a, vs, w, rfl, rfl, g1, by rw [g2.length]; exact big_lt z, hp.set hm h1 q (g2.append (rvs_cons h2 rvs_nil)) rv_non⟩
        · simp only [z, if_false] at hp; exact hp.elim
  · exact hp.elim
theorem mg_extend : MtR X "list.extend" (rGm ⟨X.K, ce⟩ mExt) := by
  intro pins s σ H x xs v us Q I rx rs h
  obtain ⟨μ, M, d, ds, hm, rd, rds, hp⟩ := h
  unfold mExt at hp
  split at hp
  · rename_i n k
    obtain ⟨a, rfl, h1⟩ := rd.loc
    obtain ⟨w, rfl, h2⟩ := rds.one
    obtain ⟨b, rfl, h3⟩ := h2.loc
    cases q : M[n]? with
    | none => simp only [q] at hp; exact hp.elim
    | some o =>
      cases q2 : M[k]? with
      | none => cases o <;> (simp only [q, q2] at hp; exact hp.elim)
      | some o2 =>
        cases o with
        | rol es => cases o2 <;> (simp only [q, q2] at hp; exact hp.elim)
        | lst es =>
          cases o2 with
          | rol es2 => simp only [q, q2] at hp; exact hp.elim
          | lst es2 =>
            simp only [q, q2] at hp
            obtain ⟨vs, g1, g2⟩ := hm.lst h1 q
            obtain ⟨ws, g3, g4⟩ := hm.lst h3 q2
            by_cases z : es.length + es2.length ≤ big
            · simp only [z, if_true] at hp
              exact mt_extend pins s σ H _ _ v us Q I rx rs ⟨a, b, vs, ws, rfl, rfl, g1, g3, by rw [g2.length, g4.length]; exact big_le z, hp.set hm h1 q (g2.append g4) rv_non⟩
            · simp only [z, if_false] at hp; exact hp.elim
  · exact hp.elim
theorem Rvs.dropLast {K : PySem.W.Frag} {μ : List Addr} {H : Hp} {ds : List D} {vs : List V} (h : Rvs K μ H ds vs) : Rvs K μ H ds.dropLast vs.dropLast := by
  rw [List.dropLast_eq_take, List.dropLast_eq_take, h.length]
  exact h.take _
theorem mg_pop : MtR X "list.pop" (rGm ⟨X.K, ce⟩ mPop) := by
  intro pins s σ H x xs v us Q I rx rs h
  obtain ⟨μ, M, d, ds, hm, rd, rds, hp⟩ := h
  unfold mPop at hp
  split at hp
  · rename_i n
    obtain ⟨a, rfl, h1⟩ := rd.loc
    obtain rfl := rds.nil
    cases q : M[n]? with
    | none => simp only [q] at hp; exact hp.elim
    | some o =>
      cases o with
      | rol es => simp only [q] at hp; exact hp.elim
      | lst es =>
        simp only [q] at hp
        obtain ⟨vs, g1, g2⟩ := hm.lst h1 q
        cases q2 : es.getLast? with
        | none => simp only [q2] at hp; exact hp.elim
        | some y =>
          simp only [q2] at hp
          have q3 : es[es.length - 1]? = some y := by rw [← List.getLast?_eq_getElem?]; exact q2
          obtain ⟨w, h3, h4⟩ := g2.get q3
          refine mt_pop pins s σ H _ _ v us Q I rx rs ⟨a, vs, w, rfl, rfl, g1, by rw [g2.length]; exact h3, ?_⟩
          exact hp.set hm h1 q g2.dropLast (h4.mono (Ext.refl _) (Tk.lst g1))
  · exact hp.elim
end

section
variable {X : Cx} {W : WS}
/-- a global name whose value is written -/
theorem pm_ge {ce : Nat → Addr × List Str} {x : Str} {d : D} {pos : Pos} (hg : Gl X x) (h : ∃ v u, X.mg x = some u ∧ RelV v u ∧ ∀ μ H, Rv X.K μ H d v) (hd : (x == ("__debug__" : Str)) = false := by decide) : PE X (.Name x pos) (tG ⟨X.K, ce⟩ W (eC d)) := by
  obtain ⟨v, u, h1, h2, h3⟩ := h
  exact pm_g hg h1 h2 h3 hd
theorem fg_none {P : Program} {w : World} {K : PySem.W.Frag} {mg : Str → Option Value} {base : Heap} {CX : CXT} {k : Nat} {f : Addr} {fd : FuncData} {ps : List Str} {fn : Fn} {ce : Nat → Addr × List Str} (h : ∀ ds M, fn ds M = .no) : FG P w K mg base CX k f fd ps (spG ⟨K, ce⟩ fn) := by
  have no : ∀ vs H Q E, ¬ spG ⟨K, ce⟩ fn vs H Q E := by
    rintro vs H Q E ⟨μ, M, ds, _, _, z⟩
    rw [h] at z; exact z
  exact ⟨fun vs H Q E z => (no _ _ _ _ z).elim, fun _ _ _ _ _ _ _ _ _ _ _ _ _ _ z => (no _ _ _ _ z).elim⟩
theorem bfull {K : PySem.W.Frag} {fd : FuncData} {ps : List Str} (h : ∃ ds, Vals ([] : List V) ds ∧ Binds K fd ps ds) : Binds K fd ps [] := by
  obtain ⟨ds, v, b⟩ := h
  cases v
  exact b
theorem rv_written {K : PySem.W.Frag} {μ : List Addr} {H : Hp} {a : Addr} {o : Obj} {its : List Value} {n : Nat} {vs : List V} {ds : List D} (h : K.lookup a = some o) (hc : o.cls = .type "tuple") (hd : o.data = .seq its.toArray n) (hv : Vals vs its) (hz : its.toArray.size ≤ sizeLine) (r : Rvs K μ H ds vs) : Rv K μ H (.tup ds) (.ref a) :=
  rv_tup (.inr ⟨o, its.toArray, n, h, hc, hd, hz, by simpa using hv⟩) r
theorem fd_fun {K : PySem.W.Frag} {x qual : Str} {st : Stmt} {f : Addr} {fd : FuncData} (F : Fun K x qual st f fd) : FunD K x qual (defArgs st) (defBody st) (defScope st) [] [] f fd := by
  obtain ⟨⟨oc, od, kV, dc, pm, an, cdv, ct, sl, e, l, c⟩, k⟩ := F
  exact ⟨⟨oc, od, .none, kV, dc, pm, an, cdv, ct, sl, e, l, c, .inl ⟨rfl, rfl⟩, .inl rfl⟩, k⟩
/-- a def with defaults: the tuple of them stands in the written part -/
theorem fd_dfl {K : PySem.W.Frag} {x qual : Str} {st : Stmt} {f Td : Addr} {oc kV dc pm cdv ct : Value} {od an : Option Addr} {sl : Array (Option Value)} {dvs : List V} {o : Obj} {its : List Value} {n : Nat}
    (l : K.lookup f = some ⟨oc, od, .func (PySem.W.fnOf x qual (defArgs st) (defBody st) (defScope st) (.ref Td) kV dc pm an cdv ct), sl⟩) (c : PySem.W.codeIn K cdv qual = true) (k : PySem.W.keepIn K (.ref f) = true)
    (lT : K.lookup Td = some o) (oT : o.data = .seq its.toArray n) (hv : Vals dvs its) (hd : dvs ≠ []) :
    FunD K x qual (defArgs st) (defBody st) (defScope st) dvs [] f (PySem.W.fnOf x qual (defArgs st) (defBody st) (defScope st) (.ref Td) kV dc pm an cdv ct) :=
  ⟨⟨oc, od, .ref Td, kV, dc, pm, an, cdv, ct, sl, rfl, l, c, .inr ⟨hd, Td, o, its, n, rfl, lT, oT, hv⟩, .inl rfl⟩, k⟩
theorem px0 : ∀ σ, PassesAt CX0 X σ (W σ) := fun _ _ _ _ _ _ _ h => h.elim
end

/-! ### the law's end: the call of law from outside -/
theorem law_go {P : Program} {w : World} {K : PySem.W.Frag} {mg mb : Str → Option Value} {CX : CXT} {k : Nat} {fa sa : Addr} {fd : FuncData} {x : Str} {fn : Fn} {ce : Nat → Addr × List Str} {t : Shared} {vs : List Value} {ns : List Int}
    (KI : K.In t.heap) (gl : t.heap.Ns mainGlobals mg) (bl : t.heap.Ns builtinsNs mb) (bb : ∀ y : Str, y ≠ "__name__" → mb y = bootBuiltins y) (nl : t.heap.NoLimit) (nd : t.heap.NoDigits) (ge : t.gens = #[])
    (sc : t.heap.get? sa = some { cls := .type "list", data := .seq vs.toArray }) (it : IntsAre vs ns) (ln : ns.length ≤ sizeLine) (rm : Room k callerA)
    (F : ∀ base : Heap, K.In base → base.Ns mainGlobals mg → base.NoDigits → FG P w K mg base CX k fa fd [x] (spG ⟨K, ce⟩ fn)) (bi : ∀ (s : Shared) (u : Value), BindsTo s fd ⟨[u], []⟩ [(x, u)])
    (good : ∃ M', fn [.loc 0] [.rol (ns.map D.int)] = .ok (.bl true) M') (noE : ∀ H e s', CX [] H t (fun _ _ _ => False) e s' → False) :
    codeAny (model P w) callerA (.call (.ref fa) ⟨[.ref sa], []⟩) (fun r s' => r = .ok (.ret (.bool true)) ∧ OldK t.heap s'.heap ∧ s'.os = t.os ∧ AllBare s'.gens) t := by
  have rel := vals_ints it
  have len := it.length
  obtain ⟨ME, hE⟩ := good
  have main : ∀ H : Hp, Only H → Ro K [sa] H (.rol (ns.map D.int)) sa → HOk P w H t.heap → (∀ b, H b ≠ none → b = sa) → (H sa ≠ none → K.lookup sa = none) →
      codeAny (model P w) callerA (.call (.ref fa) ⟨[.ref sa], []⟩) (fun r s' => r = .ok (.ret (.bool true)) ∧ OldK t.heap s'.heap ∧ s'.os = t.os ∧ AllBare s'.gens) t := by
    intro H only ro ok one two
    have dictN : ∀ {b : Addr} {o : Obj} {es : Array DictEntry} {ep : Nat}, t.heap.get? b = some o → o.data = .dict es ep → H b = none := by
      intro b o es ep e d
      cases q : H b with
      | none => rfl
      | some u =>
        have z := one b (by rw [q]; intro h; cases h)
        rw [z, sc] at e; cases e; cases d
    have low : ∀ {b : Addr} {m : Str → Option Value}, t.heap.Ns b m → (hidT t.heap H).Ns b m := by
      rintro b m ⟨o, es, ep, e, d, r⟩
      exact ⟨o, es, ep, hidT_get e (dictN e d), d, r⟩
    have KB : K.In (hidT t.heap H) := by
      intro b o e
      refine hidT_get (KI b o e) ?_
      cases q : H b with
      | none => rfl
      | some u =>
        have z := one b (by rw [q]; intro h; cases h)
        rw [z] at q e
        rw [two (by rw [q]; intro h; cases h)] at e; cases e
    have md : Mod K mg (hidT t.heap H) := ⟨KB, low gl, ⟨mb, low bl, bb⟩, let ⟨mc, a1, a2⟩ := nl; ⟨mc, low a1, a2⟩⟩
    have dg : (hidT t.heap H).NoDigits := let ⟨mc, a1, a2⟩ := nd; ⟨mc, low a1, a2⟩
    have en : Env0 P w K mg (hidT t.heap H) callerA [] t H := by
      refine ⟨rfl, md, fun b o e => of_hidT e, Nat.le_of_eq (hidT_size _ _), trivial, fun b hb => ?_, ok, .of_eq ge⟩
      cases hb
    have rmem : RM K [sa] H [.rol (ns.map D.int)] := by
      refine ⟨rfl, fun i j a ds es h1 h2 h3 h4 => ?_, fun i a o h1 h2 => ?_⟩
      · cases i with
        | zero => cases h3
        | succ i => simp at h3
      · cases i with
        | zero => cases h1; cases h2; exact ro
        | succ i => simp at h1
    have pr : spG ⟨K, ce⟩ fn [.ref sa] H (fun v _ => v = .bl true) (fun _ _ _ => False) := by
      refine ⟨[sa], [.rol (ns.map D.int)], [.loc 0], rmem, rvs_cons (rv_loc rfl) rvs_nil, ?_⟩
      rw [hE]
      intro μ' v H' e1 t1 m1 r1
      exact r1.bl
    refine codeAny_mono ((F _ KB (low gl) dg).go callerA [] t H ⟨[.ref sa], []⟩ [.ref sa] [.ref sa] _ _ rm rfl en (bi t (.ref sa)) (.cons rfl .nil) pr) fun r s' h => ?_
    cases r with
    | error e => exact (noE H e s' h).elim
    | ok fl => cases fl with
      | next => exact h.elim
      | brk => exact h.elim
      | cont => exact h.elim
      | ret u =>
        obtain ⟨v, H', os, bare, un, ok', r', q⟩ := h
        obtain rfl : v = .bl true := q
        obtain rfl : u = Value.bool true := r'
        refine ⟨rfl, OldK.of_keep fun b o e => ?_, os, bare⟩
        cases q : H b with
        | none => exact un.keep b o e q (by intro z; cases z) (by simp)
        | some u =>
          rcases only b with z | ⟨ob, xs, z⟩
          · rw [q] at z; cases z
          · obtain ⟨e1, _⟩ := ok b _ z
            obtain ⟨e2, _⟩ := ok' b _ (un.frzs b ob _ z)
            rw [e] at e1; cases e1
            exact e2
  have rints : ∀ H : Hp, Rvs K [sa] H (ns.map D.int) (ns.map V.int) := fun H => rvs_ints ns
  cases hk : K.lookup sa with
  | some o =>
    have e := KI sa o hk
    rw [sc] at e; cases e
    refine main (fun _ => none) (fun _ => .inl rfl) ⟨_, .inr ⟨_, vs.toArray, _, hk, rfl, rfl, rfl, by rw [List.size_toArray, len]; exact ln, by simpa using rel⟩, rints _⟩ (fun b u z => ?_) (fun b z => absurd rfl z) fun z => absurd rfl z
    have : (none : Option HO) = some u := z
    cases this
  | none =>
    let H : Hp := fun b => if b = sa then some (.frz { cls := .type "list", data := .seq vs.toArray } (.lst (ns.map V.int))) else none
    have at1 : H sa = some (.frz { cls := .type "list", data := .seq vs.toArray } (.lst (ns.map V.int))) := if_pos rfl
    have off : ∀ b, b ≠ sa → H b = none := fun b hb => if_neg hb
    refine main H (fun b => ?_) ⟨_, .inl ⟨_, at1⟩, rints _⟩ (fun b u z => ?_) (fun b z => ?_) fun _ => hk
    · by_cases hb : b = sa
      · rw [hb]; exact .inr ⟨_, _, at1⟩
      · exact .inl (off b hb)
    · by_cases hb : b = sa
      · rw [hb] at z ⊢
        rw [at1] at z; cases z
        exact ⟨sc, by rw [List.length_map]; exact ln, vs, _, rel, sc⟩
      · rw [off b hb] at z; cases z
    · exact Classical.byContradiction fun hb => z (off b hb)

/-- the goal behind k_head -/
theorem walk_go {l : PySem.W.OpenLaw} {n k : Nat} {q : Program} {loose : List Str} {XP : (Str → Option Value) → Heap → Prop} {YP : World → Heap → Prop} {d : DefRec} {K : Params → PySem.W.Frag} {fn : Fn} {x : Str}
    (hn : l.most = some n) (hn2 : n ≤ sizeLine) (hdf : d.params.defaults = []) (rm : Room k callerA) (hY : ∀ (w : World) (h : Heap), YP w h → (K w.params).In h)
    (F : ∀ (w : World) (mg : Str → Option Value) (fa : Addr) (h : Heap), (K w.params).In h → h.Ns mainGlobals mg → mg d.name = some (.ref fa) →
      ∃ (fd : FuncData) (ce : Nat → Addr × List Str), (∀ (s : Shared) (u : Value), BindsTo s fd ⟨[u], []⟩ [(x, u)]) ∧
        ∀ base : Heap, (K w.params).In base → base.Ns mainGlobals mg → base.NoDigits → FG l.prog w (K w.params) mg base CX0 k fa fd [x] (spG ⟨K w.params, ce⟩ fn))
    (good : ∀ ns : List Int, ns.length ≤ n → ∃ M', fn [.loc 0] [.rol (ns.map D.int)] = .ok (.bl true) M') :
    PySem.W.WalkO q loose XP YP l.row.toRowW d [] (fun f vs => PySem.call f vs) := by
  refine Att.attach_call hn hdf fun w s₀ s₁ mg mb fa o pm cd doc a vs ns G Y ho hd hcd hmg hobj hints hlen hg => ?_
  have KX := hY w _ Y
  obtain ⟨fd, ce, hb, hF⟩ := F w mg fa _ KX G.T.g hmg
  exact law_go KX G.T.g G.T.b G.T.builtins G.T.nolimit G.T.nodigits hg hobj hints (Nat.le_trans hlen hn2) rm hF hb (good ns hlen) fun H e s' h => h
end G

/-! S8: match over texts; in, not in. -/
namespace G
open PySem L2
def mtC (x : D) : List (D × LS) → LS
  | [] => fun L M => .ok (.nx, L) M
  | (c, b) :: r => fun L M => outE L ((dEq x c M).bind asB) fun k M1 => if k = true then b L M1 else mtC x r L M1
def sMt (e : LE) (cs : List (D × LS)) : LS := fun L M => outE L (e L M) fun x M1 => mtC x cs L M1
def dIn (neg : Bool) (x y : D) (M : Mem) : Res D := match itemsD y M with
  | some ds => if flatD x = true ∧ ds.all flatD = true then .ok (.bl (if neg then !(ds.any fun z => eqF z x) else ds.any fun z => eqF z x)) M else .no
  | none => .no
section
variable {X : Cx} {Γ : Gx} {ce : Nat → Addr × List Str} {W : WS} {e : Expr} {me : LE} {pos p1 p2 : Pos} {body : List Stmt} {mb : LS} {rest cases : List MatchCase} {cs : List (D × LS)}
structure PMC (X : Cx) (Γ : Gx) (W : WS) (cases : List MatchCase) (cs : List (D × LS)) : Prop where
  run : ∀ (pins : List (Addr × Obj)) (s : Shared) (σ : L2.St) (H : Hp) (D : Ends) (x : G.D) (v : V) (u : Value) (μ : List Addr) (L : Env) (M : Mem) (first : Bool), Inv X pins σ H s → RelV v u → Rv Γ.K μ H x v → Rs Γ.K μ H L σ → RM Γ.K μ H M → PstS Γ W μ H (mtC x cs L M) D →
    wpAny (model X.prog X.w) X.A (matchCases cases X.env u first) (SP X pins D) X.xe s
theorem pmc_nil : PMC X Γ W [] [] := ⟨fun pins s σ H D x v u μ L M first I r rx hs hm hp => wpAny_matchCases_nil ⟨σ, H, I, PstS.next hp hm hs⟩⟩
theorem pmc_str {c : Str} {j} (ho : OpR X (compareOp .Eq) (rG Γ dEq)) (hb : PSs X body (tGS Γ W mb)) (hr : PMC X Γ W rest cs) : PMC X Γ W (⟨.MatchValue (.Constant (.str c) j p2) p1, none, body⟩ :: rest) ((.str c, mb) :: cs) := ⟨fun pins s σ H D x v u μ L M first I r rx hs hm hp => by
  refine wpAny_matchCases_cons (wpAny_matchPattern_Value ?_)
  refine thn ((pm_str (X := X) (Γ := Γ) (W := W) (x := c) (j := j) (pos := p2)).run pins s σ H (fun b H' => ∃ μ', Ext μ μ' ∧ Tk Γ.K H H' ∧ RM Γ.K μ' H' M ∧ Rv Γ.K μ' H' (.str c) b) I ⟨μ, L, M, hs, hm, fun μ' b H' e t m q => ⟨μ', e, t, m, q⟩⟩) ?_
  rintro w s1 ⟨b, H1, I1, rb, μ1, e1, t1, m1, q1⟩
  have hp1 := PstS.shift e1 t1 hp
  have hs1 := hs.mono e1 t1
  have k1 : Pst Γ (W σ) RbR μ1 H1 ((dEq x (.str c) M).bind asB) (fun (k : Bool) H2 => ∃ μ2 M2, Rv Γ.K μ2 H2 x v ∧ Rs Γ.K μ2 H2 L σ ∧ RM Γ.K μ2 H2 M2 ∧ PstS Γ W μ2 H2 (if k = true then mb L M2 else mtC x cs L M2) D) :=
    PstS.outE hp1 hs1 fun k M2 μ2 k' H2 _ e2 t2 m2 r2 hp2 => by
      obtain rfl : k = k' := r2
      exact ⟨μ2, M2, (rx.mono e1 t1).mono e2 t2, hs1.mono e2 t2, m2, hp2⟩
  refine thn (ho pins s1 σ H1 v b u w (fun z H2 => ∃ k, z = .bl k ∧ ∃ μ2 M2, Rv Γ.K μ2 H2 x v ∧ Rs Γ.K μ2 H2 L σ ∧ RM Γ.K μ2 H2 M2 ∧ PstS Γ W μ2 H2 (if k = true then mb L M2 else mtC x cs L M2) D) I1 r rb ⟨μ1, M, x, .str c, m1, rx.mono e1 t1, q1, (k1.bind (R := RvR Γ) fun z M3 μ3 y H3 _ e3 t3 m3 r3 hp3 => ?_).loose⟩) ?_
  · cases z with
    | bl k => exact ⟨k, r3.bl, hp3.here m3 rfl⟩
    | _ => exact hp3.elim
  · rintro z s2 ⟨y, H2, I2, ry, k, rfl, μ2, M2, rx2, hs2, m2, hp2⟩
    cases ry
    refine wpAny_truthy_bool ?_
    cases k with
    | true => exact wpAny_assignInOrder_none (hb.run pins s2 σ H2 D I2 ⟨μ2, L, M2, hs2, m2, hp2⟩)
    | false => exact hr.run pins s2 σ H2 D x v u μ2 L M2 false I2 r rx2 hs2 m2 hp2⟩
theorem psm_match (he : PE X e (tG Γ W me)) (hc : PMC X Γ W cases cs) : PS X (.Match e cases pos) (tGS Γ W (sMt me cs)) := ⟨fun pins s σ H D I h => by
  obtain ⟨μ, L, M, hs, hm, hp⟩ := h
  refine wpAny_Match (thn (he.run pins s σ H (fun v H1 => ∃ μ1 d M1, Rv Γ.K μ1 H1 d v ∧ Rs Γ.K μ1 H1 L σ ∧ RM Γ.K μ1 H1 M1 ∧ PstS Γ W μ1 H1 (mtC d cs L M1) D) I ⟨μ, L, M, hs, hm, PstS.outE hp hs fun d M1 μ1 v H1 _ e1 t1 m1 r1 hp1 => ⟨μ1, d, M1, r1, hs.mono e1 t1, m1, hp1⟩⟩) ?_)
  rintro u s1 ⟨v, H1, I1, r, μ1, d, M1, rd, hs1, m1, hp1⟩
  exact hc.run pins s1 σ H1 D d v u μ1 L M1 true I1 r rd hs1 m1 hp1⟩
/-! in -/
theorem flat_rv {K : PySem.W.Frag} {μ : List Addr} {H : Hp} {d : D} {v : V} (r : Rv K μ H d v) (f : flatD d = true) : flatV v = true := by
  cases d with
  | non => obtain rfl := r.non; rfl
  | bl _ => obtain rfl := r.bl; rfl
  | int _ => obtain rfl := r.int; rfl
  | str _ => obtain rfl := r.str; rfl
  | tup _ => exact absurd f Bool.false_ne_true
  | loc _ => exact absurd f Bool.false_ne_true
theorem eqF_rv {K : PySem.W.Frag} {μ : List Addr} {H : Hp} {d e : D} {v w : V} (r : Rv K μ H d v) (q : Rv K μ H e w) (f : flatD d = true) (g : flatD e = true) : eqV v w = eqF d e := by
  cases d with
  | non => obtain rfl := r.non; cases e with
    | non => obtain rfl := q.non; rfl
    | bl _ => obtain rfl := q.bl; rfl
    | int _ => obtain rfl := q.int; rfl
    | str _ => obtain rfl := q.str; rfl
    | tup _ => exact absurd g Bool.false_ne_true
    | loc _ => exact absurd g Bool.false_ne_true
  | bl _ => obtain rfl := r.bl; cases e with
    | non => obtain rfl := q.non; rfl
    | bl _ => obtain rfl := q.bl; rfl
    | int _ => obtain rfl := q.int; rfl
    | str _ => obtain rfl := q.str; rfl
    | tup _ => exact absurd g Bool.false_ne_true
    | loc _ => exact absurd g Bool.false_ne_true
  | int _ => obtain rfl := r.int; cases e with
    | non => obtain rfl := q.non; rfl
    | bl _ => obtain rfl := q.bl; rfl
    | int _ => obtain rfl := q.int; rfl
    | str _ => obtain rfl := q.str; rfl
    | tup _ => exact absurd g Bool.false_ne_true
    | loc _ => exact absurd g Bool.false_ne_true
  | str _ => obtain rfl := r.str; cases e with
    | non => obtain rfl := q.non; rfl
    | bl _ => obtain rfl := q.bl; rfl
    | int _ => obtain rfl := q.int; rfl
    | str _ => obtain rfl := q.str; rfl
    | tup _ => exact absurd g Bool.false_ne_true
    | loc _ => exact absurd g Bool.false_ne_true
  | tup _ => exact absurd f Bool.false_ne_true
  | loc _ => exact absurd f Bool.false_ne_true
theorem flats_rv {K : PySem.W.Frag} {μ : List Addr} {H : Hp} {e : D} {w : V} (q : Rv K μ H e w) (g : flatD e = true) : ∀ {ds : List D} {vs : List V}, Rvs K μ H ds vs → ds.all flatD = true → vs.all flatV = true ∧ (vs.any fun y => eqV y w) = ds.any fun z => eqF z e
  | [], _, r, _ => by obtain rfl := r.nil; exact ⟨rfl, rfl⟩
  | d :: ds, _, r, f => by
    obtain ⟨v, vs, rfl, h1, h2⟩ := r.uncons
    rw [List.all_cons, Bool.and_eq_true] at f
    obtain ⟨a, b⟩ := flats_rv q g h2 f.2
    exact ⟨by rw [List.all_cons, flat_rv h1 f.1, a]; rfl, by rw [List.any_cons, List.any_cons, eqF_rv h1 q f.1 g, b]⟩
theorem og_inG {op : CmpOp} {neg : Bool} (ho : OpR X (compareOp op) (rIn X.K neg)) : OpR X (compareOp op) (rG ⟨X.K, ce⟩ (dIn neg)) := by
  intro pins s σ H x y v u Q I rx ry h
  obtain ⟨μ, M, a, b, hm, ra, rb, hp⟩ := h
  unfold dIn at hp
  cases q : itemsD b M with
  | none => rw [q] at hp; exact hp.elim
  | some ds =>
    rw [q] at hp
    simp only at hp
    by_cases z : flatD a = true ∧ ds.all flatD = true
    · rw [if_pos z] at hp
      obtain ⟨p, vs, rfl, hq, rs⟩ := items_sq hm rb q
      obtain ⟨f1, f2⟩ := flats_rv ra z.1 rs z.2
      refine ho pins s σ H _ _ v u Q I rx ry ⟨p, vs, rfl, hq, flat_rv ra z.1, f1, ?_⟩
      refine hp.here hm ?_
      show Rv _ _ _ _ _
      unfold inV
      rw [f2]
      exact rv_bl _
    · rw [if_neg z] at hp; exact hp.elim
theorem og_in : OpR X (compareOp .In) (rG ⟨X.K, ce⟩ (dIn false)) := og_inG op_in_seq
theorem og_notIn : OpR X (compareOp .NotIn) (rG ⟨X.K, ce⟩ (dIn true)) := og_inG op_notIn_seq
end
end G

/-! P0: the mirror is read step by step: only what comes next is opened. -/
namespace G
open PySem L2
section
variable {α β : Type} {r r' : Res α} {f : α → Mem → Res β} {L : Env} {M : Mem} {i : Nat} {d x : D} {a b c : LE} {al : LA} {xs : List D}
theorem bind_ok {a : α} : (Res.ok a M).bind f = f a M := rfl
theorem bind_ex {e : Exn} : (Res.ex e M : Res α).bind f = .ex e M := rfl
theorem outE_ok {g : α → Mem → Res (Fl × Env)} {a : α} : outE L (.ok a M) g = g a M := rfl
theorem outE_ex {g : α → Mem → Res (Fl × Env)} {e : Exn} : outE L (.ex e M : Res α) g = .ok (.xc e, L) M := rfl
theorem retF_nx : retF (.ok (.nx, L) M) = .ok .non M := rfl
theorem retF_rt : retF (.ok (.rt d, L) M) = .ok d M := rfl
theorem retF_xc {e : Exn} : retF (.ok (.xc e, L) M) = .ex e M := rfl
def optR : Option (Option D) → Mem → Res D
  | some (some d), M => .ok d M
  | _, _ => .no
theorem x_optR : optR (some (some d)) M = .ok d M := rfl
theorem x_eV : eV i L M = optR L[i]? M := by
  unfold eV optR
  rcases L[i]? with _ | _ | _ <;> rfl
theorem x_eC : eC d L M = .ok d M := rfl
def kB (f : D → D → Mem → Res D) (b : LE) (L : Env) (x : D) (M : Mem) : Res D := (b L M).bind (f x)
theorem x_kB {f : D → D → Mem → Res D} : kB f b L x M = (b L M).bind (f x) := rfl
theorem x_eB {f : D → D → Mem → Res D} : eB f a b L M = (a L M).bind (kB f b L) := rfl
theorem x_eU {f : D → Mem → Res D} : eU f a L M = (a L M).bind f := rfl
theorem x_eF {f : List D → Mem → Res D} : eF f al L M = (al L M).bind f := rfl
def kM (f : D → List D → Mem → Res D) (al : LA) (L : Env) (x : D) (M : Mem) : Res D := (al L M).bind (f x)
theorem x_kM {f : D → List D → Mem → Res D} : kM f al L x M = (al L M).bind (f x) := rfl
theorem x_eM {f : D → List D → Mem → Res D} : eM f a al L M = (a L M).bind (kM f al L) := rfl
def kIf {α : Type} (a b : Env → Mem → Res α) (L : Env) (k : Bool) (M : Mem) : Res α := if k = true then a L M else b L M
theorem x_ift {a b : Env → Mem → Res α} : kIf a b L true M = a L M := rfl
theorem x_iff {a b : Env → Mem → Res α} : kIf a b L false M = b L M := rfl
theorem x_eIf {c : LT} : eIf c a b L M = (c L M).bind (kIf a b L) := rfl
def kTup (xs : List D) (M : Mem) : Res D := if xs.length ≤ 1000 then .ok (.tup xs) M else .no
def kLst (xs : List D) (M : Mem) : Res D := if xs.length ≤ 1000 then .ok (.loc M.length) (M ++ [.lst xs]) else .no
theorem x_kTup : kTup xs M = if xs.length ≤ 1000 then .ok (.tup xs) M else .no := rfl
theorem x_kLst : kLst xs M = if xs.length ≤ 1000 then .ok (.loc M.length) (M ++ [.lst xs]) else .no := rfl
theorem x_eTup : eTup al L M = (al L M).bind kTup := rfl
theorem x_eLst : eLst al L M = (al L M).bind kLst := rfl
theorem x_aN : aN L M = .ok [] M := rfl
def kC (al : LA) (L : Env) (x : D) (M : Mem) : Res (List D) := (al L M).bind fun xs M2 => .ok (x :: xs) M2
def kCc (x : D) (xs : List D) (M : Mem) : Res (List D) := .ok (x :: xs) M
theorem x_kCc : kCc x xs M = .ok (x :: xs) M := rfl
theorem x_kC : kC al L x M = (al L M).bind (kCc x) := rfl
theorem x_aC : aC a al L M = (a L M).bind (kC al L) := rfl
theorem x_tV : tV a L M = (a L M).bind truD := rfl
def kCm (f : D → D → Mem → Res D) (b : LE) (L : Env) (x : D) (M : Mem) : Res Bool := (b L M).bind fun y M2 => (f x y M2).bind asB
def kCn (f : D → D → Mem → Res D) (x y : D) (M : Mem) : Res Bool := (f x y M).bind asB
theorem x_kCn {f : D → D → Mem → Res D} {y : D} : kCn f x y M = (f x y M).bind asB := rfl
theorem x_kCm {f : D → D → Mem → Res D} : kCm f b L x M = (b L M).bind (kCn f x) := rfl
theorem x_tCm {f : D → D → Mem → Res D} : tCm f a b L M = (a L M).bind (kCm f b L) := rfl
def okB (k : Bool) : Env → Mem → Res Bool := fun _ M => .ok k M
theorem x_okB {k : Bool} : okB k L M = .ok k M := rfl
theorem x_tA {c e : LT} : tA c e L M = (c L M).bind (kIf e (okB false) L) := rfl
theorem x_tO {c e : LT} : tO c e L M = (c L M).bind (kIf (okB true) e L) := rfl
def kN (k : Bool) (M : Mem) : Res Bool := .ok (!k) M
theorem x_kN {k : Bool} : kN k M = .ok (!k) M := rfl
theorem x_tN {c : LT} : tN c L M = (c L M).bind kN := rfl
theorem x_tCh {f g : D → D → Mem → Res D} : tCh f g a b c L M = (eCh f g a b c L M).bind asB := rfl
def kCh (f g : D → D → Mem → Res D) (b c : LE) (L : Env) (x : D) (M : Mem) : Res D := (b L M).bind fun y M2 => (f x y M2).bind fun z M3 => (asB z M3).bind fun k M4 =>
  if k = true then (c L M4).bind fun w M5 => g y w M5 else .ok (.bl false) M4
def kCi (f g : D → D → Mem → Res D) (c : LE) (L : Env) (x y : D) (M : Mem) : Res D := ((f x y M).bind asB).bind (kIf (fun L M => (c L M).bind (g y)) (eC (.bl false)) L)
def kCj (g : D → D → Mem → Res D) (c : LE) (y : D) : LE := fun L M => (c L M).bind (g y)
theorem x_kCj {g : D → D → Mem → Res D} {y : D} : kCj g c y L M = (c L M).bind (g y) := rfl
theorem x_kCi {f g : D → D → Mem → Res D} {y : D} : kCi f g c L x y M = ((f x y M).bind asB).bind (kIf (kCj g c y) (eC (.bl false)) L) := rfl
theorem x_kCh {f g : D → D → Mem → Res D} : kCh f g b c L x M = (b L M).bind (kCi f g c L x) := by
  unfold kCh
  congr 1
  funext y M1
  unfold kCi
  rcases f x y M1 with ⟨z, _⟩ | _ | _
  · simp only [bind_ok]
    rcases asB z _ with ⟨_ | _, _⟩ | _ | _ <;> rfl
  · rfl
  · rfl
theorem x_eCh {f g : D → D → Mem → Res D} : eCh f g a b c L M = (a L M).bind (kCh f g b c L) := rfl
def kAn (b : LE) (L : Env) (x : D) (M : Mem) : Res D := (truD x M).bind fun k M2 => if k = true then b L M2 else .ok x M2
def kOr (b : LE) (L : Env) (x : D) (M : Mem) : Res D := (truD x M).bind fun k M2 => if k = true then .ok x M2 else b L M2
def kNo (x : D) (M : Mem) : Res D := (truD x M).bind fun k M2 => .ok (.bl (!k)) M2
def kNb (k : Bool) (M : Mem) : Res D := .ok (.bl (!k)) M
theorem x_kNb {k : Bool} : kNb k M = .ok (.bl (!k)) M := rfl
theorem x_kAn : kAn b L x M = (truD x M).bind (kIf b (eC x) L) := rfl
theorem x_kOr : kOr b L x M = (truD x M).bind (kIf (eC x) b L) := rfl
theorem x_kNo : kNo x M = (truD x M).bind kNb := rfl
theorem x_eAnd : eAnd a b L M = (a L M).bind (kAn b L) := rfl
theorem x_eOr : eOr a b L M = (a L M).bind (kOr b L) := rfl
theorem x_eNot : eNot a L M = (a L M).bind kNo := rfl
def kCl (fn : Fn) (dds : List D) (xs : List D) (M : Mem) : Res D := fn (xs ++ dds) M
theorem x_kCl {fn : Fn} {dds : List D} : kCl fn dds xs M = fn (xs ++ dds) M := rfl
theorem x_eCall {fn : Fn} {dds : List D} : eCall fn dds al L M = (al L M).bind (kCl fn dds) := rfl
def kS1 (lo hi : LO) (L : Env) (x : D) (M : Mem) : Res D := (lo L M).bind fun l M2 => (hi L M2).bind fun h M3 => dSl x l h M3
def kS2 (hi : LO) (L : Env) (x : D) (l : Option Int) (M : Mem) : Res D := (hi L M).bind fun h M3 => dSl x l h M3
theorem x_kS2 {hi : LO} {l : Option Int} : kS2 hi L x l M = (hi L M).bind (dSl x l) := rfl
theorem x_kS1 {lo hi : LO} : kS1 lo hi L x M = (lo L M).bind (kS2 hi L x) := rfl
theorem x_eSl {lo hi : LO} : eSl a lo hi L M = (a L M).bind (kS1 lo hi L) := rfl
theorem x_oN : oN L M = .ok none M := rfl
def asO (x : D) (M : Mem) : Res (Option Int) := match x with
  | .int i => .ok (some i) M
  | _ => .no
theorem x_asO {i : Int} : asO (.int i) M = .ok (some i) M := rfl
theorem x_oS : oS a L M = (a L M).bind asO := by
  unfold oS
  congr 1
def mOf (f : D → List D → Mem → Res D) (x : D) (xs : List D) (M : Mem) : Res D := match x with
  | .loc n => f (.loc n) xs M
  | _ => .no
def mLoc (x : D) (M : Mem) : Res D := match x with
  | .loc n => .ok (.loc n) M
  | _ => .no
theorem x_mLoc {n : Nat} : mLoc (.loc n) M = .ok (.loc n) M := rfl
def kML (f : D → List D → Mem → Res D) (al : LA) (L : Env) (x : D) (M : Mem) : Res D := (mLoc x M).bind (kM f al L)
theorem x_kML {f : D → List D → Mem → Res D} : kML f al L x M = (mLoc x M).bind (kM f al L) := rfl
theorem x_eML {f : D → List D → Mem → Res D} : eML f a al L M = (a L M).bind (kML f al L) := by
  unfold eML
  congr 1
  funext d M1
  cases d <;> rfl
def kM0 (f : D → List D → Mem → Res D) (x : D) (M : Mem) : Res D := f x [] M
theorem x_kM0 {f : D → List D → Mem → Res D} : kM0 f x M = f x [] M := rfl
def kMl0 (f : D → List D → Mem → Res D) (x : D) (M : Mem) : Res D := (mLoc x M).bind (kM0 f)
theorem x_kMl0 {f : D → List D → Mem → Res D} : kMl0 f x M = (mLoc x M).bind (kM0 f) := rfl
theorem x_eML0 {f : D → List D → Mem → Res D} : eML0 f a L M = (a L M).bind (kMl0 f) := by
  unfold eML0
  congr 1
  funext d M1
  cases d <;> rfl
theorem x_truB {k : Bool} : truD (.bl k) M = .ok k M := rfl
theorem x_truI {k : Int} : truD (.int k) M = .ok (k != 0) M := rfl
theorem x_asB {k : Bool} : asB (.bl k) M = .ok k M := rfl
/-! statements -/
def contS (b : LS) (r : Fl × Env) (M : Mem) : Res (Fl × Env) := match r.1 with
  | .nx => b r.2 M
  | _ => .ok r M
theorem x_cnx {b : LS} : contS b (.nx, L) M = b L M := rfl
theorem x_crt {b : LS} : contS b (.rt d, L) M = .ok (.rt d, L) M := rfl
theorem x_cbk {b : LS} : contS b (.bk, L) M = .ok (.bk, L) M := rfl
theorem x_cct {b : LS} : contS b (.ct, L) M = .ok (.ct, L) M := rfl
theorem x_cxc {b : LS} {e : Exn} : contS b (.xc e, L) M = .ok (.xc e, L) M := rfl
theorem x_sSeq {a b : LS} : sSeq a b L M = (a L M).bind (contS b) := by
  unfold sSeq
  congr 1
theorem x_sNil : sNil L M = .ok (.nx, L) M := rfl
theorem x_sBrk : sBrk L M = .ok (.bk, L) M := rfl
theorem x_sCnt : sCnt L M = .ok (.ct, L) M := rfl
def kEx {α : Type} (L : Env) (_ : α) (M : Mem) : Res (Fl × Env) := .ok (.nx, L) M
theorem x_kEx {u : α} : kEx L u M = .ok (.nx, L) M := rfl
def kSet (i : Nat) (L : Env) (d : D) (M : Mem) : Res (Fl × Env) := .ok (.nx, L.set i (some d)) M
theorem x_kSet : kSet i L d M = .ok (.nx, L.set i (some d)) M := rfl
theorem x_sEx : sEx a L M = outE L (a L M) (kEx L) := rfl
theorem x_sSet : sSet i a L M = outE L (a L M) (kSet i L) := rfl
def putsL : List Nat → List D → Env → Option Env
  | [], [], L => some L
  | i :: is, d :: ds, L => putsL is ds (L.set i (some d))
  | _, _, _ => none
theorem x_puts {is : List Nat} {ds : List D} : (if ds.length = is.length then some ((is.zip ds).foldl (fun L p => L.set p.1 (some p.2)) L) else none) = putsL is ds L := by
  induction is generalizing ds L with
  | nil => cases ds with
    | nil => simp [putsL]
    | cons d ds => simp [putsL]
  | cons i is ih => cases ds with
    | nil => simp [putsL]
    | cons d ds =>
      simp only [putsL, ← ih, List.length_cons, Nat.add_right_cancel_iff, List.zip_cons_cons, List.foldl_cons]
def okO : Option Env → Mem → Res (Fl × Env)
  | some L, M => .ok (.nx, L) M
  | none, _ => .no
theorem x_okO : okO (some L) M = .ok (.nx, L) M := rfl
theorem x_putsN : putsL [] [] L = some L := rfl
theorem x_putsC {is : List Nat} {ds : List D} : putsL (i :: is) (d :: ds) L = putsL is ds (L.set i (some d)) := rfl
def kPar (is : List Nat) (L : Env) (ds : List D) (M : Mem) : Res (Fl × Env) := okO (putsL is ds L) M
theorem x_kPar {is : List Nat} {ds : List D} : kPar is L ds M = okO (putsL is ds L) M := rfl
theorem x_sPar {is : List Nat} : sPar is al L M = outE L (al L M) (kPar is L) := by
  show _ = outE L (al L M) fun ds M1 => okO (putsL is ds L) M1
  have : ∀ ds M1, okO (putsL is ds L) M1 = if ds.length = is.length then .ok (.nx, (is.zip ds).foldl (fun L p => L.set p.1 (some p.2)) L) M1 else .no := fun ds M1 => by
    rw [← x_puts]
    split <;> rfl
  simp only [sPar, this]
def kRet (L : Env) (d : D) (M : Mem) : Res (Fl × Env) := .ok (.rt d, L) M
theorem x_kRet : kRet L d M = .ok (.rt d, L) M := rfl
theorem x_sRet : sRet a L M = outE L (a L M) (kRet L) := rfl
theorem x_sRetN : sRetN L M = .ok (.rt .non, L) M := rfl
theorem x_sIf {c : LT} {a b : LS} : sIf c a b L M = outE L (c L M) (kIf a b L) := rfl
def kSb1 (a b : LE) (L : Env) (x : D) (M : Mem) : Res Unit := (a L M).bind fun y M2 => (b L M2).bind fun z M3 => dSet y z x M3
def kSb2 (b : LE) (L : Env) (x y : D) (M : Mem) : Res Unit := (b L M).bind fun z M3 => dSet y z x M3
def kSb3 (x y z : D) (M : Mem) : Res Unit := dSet y z x M
theorem x_kSb3 {y z : D} : kSb3 x y z M = dSet y z x M := rfl
theorem x_kSb2 {y : D} : kSb2 b L x y M = (b L M).bind (kSb3 x y) := rfl
theorem x_kSb1 : kSb1 a b L x M = (a L M).bind (kSb2 b L x) := rfl
theorem x_sSub {v : LE} : sSub a b v L M = outE L ((v L M).bind (kSb1 a b L)) (kEx L) := rfl
def kAsg (p : Pat) (L : Env) (d : D) (M : Mem) : Res (Fl × Env) := okO (p.put d L) M
theorem x_kAsg {p : Pat} : kAsg p L d M = okO (p.put d L) M := rfl
theorem x_sAsg {p : Pat} : sAsg p a L M = outE L (a L M) (kAsg p L) := by
  unfold sAsg kAsg
  congr 1
  funext d M1
  cases p.put d L <;> rfl
theorem x_pnm : (Pat.nm i).put d L = some (L.set i (some d)) := rfl
theorem x_ptp {is : List Nat} {ds : List D} : (Pat.tp is).put (.tup ds) L = putsL is ds L := by
  rw [← x_puts]; rfl
def kFor (p : Pat) (b : LS) (L : Env) (v : IV) (M : Mem) : Res (Fl × Env) := forL v p b (v.size M + 1) 0 L M
theorem x_kFor {p : Pat} {b : LS} {v : IV} : kFor p b L v M = forL v p b (v.size M + 1) 0 L M := rfl
theorem x_sFor {it : LI} {p : Pat} {b : LS} : sFor it p b L M = outE L (it L M) (kFor p b L) := rfl
def itD (d : D) (M : Mem) : Res IV := match d with
  | .tup ds => .ok (.tup ds) M
  | .loc n => match M[n]? with
    | some _ => .ok (.loc n) M
    | none => .no
  | _ => .no
theorem x_itT {ds : List D} : itD (.tup ds) M = .ok (.tup ds) M := rfl
theorem x_itL {n : Nat} {o : O} (h : M[n]? = some o) : itD (.loc n) M = .ok (.loc n) M := by simp only [itD, h]
def r1D (d : D) (M : Mem) : Res IV := match d with
  | .int j => if -1000000000 ≤ j ∧ j ≤ 1000000000 then .ok (.rng 0 j.toNat) M else .no
  | _ => .no
theorem x_r1 {n : Nat} (h : n ≤ 1000000000) : r1D (.int n) M = .ok (.rng 0 n) M := by
  simp only [r1D]
  rw [if_pos ⟨by omega, by omega⟩, Int.toNat_natCast]
def r2D (d e : D) (M : Mem) : Res IV := match d, e with
  | .int i, .int j => if -1000000000 ≤ i ∧ i ≤ 1000000000 ∧ -1000000000 ≤ j ∧ j ≤ 1000000000 then .ok (.rng i (j - i).toNat) M else .no
  | _, _ => .no
theorem x_iR1 : iR1 a L M = (a L M).bind r1D := by
  unfold iR1
  congr 1
def kR2 (b : LE) (L : Env) (x : D) (M : Mem) : Res IV := (b L M).bind (r2D x)
theorem x_kR2 : kR2 b L x M = (b L M).bind (r2D x) := rfl
theorem x_iR2 : iR2 a b L M = (a L M).bind (kR2 b L) := by
  unfold iR2
  congr 1
theorem x_iE : iE a L M = (a L M).bind itD := by
  unfold iE
  congr 1
theorem x_tY : tY L M = .ok true M := rfl
def kLc (p : Pat) (tt : LT) (te : LE) (vs : List Nat) (L : Env) (v : IV) (M : Mem) : Res D := lcL v p tt te M.length (v.size M + 1) 0 (wipeL L vs) (M ++ [.lst []])
theorem x_kLc {p : Pat} {tt : LT} {vs : List Nat} {v : IV} : kLc p tt a vs L v M = lcL v p tt a M.length (v.size M + 1) 0 (wipeL L vs) (M ++ [.lst []]) := rfl
theorem x_eLc {it : LI} {p : Pat} {tt : LT} {vs : List Nat} : eLc it p tt a vs L M = (it L M).bind (kLc p tt a vs L) := rfl
theorem x_wN : wipeL L [] = L := rfl
theorem x_wC {vs : List Nat} : wipeL L (i :: vs) = (wipeL L vs).set i none := rfl
end
/-- r ends with a value of which Q holds -/
def T {α : Type} (r : Res α) (Q : α → Mem → Prop) : Prop := match r with
  | .ok a M => Q a M
  | _ => False
theorem T.get {α : Type} {r : Res α} {Q : α → Mem → Prop} (h : T r Q) : ∃ a M, r = .ok a M ∧ Q a M := by
  cases r with
  | ok a M => exact ⟨a, M, rfl, h⟩
  | ex _ _ => exact h.elim
  | no => exact h.elim
theorem T.ok {α : Type} {r : Res α} {Q : α → Mem → Prop} {a : α} {M : Mem} (e : r = .ok a M) (h : Q a M) : T r Q := by subst e; exact h
theorem T.bind {α β : Type} {r : Res α} {f : α → Mem → Res β} {Q : β → Mem → Prop} (h : T r fun a M => T (f a M) Q) : T (r.bind f) Q := by
  cases r with
  | ok a M => exact h
  | ex _ _ => exact h.elim
  | no => exact h.elim
theorem T.mono {α : Type} {r : Res α} {P Q : α → Mem → Prop} (h : T r P) (l : ∀ a M, P a M → Q a M) : T r Q := by
  cases r with
  | ok a M => exact l _ _ h
  | ex _ _ => exact h.elim
  | no => exact h.elim

theorem T_ok {α : Type} {a : α} {M : Mem} {Q : α → Mem → Prop} : T (.ok a M) Q = Q a M := rfl
end G

/-! P1: plain law: loops by invariants, memories, the pen. No program in sight. -/
namespace G
open PySem L2

/-! ### memories -/
/-- all but the places S stands; the memory grows -/
def Kp (S : Nat → Prop) (M M' : Mem) : Prop := M.length ≤ M'.length ∧ ∀ i, i < M.length → ¬ S i → M'[i]? = M[i]?
abbrev N0 : Nat → Prop := fun _ => False
abbrev N1 (p : Nat) : Nat → Prop := fun i => i = p
theorem Kp.refl {S : Nat → Prop} (M : Mem) : Kp S M M := ⟨Nat.le_refl _, fun _ _ _ => rfl⟩
theorem Kp.trans {S : Nat → Prop} {A B C : Mem} (x : Kp S A B) (y : Kp S B C) : Kp S A C := ⟨Nat.le_trans x.1 y.1, fun i h s => by rw [y.2 i (Nat.lt_of_lt_of_le h x.1) s, x.2 i h s]⟩
theorem Kp.weak {S T : Nat → Prop} {A B : Mem} (x : Kp S A B) (h : ∀ i, i < A.length → S i → T i) : Kp T A B := ⟨x.1, fun i hi t => x.2 i hi fun s => t (h i hi s)⟩
theorem Kp.of0 {S : Nat → Prop} {A B : Mem} (x : Kp N0 A B) : Kp S A B := x.weak fun _ _ h => h.elim
theorem Kp.push {S : Nat → Prop} (M : Mem) (o : O) : Kp S M (M ++ [o]) := ⟨by simp, fun i h _ => List.getElem?_append_left h⟩
theorem Kp.set {M : Mem} {p : Nat} {o : O} : Kp (N1 p) M (M.set p o) := ⟨by simp, fun i _ s => List.getElem?_set_ne (Ne.symm s)⟩
theorem Kp.at {S : Nat → Prop} {A B : Mem} (x : Kp S A B) {i : Nat} {o : O} (h : A[i]? = some o) (s : ¬ S i) : B[i]? = some o := by
  rw [x.2 i (List.getElem?_eq_some_iff.mp h).1 s]; exact h
theorem mem_lt {M : Mem} {i : Nat} {o : O} (h : M[i]? = some o) : i < M.length := (List.getElem?_eq_some_iff.mp h).1
theorem Kp.lt {S : Nat → Prop} {A B : Mem} (x : Kp S A B) {i : Nat} (h : i < A.length) : i < B.length := Nat.lt_of_lt_of_le h x.1
theorem push_at (M : Mem) (o : O) : (M ++ [o])[M.length]? = some o := by rw [List.getElem?_append_right (Nat.le_refl _), Nat.sub_self]; rfl
theorem set_at {M : Mem} {i : Nat} {o : O} (h : i < M.length) : (M.set i o)[i]? = some o := List.getElem?_set_self h

/-! ### loops -/
/-- a for that runs through: n turns, each keeps I -/
theorem forL_all {v : IV} {p : Pat} {b : LS} {n : Nat} (I : Nat → Env → Mem → Prop) (hs : ∀ i L M, i < n → I i L M → ∃ d L1, v.at i M = some d ∧ p.put d L = some L1 ∧ ∃ fl L2 M2, b L1 M = .ok (fl, L2) M2 ∧ (fl = .nx ∨ fl = .ct) ∧ I (i + 1) L2 M2)
    (he : ∀ L M, I n L M → v.at n M = none) : ∀ (f i : Nat) (L : Env) (M : Mem), I i L M → i ≤ n → n - i < f → ∃ L' M', forL v p b f i L M = .ok (.nx, L') M' ∧ I n L' M'
  | 0, _, _, _, _, _, h => absurd h (Nat.not_lt_zero _)
  | f + 1, i, L, M, hI, hi, hf => by
    by_cases q : i = n
    · subst q
      refine ⟨L, M, ?_, hI⟩
      simp only [forL, he L M hI]
    · obtain ⟨d, L1, h1, h2, fl, L2, M2, h3, h4, h5⟩ := hs i L M (by omega) hI
      obtain ⟨L', M', g1, g2⟩ := forL_all I hs he f (i + 1) L2 M2 h5 (by omega) (by omega)
      refine ⟨L', M', ?_, g2⟩
      simp only [forL, h1, h2, h3, Res.bind]
      rcases h4 with rfl | rfl <;> exact g1
/-- a comprehension that runs through -/
theorem lcL_all {v : IV} {p : Pat} {tt : LT} {te : LE} {n m : Nat} {L : Env} (I : Nat → List D → Mem → Prop)
    (hs : ∀ i acc M, i < n → I i acc M → M[m]? = some (.lst acc) ∧ ∃ d L1, v.at i M = some d ∧ p.put d L = some L1 ∧ ∃ k M1, tt L1 M = .ok k M1 ∧
      ((k = false ∧ I (i + 1) acc M1) ∨ (k = true ∧ ∃ y M2, te L1 M1 = .ok y M2 ∧ M2[m]? = some (.lst acc) ∧ acc.length < big ∧ I (i + 1) (acc ++ [y]) (M2.set m (.lst (acc ++ [y]))))))
    (he : ∀ acc M, I n acc M → v.at n M = none) : ∀ (f i : Nat) (acc : List D) (M : Mem), I i acc M → i ≤ n → n - i < f → ∃ acc' M', lcL v p tt te m f i L M = .ok (.loc m) M' ∧ I n acc' M'
  | 0, _, _, _, _, _, h => absurd h (Nat.not_lt_zero _)
  | f + 1, i, acc, M, hI, hi, hf => by
    by_cases q : i = n
    · subst q
      refine ⟨acc, M, ?_, hI⟩
      simp only [lcL, he acc M hI]
    · obtain ⟨h0, d, L1, h1, h2, k, M1, h3, h4⟩ := hs i acc M (by omega) hI
      rcases h4 with ⟨rfl, h5⟩ | ⟨rfl, y, M2, h5, h6, h7, h8⟩
      · obtain ⟨acc', M', g1, g2⟩ := lcL_all I hs he f (i + 1) acc M1 h5 (by omega) (by omega)
        refine ⟨acc', M', ?_, g2⟩
        simp only [lcL, h1, h2, h3, noX, Res.bind, Bool.false_eq_true, if_false]
        exact g1
      · obtain ⟨acc', M', g1, g2⟩ := lcL_all I hs he f (i + 1) (acc ++ [y]) _ h8 (by omega) (by omega)
        refine ⟨acc', M', ?_, g2⟩
        simp only [lcL, h1, h2, h3, noX, Res.bind, if_true, h5, h6, h7]
        exact g1
theorem rng_at {lo : Int} {n i : Nat} {M : Mem} (h : i < n) : (IV.rng lo n).at i M = some (.int (lo + i)) := by simp only [IV.at, h, if_true]
theorem rng_end {lo : Int} {n : Nat} {M : Mem} : (IV.rng lo n).at n M = none := by simp only [IV.at, Nat.lt_irrefl, if_false]

/-! ### the pen: three ints; what is drawn, how it turns -/
def drawV (a b c n : Int) : Int := if 0 < a then a.fmod n else
  let b' := (b * 48271 + 1009 * (c + 1) + 7).fmod 2147483647
  let s := (b' * b' + 69621 * b' + 11).fmod 2147483629
  let s' := (s * s + 40014 * s).fmod 2147483587
  (s'.fdiv 16).fmod n
def drawA (a n : Int) : Int := if 0 < a then a.fdiv n else a
def drawB (a b c : Int) : Int := if 0 < a then b else (b * 48271 + 1009 * (c + 1) + 7).fmod 2147483647
def drawC (a c : Int) : Int := if 0 < a then c else c + 1
theorem fmod_lt {a b : Int} (h : 0 < b) : 0 ≤ a.fmod b ∧ a.fmod b < b := by
  rw [Int.fmod_eq_emod_of_nonneg a (Int.le_of_lt h)]
  exact ⟨Int.emod_nonneg _ (by omega), Int.emod_lt_of_pos _ h⟩
theorem drawV_lt {a b c n : Int} (h : 0 < n) : 0 ≤ drawV a b c n ∧ drawV a b c n < n := by
  unfold drawV
  split
  · exact fmod_lt h
  · exact fmod_lt h
/-- the pen stands at p; t bounds how often it was drawn from -/
def PenAt (t p : Nat) (M : Mem) : Prop := ∃ a b c : Int, M[p]? = some (.lst [.int a, .int b, .int c]) ∧ 0 ≤ a ∧ 0 ≤ b ∧ b < 2147483648 ∧ 0 ≤ c ∧ c ≤ t
theorem PenAt.lt {t p : Nat} {M : Mem} (h : PenAt t p M) : p < M.length := let ⟨_, _, _, h, _⟩ := h; mem_lt h
theorem PenAt.mono {t u p : Nat} {M : Mem} (h : PenAt t p M) (l : t ≤ u) : PenAt u p M := by
  obtain ⟨a, b, c, h1, h2, h3, h4, h5, h6⟩ := h
  exact ⟨a, b, c, h1, h2, h3, h4, h5, by omega⟩
theorem PenAt.kp {t p : Nat} {S : Nat → Prop} {M M' : Mem} (h : PenAt t p M) (k : Kp S M M') (s : ¬ S p) : PenAt t p M' := by
  obtain ⟨a, b, c, h1, h2⟩ := h
  exact ⟨a, b, c, k.at h1 s, h2⟩
theorem natAbs_lt {i : Int} {n : Nat} (h0 : 0 ≤ i) (h : i < ((n : Nat) : Int)) : i.natAbs < n := by omega
theorem log_le {i : Int} {n : Nat} (h : i.natAbs < 2 ^ n) (hn : 0 < n) : i.natAbs.log2 < n := PySem.Flt.log2_lt_of hn h
theorem mul_ok {i j : Int} {M : Mem} {a b : Nat} (ha : i.natAbs < 2 ^ a) (hb : j.natAbs < 2 ^ b) (h0 : 0 < a) (h1 : 0 < b) (h : a + b ≤ 1000000) : dMul (.int i) (.int j) M = .ok (.int (i * j)) M := by
  have x := log_le ha h0
  have y := log_le hb h1
  simp only [dMul]
  rw [if_pos (by omega)]
theorem div_ok {i j : Int} {M : Mem} {b : Nat} (h : 0 < j) (hb : j.natAbs < 2 ^ b) (h0 : 0 < b) (h9 : b ≤ 9000) : dDiv (.int i) (.int j) M = .ok (.int (i.fdiv j)) M := by
  have y := log_le hb h0
  simp only [dDiv]
  rw [if_pos ⟨by omega, by omega⟩]
theorem mod_ok {i j : Int} {M : Mem} (h : j ≠ 0) : dMod (.int i) (.int j) M = .ok (.int (i.fmod j)) M := by
  simp only [dMod]
  rw [if_pos h]
end G

/-! P2: plain law: the laws' own helpers. -/
namespace G
open PySem L2

/-! ### places read -/
theorem ix_at {M : Mem} {p : Nat} {ds : List D} {i : Nat} {d : D} (h : M[p]? = some (.lst ds)) (g : ds[i]? = some d) : dIx (.loc p) (.int i) M = .ok d M := by
  simp only [dIx, h, O.items, atI_nat g]
theorem ix_atR {M : Mem} {p : Nat} {ds : List D} {i : Nat} {d : D} (h : M[p]? = some (.rol ds)) (g : ds[i]? = some d) : dIx (.loc p) (.int i) M = .ok d M := by
  simp only [dIx, h, O.items, atI_nat g]
theorem ix_tup {M : Mem} {ds : List D} {i : Nat} {d : D} (g : ds[i]? = some d) : dIx (.tup ds) (.int i) M = .ok d M := by
  simp only [dIx, atI_nat g]
theorem set_ok {M : Mem} {p : Nat} {ds : List D} {i : Nat} {v : D} (h : M[p]? = some (.lst ds)) (g : i < ds.length) : dSet (.loc p) (.int i) v M = .ok () (M.set p (.lst (ds.set i v))) := by
  have e : ixN ds.length (i : Int) = some i := by
    unfold ixN
    rw [if_pos (by omega), if_pos (by omega)]
    simp
  simp only [dSet, h, e]
theorem len_at {M : Mem} {p : Nat} {ds : List D} (h : M[p]? = some (.lst ds)) : bLen [.loc p] M = .ok (.int ds.length) M := by simp only [bLen, itemsD, h, O.items]
theorem len_atR {M : Mem} {p : Nat} {ds : List D} (h : M[p]? = some (.rol ds)) : bLen [.loc p] M = .ok (.int ds.length) M := by simp only [bLen, itemsD, h, O.items]
theorem len_tup {M : Mem} {ds : List D} : bLen [.tup ds] M = .ok (.int ds.length) M := by simp only [bLen, itemsD]

/-! ### draw -/
def L_draw : LS :=
  (sSeq (sIf (tCm (dCmpI fun i j => decide (j < i)) (eB dIx (eV 0) (eC (.int 0))) (eC (.int 0)))
  (sSeq (sSet 2 (eB dMod (eB dIx (eV 0) (eC (.int 0))) (eV 1)))
  (sSeq (sSub (eV 0) (eC (.int 0)) (eB dDiv (eB dIx (eV 0) (eC (.int 0))) (eV 1)))
  (sRet (eV 2))))
  sNil)
  (sSeq (sSub (eV 0) (eC (.int 2)) (eB dAdd (eB dIx (eV 0) (eC (.int 2))) (eC (.int 1))))
  (sSeq (sSub (eV 0) (eC (.int 1)) (eB dMod (eB dAdd (eB dAdd (eB dMul (eB dIx (eV 0) (eC (.int 1))) (eC (.int 48271))) (eB dMul (eC (.int 1009)) (eB dIx (eV 0) (eC (.int 2))))) (eC (.int 7))) (eC (.int 2147483647))))
  (sSeq (sSet 3 (eB dMod (eB dAdd (eB dAdd (eB dMul (eB dIx (eV 0) (eC (.int 1))) (eB dIx (eV 0) (eC (.int 1)))) (eB dMul (eC (.int 69621)) (eB dIx (eV 0) (eC (.int 1))))) (eC (.int 11))) (eC (.int 2147483629))))
  (sSeq (sSet 3 (eB dMod (eB dAdd (eB dMul (eV 3) (eV 3)) (eB dMul (eC (.int 40014)) (eV 3))) (eC (.int 2147483587))))
  (sRet (eB dMod (eB dDiv (eV 3) (eC (.int 16))) (eV 1))))))))
theorem pen0 {M : Mem} {p : Nat} {a b c : D} (h : M[p]? = some (.lst [a, b, c])) : dIx (.loc p) (.int 0) M = .ok a M := ix_at (i := 0) h rfl
theorem pen1 {M : Mem} {p : Nat} {a b c : D} (h : M[p]? = some (.lst [a, b, c])) : dIx (.loc p) (.int 1) M = .ok b M := ix_at (i := 1) h rfl
theorem pen2 {M : Mem} {p : Nat} {a b c : D} (h : M[p]? = some (.lst [a, b, c])) : dIx (.loc p) (.int 2) M = .ok c M := ix_at (i := 2) h rfl
theorem pset0 {M : Mem} {p : Nat} {a b c v : D} (h : M[p]? = some (.lst [a, b, c])) : dSet (.loc p) (.int 0) v M = .ok () (M.set p (.lst [v, b, c])) := set_ok (i := 0) h (Nat.lt_of_sub_eq_succ rfl)
theorem pset1 {M : Mem} {p : Nat} {a b c v : D} (h : M[p]? = some (.lst [a, b, c])) : dSet (.loc p) (.int 1) v M = .ok () (M.set p (.lst [a, v, c])) := set_ok (i := 1) h (Nat.lt_of_sub_eq_succ rfl)
theorem pset2 {M : Mem} {p : Nat} {a b c v : D} (h : M[p]? = some (.lst [a, b, c])) : dSet (.loc p) (.int 2) v M = .ok () (M.set p (.lst [a, b, v])) := set_ok (i := 2) h (Nat.lt_of_sub_eq_succ rfl)
theorem draw_eq {p : Nat} {M : Mem} {a b c n : Int} {m : Nat} (h : M[p]? = some (.lst [.int a, .int b, .int c])) (hb0 : 0 ≤ b) (hb : b < 2147483648) (hc0 : 0 ≤ c) (hc : c < 18446744073709551616) (hn : 0 < n) (hnm : n.natAbs < 2 ^ m) (hm : m ≤ 9000) (hm0 : 0 < m) :
    retF (L_draw [some (.loc p), some (.int n), none, none] M) = .ok (.int (drawV a b c n)) (M.set p (.lst [.int (drawA a n), .int (drawB a b c), .int (drawC a c)])) := by
  have hl := mem_lt h
  by_cases ha : 0 < a
  · simp only [L_draw, bind_ok, bind_ex, outE_ok, outE_ex, retF_nx, retF_rt, retF_xc, x_optR, x_eV, x_eC, x_kB, x_eB, x_eU, x_eF, x_kM, x_eM, x_ift, x_iff, x_eIf, x_kTup, x_kLst, x_eTup, x_eLst, x_aN, x_kCc, x_kC, x_aC, x_tV, x_kCn, x_kCm, x_tCm, x_okB, x_tA, x_tO, x_kN, x_tN, x_tCh, x_kCj, x_kCi, x_kCh, x_eCh, x_kNb, x_kAn, x_kOr, x_kNo, x_eAnd, x_eOr, x_eNot, x_kCl, x_eCall, x_kS2, x_kS1, x_eSl, x_oN, x_asO, x_oS, x_mLoc, x_kML, x_eML, x_kM0, x_kMl0, x_eML0, x_truB, x_truI, x_asB, x_cnx, x_crt, x_cbk, x_cct, x_cxc, x_sSeq, x_sNil, x_sBrk, x_sCnt, x_kEx, x_kSet, x_sEx, x_sSet, x_okO, x_putsN, x_putsC, x_kPar, x_sPar, x_kRet, x_sRet, x_sRetN, x_sIf, x_kSb3, x_kSb2, x_kSb1, x_sSub, x_kAsg, x_sAsg, x_pnm, x_ptp, x_kFor, x_sFor, x_itT, x_iR1, x_kR2, x_iR2, x_iE, x_tY, x_wN, x_wC, List.getElem?_cons_zero, List.getElem?_cons_succ, List.set_cons_zero, List.set_cons_succ, List.append_nil, List.nil_append, List.cons_append, List.length_cons, List.length_nil, Nat.reduceLeDiff, Nat.reduceAdd, Bool.not_true, Bool.not_false, T_ok, true_or, true_and, and_true, if_true, if_false, pen0 h, pset0 h, dCmpI, ha, decide_true, mod_ok (i := a) (M := M) (Int.ne_of_gt hn), div_ok (i := a) (M := M) hn hnm hm0 hm, drawV, drawA, drawB, drawC]
  · have s2 := set_at (o := .lst [.int a, .int b, .int (c + 1)]) hl
    have x1 : b.natAbs < 2 ^ 31 := by omega
    have x2 : (c + 1).natAbs < 2 ^ 65 := by omega
    have x3 := @fmod_lt (b * 48271 + 1009 * (c + 1) + 7) 2147483647 (by omega)
    have s3 := @set_at (M.set p (.lst [.int a, .int b, .int (c + 1)])) p (.lst [.int a, .int ((b * 48271 + 1009 * (c + 1) + 7).fmod 2147483647), .int (c + 1)]) (by simpa using hl)
    rw [List.set_set] at s3
    generalize hb' : (b * 48271 + 1009 * (c + 1) + 7).fmod 2147483647 = b' at x3 s3
    have x4 : b'.natAbs < 2 ^ 31 := by omega
    have x5 := @fmod_lt (b' * b' + 69621 * b' + 11) 2147483629 (by omega)
    generalize hs : (b' * b' + 69621 * b' + 11).fmod 2147483629 = s at x5
    have x6 : s.natAbs < 2 ^ 31 := by omega
    simp only [L_draw, bind_ok, bind_ex, outE_ok, outE_ex, retF_nx, retF_rt, retF_xc, x_optR, x_eV, x_eC, x_kB, x_eB, x_eU, x_eF, x_kM, x_eM, x_ift, x_iff, x_eIf, x_kTup, x_kLst, x_eTup, x_eLst, x_aN, x_kCc, x_kC, x_aC, x_tV, x_kCn, x_kCm, x_tCm, x_okB, x_tA, x_tO, x_kN, x_tN, x_tCh, x_kCj, x_kCi, x_kCh, x_eCh, x_kNb, x_kAn, x_kOr, x_kNo, x_eAnd, x_eOr, x_eNot, x_kCl, x_eCall, x_kS2, x_kS1, x_eSl, x_oN, x_asO, x_oS, x_mLoc, x_kML, x_eML, x_kM0, x_kMl0, x_eML0, x_truB, x_truI, x_asB, x_cnx, x_crt, x_cbk, x_cct, x_cxc, x_sSeq, x_sNil, x_sBrk, x_sCnt, x_kEx, x_kSet, x_sEx, x_sSet, x_okO, x_putsN, x_putsC, x_kPar, x_sPar, x_kRet, x_sRet, x_sRetN, x_sIf, x_kSb3, x_kSb2, x_kSb1, x_sSub, x_kAsg, x_sAsg, x_pnm, x_ptp, x_kFor, x_sFor, x_itT, x_iR1, x_kR2, x_iR2, x_iE, x_tY, x_wN, x_wC, List.getElem?_cons_zero, List.getElem?_cons_succ, List.set_cons_zero, List.set_cons_succ, List.append_nil, List.nil_append, List.cons_append, List.length_cons, List.length_nil, Nat.reduceLeDiff, Nat.reduceAdd, Bool.not_true, Bool.not_false, T_ok, true_or, true_and, and_true, if_true, if_false, pen0 h, pen2 h, pset2 h, dCmpI, ha, decide_false, dAdd, pen1 s2, pen2 s2, pset1 s2,
      fun M => @mul_ok b 48271 M 31 16 x1 (by decide) (by omega) (by omega) (by omega),
      fun M => @mul_ok 1009 (c + 1) M 10 65 (by decide) x2 (by omega) (by omega) (by omega), fun M i => @mod_ok i 2147483647 M (by omega), fun M i => @mod_ok i 2147483629 M (by omega), fun M i => @mod_ok i 2147483587 M (by omega), hb', pen1 s3,
      fun M => @mul_ok b' b' M 31 31 x4 x4 (by omega) (by omega) (by omega), fun M => @mul_ok 69621 b' M 17 31 (by decide) x4 (by omega) (by omega) (by omega), hs,
      fun M => @mul_ok s s M 31 31 x6 x6 (by omega) (by omega) (by omega), fun M => @mul_ok 40014 s M 17 31 (by decide) x6 (by omega) (by omega) (by omega),
      fun M i => @div_ok i 16 M 5 (by omega) (by decide) (by omega) (by omega), fun M i => @mod_ok i n M (Int.ne_of_gt hn), drawV, drawA, drawB, drawC, List.set_set]
theorem draw_pen {t p : Nat} {M : Mem} {n : Int} {m : Nat} (h : PenAt t p M) (ht : t < 18446744073709551616) (hn : 0 < n) (hnm : n.natAbs < 2 ^ m) (hm : m ≤ 9000) (hm0 : 0 < m) :
    ∃ v M', retF (L_draw [some (.loc p), some (.int n), none, none] M) = .ok (.int v) M' ∧ 0 ≤ v ∧ v < n ∧ PenAt (t + 1) p M' ∧ Kp (N1 p) M M' ∧ M'.length = M.length := by
  obtain ⟨a, b, c, h1, h2, h3, h4, h5, h6⟩ := h
  refine ⟨_, _, draw_eq h1 h3 h4 h5 (by omega) hn hnm hm hm0, (drawV_lt hn).1, (drawV_lt hn).2, ?_, Kp.set, by simp⟩
  refine ⟨_, _, _, set_at (mem_lt h1), ?_, ?_, ?_, ?_, ?_⟩
  · unfold drawA; split
    · rw [Int.fdiv_eq_ediv_of_nonneg _ (Int.le_of_lt hn)]; exact Int.ediv_nonneg h2 (Int.le_of_lt hn)
    · exact h2
  · unfold drawB; split
    · exact h3
    · exact (fmod_lt (by omega)).1
  · unfold drawB; split
    · exact h4
    · exact Int.lt_trans (fmod_lt (by omega)).2 (by omega)
  · unfold drawC; split <;> omega
  · unfold drawC; split <;> omega

/-! ### cell, pen -/
def L_cell : LS :=
  (sSeq (sIf (tCm (dCmpI fun i j => decide (i < j)) (eV 1) (eF bLen (aC (eV 0) aN)))
  (sRet (eB dIx (eV 0) (eV 1)))
  sNil)
  (sRet (eC (.int 0))))
def L_pen : LS :=
  (sRet (eLst (aC (eF bMax (aC (eC (.int 0)) (aC (eB dSub (eV 0) (eB dPow (eC (.int 10)) (eC (.int 18)))) aN))) (aC (eB dAdd (eB dMod (eV 0) (eC (.int 2147483629))) (eC (.int 1))) (aC (eC (.int 0)) aN)))))
theorem cell_ok {M : Mem} {p : Nat} {ns : List Int} {k : Nat} (h : M[p]? = some (.rol (ns.map D.int))) : ∃ v : Int, retF (L_cell [some (.loc p), some (.int k)] M) = .ok (.int v) M := by
  by_cases q : k < ns.length
  · refine ⟨ns[k], ?_⟩
    have g : (ns.map D.int)[k]? = some (.int ns[k]) := by rw [List.getElem?_map, List.getElem?_eq_getElem q]; rfl
    simp only [L_cell, bind_ok, bind_ex, outE_ok, outE_ex, retF_nx, retF_rt, retF_xc, x_optR, x_eV, x_eC, x_kB, x_eB, x_eU, x_eF, x_kM, x_eM, x_ift, x_iff, x_eIf, x_kTup, x_kLst, x_eTup, x_eLst, x_aN, x_kCc, x_kC, x_aC, x_tV, x_kCn, x_kCm, x_tCm, x_okB, x_tA, x_tO, x_kN, x_tN, x_tCh, x_kCj, x_kCi, x_kCh, x_eCh, x_kNb, x_kAn, x_kOr, x_kNo, x_eAnd, x_eOr, x_eNot, x_kCl, x_eCall, x_kS2, x_kS1, x_eSl, x_oN, x_asO, x_oS, x_mLoc, x_kML, x_eML, x_kM0, x_kMl0, x_eML0, x_truB, x_truI, x_asB, x_cnx, x_crt, x_cbk, x_cct, x_cxc, x_sSeq, x_sNil, x_sBrk, x_sCnt, x_kEx, x_kSet, x_sEx, x_sSet, x_okO, x_putsN, x_putsC, x_kPar, x_sPar, x_kRet, x_sRet, x_sRetN, x_sIf, x_kSb3, x_kSb2, x_kSb1, x_sSub, x_kAsg, x_sAsg, x_pnm, x_ptp, x_kFor, x_sFor, x_itT, x_iR1, x_kR2, x_iR2, x_iE, x_tY, x_wN, x_wC, List.getElem?_cons_zero, List.getElem?_cons_succ, List.set_cons_zero, List.set_cons_succ, List.append_nil, List.nil_append, List.cons_append, List.length_cons, List.length_nil, Nat.reduceLeDiff, Nat.reduceAdd, Bool.not_true, Bool.not_false, T_ok, true_or, true_and, and_true, if_true, if_false, len_atR h, List.length_map, dCmpI, Int.ofNat_lt, q, decide_true, ix_atR h g]
  · refine ⟨0, ?_⟩
    simp only [L_cell, bind_ok, bind_ex, outE_ok, outE_ex, retF_nx, retF_rt, retF_xc, x_optR, x_eV, x_eC, x_kB, x_eB, x_eU, x_eF, x_kM, x_eM, x_ift, x_iff, x_eIf, x_kTup, x_kLst, x_eTup, x_eLst, x_aN, x_kCc, x_kC, x_aC, x_tV, x_kCn, x_kCm, x_tCm, x_okB, x_tA, x_tO, x_kN, x_tN, x_tCh, x_kCj, x_kCi, x_kCh, x_eCh, x_kNb, x_kAn, x_kOr, x_kNo, x_eAnd, x_eOr, x_eNot, x_kCl, x_eCall, x_kS2, x_kS1, x_eSl, x_oN, x_asO, x_oS, x_mLoc, x_kML, x_eML, x_kM0, x_kMl0, x_eML0, x_truB, x_truI, x_asB, x_cnx, x_crt, x_cbk, x_cct, x_cxc, x_sSeq, x_sNil, x_sBrk, x_sCnt, x_kEx, x_kSet, x_sEx, x_sSet, x_okO, x_putsN, x_putsC, x_kPar, x_sPar, x_kRet, x_sRet, x_sRetN, x_sIf, x_kSb3, x_kSb2, x_kSb1, x_sSub, x_kAsg, x_sAsg, x_pnm, x_ptp, x_kFor, x_sFor, x_itT, x_iR1, x_kR2, x_iR2, x_iE, x_tY, x_wN, x_wC, List.getElem?_cons_zero, List.getElem?_cons_succ, List.set_cons_zero, List.set_cons_succ, List.append_nil, List.nil_append, List.cons_append, List.length_cons, List.length_nil, Nat.reduceLeDiff, Nat.reduceAdd, Bool.not_true, Bool.not_false, T_ok, true_or, true_and, and_true, if_true, if_false, len_atR h, List.length_map, dCmpI, Int.ofNat_lt, q, decide_false]
theorem pen_ok {M : Mem} {v : Int} : ∃ a b c, retF (L_pen [some (.int v)] M) = .ok (.loc M.length) (M ++ [.lst [.int a, .int b, .int c]]) ∧ PenAt 0 M.length (M ++ [.lst [.int a, .int b, .int c]]) := by
  have e : ∀ M, dPow (.int 10) (.int 18) M = .ok (.int (10 ^ 18)) M := fun M => by simp only [dPow]; rw [if_pos (by decide)]; rfl
  refine ⟨if v - 10 ^ 18 > 0 then v - 10 ^ 18 else 0, v.fmod 2147483629 + 1, 0, ?_, ?_⟩
  · simp only [L_pen, bind_ok, bind_ex, outE_ok, outE_ex, retF_nx, retF_rt, retF_xc, x_optR, x_eV, x_eC, x_kB, x_eB, x_eU, x_eF, x_kM, x_eM, x_ift, x_iff, x_eIf, x_kTup, x_kLst, x_eTup, x_eLst, x_aN, x_kCc, x_kC, x_aC, x_tV, x_kCn, x_kCm, x_tCm, x_okB, x_tA, x_tO, x_kN, x_tN, x_tCh, x_kCj, x_kCi, x_kCh, x_eCh, x_kNb, x_kAn, x_kOr, x_kNo, x_eAnd, x_eOr, x_eNot, x_kCl, x_eCall, x_kS2, x_kS1, x_eSl, x_oN, x_asO, x_oS, x_mLoc, x_kML, x_eML, x_kM0, x_kMl0, x_eML0, x_truB, x_truI, x_asB, x_cnx, x_crt, x_cbk, x_cct, x_cxc, x_sSeq, x_sNil, x_sBrk, x_sCnt, x_kEx, x_kSet, x_sEx, x_sSet, x_okO, x_putsN, x_putsC, x_kPar, x_sPar, x_kRet, x_sRet, x_sRetN, x_sIf, x_kSb3, x_kSb2, x_kSb1, x_sSub, x_kAsg, x_sAsg, x_pnm, x_ptp, x_kFor, x_sFor, x_itT, x_iR1, x_kR2, x_iR2, x_iE, x_tY, x_wN, x_wC, List.getElem?_cons_zero, List.getElem?_cons_succ, List.set_cons_zero, List.set_cons_succ, List.append_nil, List.nil_append, List.cons_append, List.length_cons, List.length_nil, Nat.reduceLeDiff, Nat.reduceAdd, Bool.not_true, Bool.not_false, T_ok, true_or, true_and, and_true, if_true, if_false, e, dSub, bMax, fun M i => @mod_ok i 2147483629 M (by omega), dAdd]
  · have x := @fmod_lt v 2147483629 (by omega)
    refine ⟨_, _, _, push_at _ _, ?_, by omega, by omega, by omega, by omega⟩
    split <;> omega
end G

/-! P3: plain law: data without places; repr, ==. -/
namespace G
open PySem L2
def nul : Nat → Option PyData := fun _ => none
mutual
theorem reif_nul {f : Nat → Option PyData} : ∀ (d : D) {p : PyData}, reif nul d = some p → reif f d = some p
  | .non, _, e => by unfold reif at e ⊢; exact e
  | .bl _, _, e => by unfold reif at e ⊢; exact e
  | .int _, _, e => by unfold reif at e ⊢; exact e
  | .str _, _, e => by unfold reif at e ⊢; exact e
  | .loc _, _, e => by unfold reif at e; cases e
  | .tup ds, _, e => by
    unfold reif at e ⊢
    cases q : reifs nul ds with
    | none => rw [q] at e; cases e
    | some ps => rw [q] at e; rw [reifs_nul ds q]; exact e
theorem reifs_nul {f : Nat → Option PyData} : ∀ (ds : List D) {ps : List PyData}, reifs nul ds = some ps → reifs f ds = some ps
  | [], _, e => by unfold reifs at e ⊢; exact e
  | d :: ds, _, e => by
    unfold reifs at e ⊢
    cases q : reif nul d with
    | none => rw [q] at e; cases e
    | some x =>
      rw [q] at e
      cases q2 : reifs nul ds with
      | none => rw [q2] at e; cases e
      | some xs => rw [q2] at e; rw [reif_nul d q, reifs_nul ds q2]; exact e
end
theorem int_shown {i : Int} {k : Nat} (hk : 1 ≤ k) (h : i.natAbs < 10 ^ k) : (PyData.shown (.int i)).length ≤ k + 1 := by
  simp only [PyData.shown]
  show (Str.ofString (toString i)).length ≤ _
  have nn : ∀ n : Nat, n < 10 ^ k → (Str.ofString (toString (n : Int))).length ≤ k := fun n hn => by
    rw [PyProof.Rows.ofString_len]
    show (Nat.repr n).length ≤ k
    unfold Nat.repr
    have := PyProof.Rows.digits10_le hk hn
    simpa using this
  by_cases q : i < 0
  · rw [PyProof.Rows.len_text_neg q]
    have e : 0 - i = ((i.natAbs : Nat) : Int) := by omega
    have := nn i.natAbs h
    rw [e]; omega
  · have e : i = ((i.natAbs : Nat) : Int) := by omega
    have := nn i.natAbs h
    rw [e]; omega
/-- data without places: depth at most k, text at most n -/
def Fit (k n : Nat) (d : D) : Prop := ∃ p, reif nul d = some p ∧ tame p = true ∧ p.depth ≤ k ∧ p.shown.length ≤ n
def Fits (k n : Nat) (ds : List D) : Prop := ∃ ps, reifs nul ds = some ps ∧ tames ps = true ∧ PyData.depthAll ps ≤ k ∧ ((PyData.shownAll ps).map (·.length)).sum ≤ ds.length * n ∧ ps.length = ds.length
theorem Fit.int {i : Int} {n : Nat} (hn : 1 ≤ n) (h4 : n ≤ 4300) (h : i.natAbs < 10 ^ n) : Fit 0 (n + 1) (.int i) := by
  refine ⟨.int i, rfl, ?_, Nat.le_of_eq rfl, int_shown hn h⟩
  simp only [tame, decide_eq_true_eq]
  exact Nat.lt_of_lt_of_le h (Nat.pow_le_pow_right (by omega) h4)
theorem Fit.bl {b : Bool} : Fit 0 5 (.bl b) := ⟨.bool b, rfl, rfl, Nat.le_of_eq rfl, by cases b <;> decide⟩
theorem Fit.non : Fit 0 4 .non := ⟨.none, rfl, rfl, Nat.le_of_eq rfl, by decide⟩
theorem Fit.mono {k n k' n' : Nat} {d : D} (h : Fit k n d) (hk : k ≤ k') (hn : n ≤ n') : Fit k' n' d := let ⟨p, a, b, c, e⟩ := h; ⟨p, a, b, Nat.le_trans c hk, Nat.le_trans e hn⟩
theorem Fits.of {k n : Nat} : ∀ {ds : List D}, (∀ d ∈ ds, Fit k n d) → Fits k n ds
  | [], _ => ⟨[], rfl, rfl, Nat.zero_le _, by simp [PyData.shownAll], rfl⟩
  | d :: ds, h => by
    obtain ⟨p, a, b, c, e⟩ := h d (by simp)
    obtain ⟨ps, a', b', c', e', l'⟩ := Fits.of fun x m => h x (List.mem_cons_of_mem _ m)
    refine ⟨p :: ps, ?_, ?_, ?_, ?_, ?_⟩
    · unfold reifs; rw [a, a']; rfl
    · simp only [tames, b, b', Bool.and_self]
    · simp only [PyData.depthAll]; exact Nat.max_le.mpr ⟨c, c'⟩
    · simp only [PyData.shownAll, List.map_cons, List.sum_cons, List.length_cons]
      rw [Nat.add_mul, Nat.one_mul]; omega
    · simp only [List.length_cons, l']
theorem Fit.tup {k n m : Nat} {ds : List D} (h : ∀ d ∈ ds, Fit k n d) (hl : ds.length ≤ m) : Fit (k + 1) (m * (n + 2) + 3) (.tup ds) := by
  obtain ⟨ps, a, b, c, e, l⟩ := Fits.of h
  refine ⟨.tuple ps, ?_, ?_, ?_, ?_⟩
  · unfold reif; rw [a]; rfl
  · simpa only [tame] using b
  · simp only [PyData.depth]; omega
  · simp only [PyData.shown]
    have h1 := tupleText_len_le (PyData.shownAll ps)
    have h2 := PyData.shownAll_length ps
    have h3 : ds.length * (n + 2) ≤ m * (n + 2) := Nat.mul_le_mul_right _ hl
    rw [Nat.mul_add] at h3
    omega
theorem Fit.repr {k n : Nat} {d : D} (h : Fit k n d) (hk : k ≤ 60) (hn : n ≤ big) : ∃ s, ∀ M, bRepr [d] M = .ok (.str s) M := by
  obtain ⟨p, a, b, c, e⟩ := h
  refine ⟨p.shown, fun M => ?_⟩
  have z : tame p = true ∧ p.depth ≤ 60 ∧ p.shown.length ≤ big := ⟨b, Nat.le_trans c hk, Nat.le_trans e hn⟩
  simp only [bRepr, pyD, reif_nul d a]
  rw [if_pos z]
theorem eq_str {s t : Str} {M : Mem} : dEq (.str s) (.str t) M = .ok (.bl (s == t)) M := rfl
theorem ne_str {s t : Str} {M : Mem} : dNe (.str s) (.str t) M = .ok (.bl (s != t)) M := rfl
theorem eq_int {i j : Int} {M : Mem} : dEq (.int i) (.int j) M = .ok (.bl (i == j)) M := rfl
theorem ne_int {i j : Int} {M : Mem} : dNe (.int i) (.int j) M = .ok (.bl (i != j)) M := rfl
theorem eq_of {d e : D} {p q : PyData} {M : Mem} (h0 : strsD d e = none) (h1 : reif nul d = some p) (h2 : reif nul e = some q) (s1 : SeqAt.shaped p = true) (s2 : SeqAt.shaped q = true) : dEq d e M = .ok (.bl (PyData.eqv p q)) M := by
  simp only [dEq, pyD, h0, reif_nul d h1, reif_nul e h2, s1, s2, and_self, if_true]
theorem ne_of {d e : D} {p q : PyData} {M : Mem} (h0 : strsD d e = none) (h1 : reif nul d = some p) (h2 : reif nul e = some q) (s1 : SeqAt.shaped p = true) (s2 : SeqAt.shaped q = true) : dNe d e M = .ok (.bl (!PyData.eqv p q)) M := by
  simp only [dNe, pyD, h0, reif_nul d h1, reif_nul e h2, s1, s2, and_self, if_true]
end G

/-! P4: plain law: comprehensions and tests that the laws share. -/
namespace G
open PySem L2
theorem Kp.setn {S : Nat → Prop} {A B : Mem} {m : Nat} {o : O} (x : Kp S A B) (h : A.length ≤ m) : Kp S A (B.set m o) := ⟨by simpa using x.1, fun i hi s => by
  rw [List.getElem?_set_ne (by omega), x.2 i hi s]⟩
theorem Kp.pushn {S : Nat → Prop} {A B : Mem} {o : O} (x : Kp S A B) : Kp S A (B ++ [o]) := x.trans (Kp.push B o)
theorem Kp.set1 {A B : Mem} {p : Nat} {o : O} (x : Kp (N1 p) A B) : Kp (N1 p) A (B.set p o) := ⟨by simpa using x.1, fun i hi s => by
  rw [List.getElem?_set_ne (Ne.symm s), x.2 i hi s]⟩
/-- v walks over ds, whatever is written elsewhere -/
def Iw (S : Nat → Prop) (v : IV) (ds : List D) (M : Mem) : Prop := ∀ M', Kp S M M' → (∀ i, v.at i M' = ds[i]?) ∧ v.size M' = ds.length
theorem Iw.tup {S : Nat → Prop} {ds : List D} {M : Mem} : Iw S (.tup ds) ds M := fun _ _ => ⟨fun _ => rfl, rfl⟩
theorem Iw.loc {S : Nat → Prop} {n : Nat} {o : O} {M : Mem} (h : M[n]? = some o) (s : ¬ S n) : Iw S (.loc n) o.items M := fun M' k => by
  have e := k.at h s
  exact ⟨fun i => by simp only [IV.at, e], by simp only [IV.size, e]⟩
def rngL (lo : Int) (n : Nat) : List D := (List.range n).map fun i => .int (lo + (i : Nat))
theorem rngL_at {lo : Int} {n i : Nat} (h : i < n) : (rngL lo n)[i]? = some (.int (lo + i)) := by
  simp [rngL, h]
theorem rngL_len {lo : Int} {n : Nat} : (rngL lo n).length = n := by simp [rngL]
theorem Iw.rng {S : Nat → Prop} {lo : Int} {n : Nat} {M : Mem} : Iw S (.rng lo n) (rngL lo n) M := fun _ _ => ⟨fun i => by
  by_cases h : i < n
  · rw [rngL_at h]; simp only [IV.at, h, if_true]
  · rw [List.getElem?_eq_none (by rw [rngL_len]; omega)]; simp only [IV.at, h, if_false], by rw [rngL_len]; rfl⟩
/-- a comprehension without a test, with an invariant: S are the places written beside the new list -/
theorem lc_gen {S : Nat → Prop} {it : LI} {v : IV} {ds : List D} {j : Nat} {te : LE} {vs : List Nat} {L : Env} {M M0 : Mem} (P : Nat → List D → Mem → Prop)
    (hi : it L M = .ok v M0) (hv : Iw S v ds M0) (h0 : P 0 [] (M0 ++ [.lst []])) (hl : ds.length ≤ big)
    (hs : ∀ i acc M' d, ds[i]? = some d → acc.length = i → P i acc M' → Kp S M0 M' → M'[M0.length]? = some (.lst acc) → ∃ y M2, te ((wipeL L vs).set j (some d)) M' = .ok y M2 ∧ Kp S M0 M2 ∧ M2[M0.length]? = some (.lst acc) ∧ P (i + 1) (acc ++ [y]) (M2.set M0.length (.lst (acc ++ [y])))) :
    ∃ acc M', eLc it (.nm j) tY te vs L M = .ok (.loc M0.length) M' ∧ P ds.length acc M' ∧ acc.length = ds.length ∧ M'[M0.length]? = some (.lst acc) ∧ Kp S M0 M' := by
  rw [x_eLc, hi, bind_ok, x_kLc, (hv M0 (Kp.refl _)).2]
  obtain ⟨acc, M', e, h⟩ := lcL_all (v := v) (p := .nm j) (tt := tY) (te := te) (n := ds.length) (m := M0.length) (L := wipeL L vs)
    (fun i acc M' => P i acc M' ∧ acc.length = i ∧ M'[M0.length]? = some (.lst acc) ∧ Kp S M0 M')
    (fun i acc M' hi ⟨a, b, c, d⟩ => by
      have hat : v.at i M' = some ds[i] := by rw [(hv M' d).1 i]; exact List.getElem?_eq_getElem hi
      obtain ⟨y, M2, e1, e2, e3, e4⟩ := hs i acc M' _ (List.getElem?_eq_getElem hi) b a d c
      exact ⟨c, _, _, hat, rfl, true, M', rfl, Or.inr ⟨rfl, y, M2, e1, e3, by omega, e4, by simp [b], set_at (mem_lt e3), e2.setn (Nat.le_refl _)⟩⟩)
    (fun acc M' ⟨a, b, c, d⟩ => by rw [(hv M' d).1]; exact List.getElem?_eq_none (Nat.le_refl _))
    (ds.length + 1) 0 [] (M0 ++ [.lst []]) ⟨h0, rfl, push_at _ _, Kp.push _ _⟩ (Nat.zero_le _) (by omega)
  exact ⟨acc, M', e, h⟩
theorem set_push {M : Mem} {a b : O} : (M ++ [a]).set M.length b = M ++ [b] := by
  rw [List.set_append_right _ _ (Nat.le_refl _), Nat.sub_self]; rfl
/-- a comprehension whose step writes nothing -/
theorem lc_pure {it : LI} {v : IV} {ds : List D} {j : Nat} {te : LE} {vs : List Nat} {L : Env} {M M0 : Mem} (g : D → D)
    (hi : it L M = .ok v M0) (hv : Iw N0 v ds M0) (hl : ds.length ≤ big)
    (hs : ∀ (i : Nat) d M', ds[i]? = some d → Kp N0 M0 M' → te ((wipeL L vs).set j (some d)) M' = .ok (g d) M') :
    eLc it (.nm j) tY te vs L M = .ok (.loc M0.length) (M0 ++ [.lst (ds.map g)]) := by
  obtain ⟨acc, M', e, ⟨h, rfl⟩, _⟩ := lc_gen (S := N0) (fun i acc M' => acc = (ds.take i).map g ∧ M' = M0 ++ [.lst acc]) hi hv ⟨rfl, rfl⟩ hl
    (fun i acc M' d hd hl ⟨h1, h2⟩ k c => by
      refine ⟨g d, M', hs i d M' hd k, k, c, ?_, ?_⟩
      · rw [h1, List.take_add_one, hd]; simp
      · subst h2; exact set_push)
  rw [e, h, List.take_length]
theorem asBs_rep : ∀ n, asBs (List.replicate n (.bl true)) = some (List.replicate n true)
  | 0 => rfl
  | n + 1 => by simp only [List.replicate_succ, asBs, asBs_rep n, Option.map_some]
theorem all_rep {M : Mem} {m n : Nat} (h : M[m]? = some (.lst (List.replicate n (.bl true)))) : bAll [.loc m] M = .ok (.bl true) M := by
  simp only [bAll, locD, h, O.items, Option.bind_some, asBs_rep]
  simp
/-- all(..), all of it true -/
theorem all_true {it : LI} {v : IV} {ds : List D} {j : Nat} {te : LE} {vs : List Nat} {L : Env} {M M0 : Mem}
    (hi : it L M = .ok v M0) (hv : Iw N0 v ds M0) (hl : ds.length ≤ big)
    (hs : ∀ (i : Nat) d M', ds[i]? = some d → Kp N0 M0 M' → ∃ M2, te ((wipeL L vs).set j (some d)) M' = .ok (.bl true) M2 ∧ Kp N0 M' M2) :
    ∃ M', eF bAll (aC (eLc it (.nm j) tY te vs) aN) L M = .ok (.bl true) M' ∧ Kp N0 M0 M' := by
  obtain ⟨acc, M', e, rfl, h2, h3, h4⟩ := lc_gen (S := N0) (fun i acc M' => acc = List.replicate i (.bl true)) hi hv rfl hl
    (fun i acc M' d hd hl h1 k c => by
      obtain ⟨M2, e1, e2⟩ := hs i d M' hd k
      refine ⟨_, M2, e1, k.trans e2, e2.at c id, ?_⟩
      rw [h1, List.replicate_succ'])
  refine ⟨M', ?_, h4⟩
  simp only [bind_ok, bind_ex, outE_ok, outE_ex, retF_nx, retF_rt, retF_xc, x_optR, x_eV, x_eC, x_kB, x_eB, x_eU, x_eF, x_kM, x_eM, x_ift, x_iff, x_eIf, x_kTup, x_kLst, x_eTup, x_eLst, x_aN, x_kCc, x_kC, x_aC, x_tV, x_kCn, x_kCm, x_tCm, x_okB, x_tA, x_tO, x_kN, x_tN, x_tCh, x_kCj, x_kCi, x_kCh, x_eCh, x_kNb, x_kAn, x_kOr, x_kNo, x_eAnd, x_eOr, x_eNot, x_kCl, x_eCall, x_kS2, x_kS1, x_eSl, x_oN, x_asO, x_oS, x_mLoc, x_kML, x_eML, x_kM0, x_kMl0, x_eML0, x_truB, x_truI, x_asB, x_cnx, x_crt, x_cbk, x_cct, x_cxc, x_sSeq, x_sNil, x_sBrk, x_sCnt, x_kEx, x_kSet, x_sEx, x_sSet, x_okO, x_putsN, x_putsC, x_kPar, x_sPar, x_kRet, x_sRet, x_sRetN, x_sIf, x_kSb3, x_kSb2, x_kSb1, x_sSub, x_kAsg, x_sAsg, x_pnm, x_ptp, x_kFor, x_sFor, x_itT, x_iR1, x_kR2, x_iR2, x_iE, x_tY, x_wN, x_wC, List.getElem?_cons_zero, List.getElem?_cons_succ, List.set_cons_zero, List.set_cons_succ, List.append_nil, List.nil_append, List.cons_append, List.length_cons, List.length_nil, Nat.reduceLeDiff, Nat.reduceAdd, Bool.not_true, Bool.not_false, T_ok, true_or, true_and, and_true, if_true, if_false, e]
  rw [all_rep h3]
theorem isi_ii {i : Int} {M : Mem} : bIsi "int" [.int i] M = .ok (.bl true) M := rfl
theorem isi_bi {i : Int} {M : Mem} : bIsi "bool" [.int i] M = .ok (.bl false) M := rfl
theorem isi_tt {ds : List D} {M : Mem} : bIsi "tuple" [.tup ds] M = .ok (.bl true) M := rfl
theorem app_ok {M : Mem} {n : Nat} {ds : List D} {y : D} (h : M[n]? = some (.lst ds)) (hl : ds.length < big) : mApp (.loc n) [y] M = .ok .non (M.set n (.lst (ds ++ [y]))) := by
  simp only [mApp, h]; rw [if_pos hl]
theorem list_at {M : Mem} {n : Nat} {ds : List D} (h : M[n]? = some (.lst ds)) : bList [.loc n] M = .ok (.loc M.length) (M ++ [.lst ds]) := by simp only [bList, itemsD, h, O.items]
theorem list_tup {M : Mem} {ds : List D} : bList [.tup ds] M = .ok (.loc M.length) (M ++ [.lst ds]) := by simp only [bList, itemsD]
theorem tuple_at {M : Mem} {n : Nat} {ds : List D} (h : M[n]? = some (.lst ds)) : bTuple [.loc n] M = .ok (.tup ds) M := by simp only [bTuple, itemsD, h, O.items]
theorem rev_at {M : Mem} {n : Nat} {ds : List D} (h : M[n]? = some (.lst ds)) : dRev (.loc n) M = .ok (.loc M.length) (M ++ [.lst ds.reverse]) := by simp only [dRev, h, O.items]
theorem shr_ok {i : Int} {j : Nat} {M : Mem} : dShr (.int i) (.int j) M = .ok (.int (i / 2 ^ j)) M := by
  simp only [dShr]; rw [if_pos (by omega), Int.toNat_natCast]
theorem shl_ok {i : Int} {j : Nat} {M : Mem} {a : Nat} (h : i.natAbs < 2 ^ a) (h0 : 0 < a) (hj : a + j ≤ 1000000) : dShl (.int i) (.int j) M = .ok (.int (i * 2 ^ j)) M := by
  have := log_le h h0
  simp only [dShl]; rw [if_pos ⟨by omega, by omega⟩, Int.toNat_natCast]
theorem and1 (i : Int) : Builtin.bitAnd i 1 = i % 2 := by
  have := PySem.W.kbt_mask i 1
  simpa using this
/-- a for that runs through, one name -/
theorem for_T {v : IV} {j : Nat} {b : LS} {n : Nat} {L : Env} {M : Mem} (I : Nat → Env → Mem → Prop) (h0 : I 0 L M)
    (hs : ∀ i L M, i < n → I i L M → ∃ d, v.at i M = some d ∧ T (b (L.set j (some d)) M) fun r M2 => (r.1 = .nx ∨ r.1 = .ct) ∧ I (i + 1) r.2 M2)
    (he : ∀ L M, I n L M → v.at n M = none) : ∃ L' M', forL v (.nm j) b (n + 1) 0 L M = .ok (.nx, L') M' ∧ I n L' M' :=
  forL_all I (fun i L M hi h => by
    obtain ⟨d, e, t⟩ := hs i L M hi h
    obtain ⟨⟨fl, L2⟩, M2, e2, h2, h3⟩ := t.get
    exact ⟨d, _, e, rfl, fl, L2, M2, e2, h2, h3⟩) he (n + 1) 0 L M h0 (Nat.zero_le _) (by omega)
end G

namespace Lw
open PySem G
abbrev c_LETTERS : D := .int 8
abbrev c_VARIABLES : D := .int 3
abbrev dd_need_width_1 : List D := [.int 2000]
/-- is_integer(thing) -/
def B_is_integer (c : Nat → Fn) : LS :=
  (sRet ((eAnd (eF (bIsi "int") (aC (eV 0) aN)) (eNot (eF (bIsi "bool") (aC (eV 0) aN))))))
/-- is_between(thing, low, high) -/
def B_is_between (c : Nat → Fn) : LS :=
  (sRet ((eAnd (eCall (c 0) [] (aC (eV 0) aN)) (eCh (dCmpI fun i j => decide (i ≤ j)) (dCmpI fun i j => decide (i ≤ j)) (eV 1) (eV 0) (eV 2)))))
/-- need_values(thing, many) -/
def B_need_values (c : Nat → Fn) : LS :=
  (sIf ((tO (tN (tV (eF (bIsi "tuple") (aC (eV 0) aN)))) (tO (tCm dNe (eF bLen (aC (eV 0) aN)) (eV 1)) (tN (tV (eF bAll (aC (eLc (iE (eV 0)) (.nm 2) tY (eCall (c 0) [] (aC (eV 2) aN)) [2]) aN)))))))
  (sNo)
  sNil)
/-- need_width(thing, most) -/
def B_need_width (c : Nat → Fn) : LS :=
  (sIf (tN (tV (eCall (c 1) [] (aC (eV 0) (aC (eC (.int 1)) (aC (eV 1) aN))))))
  (sNo)
  sNil)
/-- is_pair(thing, many) -/
def B_is_pair (c : Nat → Fn) : LS :=
  (sSeq (sIf ((tO (tN (tV (eF (bIsi "tuple") (aC (eV 0) aN)))) (tCm dNe (eF bLen (aC (eV 0) aN)) (eC (.int 2)))))
  (sRet (eC (.bl false)))
  sNil)
  (sRet ((eAnd (eCall (c 1) [] (aC (eB dIx (eV 0) (eC (.int 0))) (aC (eC (.int 0)) (aC (eC (.int 1)) aN)))) (eCall (c 1) [] (aC (eB dIx (eV 0) (eC (.int 1))) (aC (eC (.int 0)) (aC (eB dSub (eV 1) (eC (.int 1))) aN))))))))
/-- is_row(thing, many) -/
def B_is_row (c : Nat → Fn) : LS :=
  (sSeq (sIf ((tO (tN (tV (eF (bIsi "tuple") (aC (eV 0) aN)))) (tCm dNe (eF bLen (aC (eV 0) aN)) (eC c_LETTERS))))
  (sRet (eC (.bl false)))
  sNil)
  (sRet (eF bAll (aC (eLc (iE (eV 0)) (.nm 2) tY (eCall (c 4) [] (aC (eV 2) (aC (eV 1) aN))) [2]) aN))))
/-- is_table(thing) -/
def B_is_table (c : Nat → Fn) : LS :=
  (sSeq (sIf ((tO (tN (tV (eF (bIsi "tuple") (aC (eV 0) aN)))) (tCm dEq (eV 0) (eTup aN))))
  (sRet (eC (.bl false)))
  sNil)
  (sRet (eF bAll (aC (eLc (iE (eV 0)) (.nm 1) tY (eCall (c 5) [] (aC (eV 1) (aC (eF bLen (aC (eV 0) aN)) aN))) [1]) aN))))
/-- need_table(thing) -/
def B_need_table (c : Nat → Fn) : LS :=
  (sIf (tN (tV (eCall (c 6) [] (aC (eV 0) aN))))
  (sNo)
  sNil)
/-- letter_at(values, place) -/
def B_letter_at (c : Nat → Fn) : LS :=
  (sRet (eB dAdd (eB dAdd (eB dMul (eB (dI Builtin.bitAnd) (eB dShr (eB dIx (eV 0) (eC (.int 0))) (eV 1)) (eC (.int 1))) (eC (.int 4))) (eB dMul (eB (dI Builtin.bitAnd) (eB dShr (eB dIx (eV 0) (eC (.int 1))) (eV 1)) (eC (.int 1))) (eC (.int 2)))) (eB (dI Builtin.bitAnd) (eB dShr (eB dIx (eV 0) (eC (.int 2))) (eV 1)) (eC (.int 1)))))
/-- run(table, values, width) -/
def B_run (c : Nat → Fn) : LS :=
  (sSeq (sEx (eCall (c 7) [] (aC (eV 0) aN)))
  (sSeq (sEx (eCall (c 2) [] (aC (eV 1) (aC (eC c_VARIABLES) aN))))
  (sSeq (sEx (eCall (c 3) dd_need_width_1 (aC (eV 2) aN)))
  (sSeq (sAsg (.tp [3, 4]) (eTup (aC (eC (.int 0)) (aC (eC (.int 0)) aN))))
  (sSeq (sFor (iR1 (eV 2)) (.nm 5)
  (sSeq (sAsg (.tp [6, 3]) (eB dIx (eB dIx (eV 0) (eV 3)) (eCall (c 8) [] (aC (eV 1) (aC (eV 5) aN)))))
  (sSet 4 (eB dAdd (eV 4) (eB dShl (eV 6) (eV 5))))))
  (sRet (eV 4)))))))
/-- _law_cell(_law_script, _law_k) -/
def B_law_cell (c : Nat → Fn) : LS :=
  (sSeq (sIf (tCm (dCmpI fun i j => decide (i < j)) (eV 1) (eF bLen (aC (eV 0) aN)))
  (sRet (eB dIx (eV 0) (eV 1)))
  sNil)
  (sRet (eC (.int 0))))
/-- _law_pen(_law_cell_here) -/
def B_law_pen (c : Nat → Fn) : LS :=
  (sRet (eLst (aC (eF bMax (aC (eC (.int 0)) (aC (eB dSub (eV 0) (eB dPow (eC (.int 10)) (eC (.int 18)))) aN))) (aC (eB dAdd (eB dMod (eV 0) (eC (.int 2147483629))) (eC (.int 1))) (aC (eC (.int 0)) aN)))))
/-- _law_draw(_law_pen_here, _law_many) -/
def B_law_draw (c : Nat → Fn) : LS :=
  (sSeq (sIf (tCm (dCmpI fun i j => decide (j < i)) (eB dIx (eV 0) (eC (.int 0))) (eC (.int 0)))
  (sSeq (sSet 2 (eB dMod (eB dIx (eV 0) (eC (.int 0))) (eV 1)))
  (sSeq (sSub (eV 0) (eC (.int 0)) (eB dDiv (eB dIx (eV 0) (eC (.int 0))) (eV 1)))
  (sRet (eV 2))))
  sNil)
  (sSeq (sSub (eV 0) (eC (.int 2)) (eB dAdd (eB dIx (eV 0) (eC (.int 2))) (eC (.int 1))))
  (sSeq (sSub (eV 0) (eC (.int 1)) (eB dMod (eB dAdd (eB dAdd (eB dMul (eB dIx (eV 0) (eC (.int 1))) (eC (.int 48271))) (eB dMul (eC (.int 1009)) (eB dIx (eV 0) (eC (.int 2))))) (eC (.int 7))) (eC (.int 2147483647))))
  (sSeq (sSet 3 (eB dMod (eB dAdd (eB dAdd (eB dMul (eB dIx (eV 0) (eC (.int 1))) (eB dIx (eV 0) (eC (.int 1)))) (eB dMul (eC (.int 69621)) (eB dIx (eV 0) (eC (.int 1))))) (eC (.int 11))) (eC (.int 2147483629))))
  (sSeq (sSet 3 (eB dMod (eB dAdd (eB dMul (eV 3) (eV 3)) (eB dMul (eC (.int 40014)) (eV 3))) (eC (.int 2147483587))))
  (sRet (eB dMod (eB dDiv (eV 3) (eC (.int 16))) (eV 1))))))))
/-- _law_pick(_law_pen_here, _law_these) -/
def B_law_pick (c : Nat → Fn) : LS :=
  (sRet (eB dIx (eV 1) (eCall (c 12) [] (aC (eV 0) (aC (eF bLen (aC (eV 1) aN)) aN)))))
/-- _law_same(_law_found, _law_due_here) -/
def B_law_same (c : Nat → Fn) : LS :=
  (sRet (eB dEq (eF bRepr (aC (eV 0) aN)) (eF bRepr (aC (eV 1) aN))))
/-- _law_two(_law_width) -/
def B_law_two (c : Nat → Fn) : LS :=
  (sSeq (sSet 1 (eC (.int 1)))
  (sSeq (sFor (iR1 (eV 0)) (.nm 2)
  (sSet 1 (eB dMul (eV 1) (eC (.int 2)))))
  (sRet (eV 1))))
/-- _law_numbers(_law_pen_here, _law_width) -/
def B_law_numbers (c : Nat → Fn) : LS :=
  (sSeq (sSet 2 (eCall (c 15) [] (aC (eV 1) aN)))
  (sSeq (sSet 3 (eLst (aC (eC (.int 0)) (aC (eC (.int 1)) (aC (eB dSub (eV 2) (eC (.int 1))) (aC (eB dDiv (eV 2) (eC (.int 2))) (aC (eCall (c 12) [] (aC (eV 0) (aC (eV 2) aN))) (aC (eCall (c 12) [] (aC (eV 0) (aC (eV 2) aN))) (aC (eB dSub (eC (.int 0)) (eCall (c 12) [] (aC (eV 0) (aC (eV 2) aN)))) aN)))))))))
  (sRet (eF bTuple (aC (eLc (iR1 (eC (.int 3))) (.nm 4) tY (eCall (c 13) [] (aC (eV 0) (aC (eV 3) aN))) [4]) aN)))))
/-- _law_due(_law_made, _law_numbers_here, _law_width) -/
def B_law_due (c : Nat → Fn) : LS :=
  (sSeq (sPar [3, 4, 5] (aC (eC (.int 0)) (aC (eLst aN) (aC (eF bList (aC (eV 1) aN)) aN))))
  (sSeq (sFor (iR1 (eV 2)) (.nm 6)
  (sSeq (sSet 7 (eB dAdd (eB dAdd (eB dMul (eB dMod (eB dIx (eV 5) (eC (.int 0))) (eC (.int 2))) (eC (.int 4))) (eB dMul (eB dMod (eB dIx (eV 5) (eC (.int 1))) (eC (.int 2))) (eC (.int 2)))) (eB dMod (eB dIx (eV 5) (eC (.int 2))) (eC (.int 2)))))
  (sSeq (sEx (eML mApp (eV 4) (aC (eB dIx (eB dIx (eB dIx (eV 0) (eV 3)) (eV 7)) (eC (.int 0))) aN)))
  (sPar [3, 5] (aC (eB dIx (eB dIx (eB dIx (eV 0) (eV 3)) (eV 7)) (eC (.int 1))) (aC (eLc (iE (eV 5)) (.nm 8) tY (eB dDiv (eV 8) (eC (.int 2))) [8]) aN))))))
  (sSeq (sSet 9 (eC (.int 0)))
  (sSeq (sFor (iE (eU dRev (eV 4))) (.nm 10)
  (sSet 9 (eB dAdd (eB dMul (eC (.int 2)) (eV 9)) (eV 10))))
  (sRet (eV 9))))))
/-- law(_law_script) -/
def B_law (c : Nat → Fn) : LS :=
  (sSeq (sFor (iR1 (eF bMax (aC (eC (.int 1)) (aC (eF bMin (aC (eF bLen (aC (eV 0) aN)) (aC (eC (.int 3)) aN))) aN)))) (.nm 1)
  (sSeq (sSet 2 (eCall (c 11) [] (aC (eCall (c 10) [] (aC (eV 0) (aC (eV 1) aN))) aN)))
  (sFor (iR1 (eC (.int 10))) (.nm 3)
  (sSeq (sAsg (.tp [4, 5]) (eTup (aC (eB dAdd (eC (.int 1)) (eCall (c 12) [] (aC (eV 2) (aC (eC (.int 12)) aN)))) (aC (eLst aN) aN))))
  (sSeq (sFor (iR1 (eV 4)) (.nm 6)
  (sEx (eML mApp (eV 5) (aC (eF bTuple (aC (eLc (iR1 (eC (.int 8))) (.nm 7) tY (eTup (aC (eCall (c 12) [] (aC (eV 2) (aC (eC (.int 2)) aN))) (aC (eCall (c 12) [] (aC (eV 2) (aC (eV 4) aN))) aN))) [7]) aN)) aN))))
  (sSeq (sPar [5, 8] (aC (eF bTuple (aC (eV 5) aN)) (aC (eB dIx (eLst (aC (eC (.int 1)) (aC (eC (.int 2)) (aC (eC (.int 5)) (aC (eC (.int 64)) (aC (eB dAdd (eC (.int 1)) (eCall (c 12) [] (aC (eV 2) (aC (eC (.int 300)) aN)))) (aC (eC (.int 2000)) aN))))))) (eB dMod (eV 3) (eC (.int 6)))) aN)))
  (sSeq (sSet 9 (eCall (c 16) [] (aC (eV 2) (aC (eV 8) aN))))
  (sSeq (sPar [10, 11] (aC (eF bRepr (aC (eTup (aC (eV 5) (aC (eV 9) aN))) aN)) (aC (eCall (c 17) [] (aC (eV 5) (aC (eV 9) (aC (eV 8) aN)))) aN)))
  (sFor (iR1 (eC (.int 2))) (.nm 12)
  (sIf ((tO (tN (tV (eCall (c 14) [] (aC (eCall (c 9) [] (aC (eV 5) (aC (eV 9) (aC (eV 8) aN)))) (aC (eV 11) aN))))) (tCm dNe (eF bRepr (aC (eTup (aC (eV 5) (aC (eV 9) aN))) aN)) (eV 10))))
  (sRet (eC (.bl false)))
  sNil))))))))))
  (sRet (eC (.bl true))))
def bodies (c : Nat → Fn) : Nat → Fn
  | 0 => runF 1 1 (B_is_integer c)
  | 1 => runF 3 3 (B_is_between c)
  | 2 => runF 3 2 (B_need_values c)
  | 3 => runF 2 2 (B_need_width c)
  | 4 => runF 2 2 (B_is_pair c)
  | 5 => runF 3 2 (B_is_row c)
  | 6 => runF 2 1 (B_is_table c)
  | 7 => runF 1 1 (B_need_table c)
  | 8 => runF 2 2 (B_letter_at c)
  | 9 => runF 7 3 (B_run c)
  | 10 => runF 2 2 (B_law_cell c)
  | 11 => runF 1 1 (B_law_pen c)
  | 12 => runF 4 2 (B_law_draw c)
  | 13 => runF 2 2 (B_law_pick c)
  | 14 => runF 2 2 (B_law_same c)
  | 15 => runF 3 1 (B_law_two c)
  | 16 => runF 5 2 (B_law_numbers c)
  | 17 => runF 11 3 (B_law_due c)
  | 18 => runF 13 1 (B_law c)
  | _ => fun _ _ => .no
/-- the k-th reading: calls at most k deep -/
def run : Nat → Nat → Fn
  | 0, _ => fun _ _ => .no
  | k + 1, i => bodies (run k) i
abbrev i_is_integer : Nat := 0
abbrev i_is_between : Nat := 1
abbrev i_need_values : Nat := 2
abbrev i_need_width : Nat := 3
abbrev i_is_pair : Nat := 4
abbrev i_is_row : Nat := 5
abbrev i_is_table : Nat := 6
abbrev i_need_table : Nat := 7
abbrev i_letter_at : Nat := 8
abbrev i_run : Nat := 9
abbrev i_law_cell : Nat := 10
abbrev i_law_pen : Nat := 11
abbrev i_law_draw : Nat := 12
abbrev i_law_pick : Nat := 13
abbrev i_law_same : Nat := 14
abbrev i_law_two : Nat := 15
abbrev i_law_numbers : Nat := 16
abbrev i_law_due : Nat := 17
abbrev i_law : Nat := 18
theorem in_is_integer (k : Nat) (d0 : D) (M : Mem) : run (k + 1) 0 [d0] M = retF (B_is_integer (run k) [some d0] M) := rfl
theorem in_is_between (k : Nat) (d0 d1 d2 : D) (M : Mem) : run (k + 1) 1 [d0, d1, d2] M = retF (B_is_between (run k) [some d0, some d1, some d2] M) := rfl
theorem in_need_values (k : Nat) (d0 d1 : D) (M : Mem) : run (k + 1) 2 [d0, d1] M = retF (B_need_values (run k) [some d0, some d1, none] M) := rfl
theorem in_need_width (k : Nat) (d0 d1 : D) (M : Mem) : run (k + 1) 3 [d0, d1] M = retF (B_need_width (run k) [some d0, some d1] M) := rfl
theorem in_is_pair (k : Nat) (d0 d1 : D) (M : Mem) : run (k + 1) 4 [d0, d1] M = retF (B_is_pair (run k) [some d0, some d1] M) := rfl
theorem in_is_row (k : Nat) (d0 d1 : D) (M : Mem) : run (k + 1) 5 [d0, d1] M = retF (B_is_row (run k) [some d0, some d1, none] M) := rfl
theorem in_is_table (k : Nat) (d0 : D) (M : Mem) : run (k + 1) 6 [d0] M = retF (B_is_table (run k) [some d0, none] M) := rfl
theorem in_need_table (k : Nat) (d0 : D) (M : Mem) : run (k + 1) 7 [d0] M = retF (B_need_table (run k) [some d0] M) := rfl
theorem in_letter_at (k : Nat) (d0 d1 : D) (M : Mem) : run (k + 1) 8 [d0, d1] M = retF (B_letter_at (run k) [some d0, some d1] M) := rfl
theorem in_run (k : Nat) (d0 d1 d2 : D) (M : Mem) : run (k + 1) 9 [d0, d1, d2] M = retF (B_run (run k) [some d0, some d1, some d2, none, none, none, none] M) := rfl
theorem in_law_cell (k : Nat) (d0 d1 : D) (M : Mem) : run (k + 1) 10 [d0, d1] M = retF (B_law_cell (run k) [some d0, some d1] M) := rfl
theorem in_law_pen (k : Nat) (d0 : D) (M : Mem) : run (k + 1) 11 [d0] M = retF (B_law_pen (run k) [some d0] M) := rfl
theorem in_law_draw (k : Nat) (d0 d1 : D) (M : Mem) : run (k + 1) 12 [d0, d1] M = retF (B_law_draw (run k) [some d0, some d1, none, none] M) := rfl
theorem in_law_pick (k : Nat) (d0 d1 : D) (M : Mem) : run (k + 1) 13 [d0, d1] M = retF (B_law_pick (run k) [some d0, some d1] M) := rfl
theorem in_law_same (k : Nat) (d0 d1 : D) (M : Mem) : run (k + 1) 14 [d0, d1] M = retF (B_law_same (run k) [some d0, some d1] M) := rfl
theorem in_law_two (k : Nat) (d0 : D) (M : Mem) : run (k + 1) 15 [d0] M = retF (B_law_two (run k) [some d0, none, none] M) := rfl
theorem in_law_numbers (k : Nat) (d0 d1 : D) (M : Mem) : run (k + 1) 16 [d0, d1] M = retF (B_law_numbers (run k) [some d0, some d1, none, none, none] M) := rfl
theorem in_law_due (k : Nat) (d0 d1 d2 : D) (M : Mem) : run (k + 1) 17 [d0, d1, d2] M = retF (B_law_due (run k) [some d0, some d1, some d2, none, none, none, none, none, none, none, none] M) := rfl
theorem in_law (k : Nat) (d0 : D) (M : Mem) : run (k + 1) 18 [d0] M = retF (B_law (run k) [some d0, none, none, none, none, none, none, none, none, none, none, none, none] M) := rfl
end Lw

/-! K05: what the law's defs answer. -/
namespace Lw
open PySem L2 G
theorem cell_run {k : Nat} {M : Mem} {p : Nat} {ns : List Int} {j : Nat} (h : M[p]? = some (.rol (ns.map D.int))) : ∃ v : Int, run (k + 1) 10 [.loc p, .int j] M = .ok (.int v) M := cell_ok h
theorem pen_run {k : Nat} {M : Mem} {v : Int} : ∃ a b c, run (k + 1) 11 [.int v] M = .ok (.loc M.length) (M ++ [.lst [.int a, .int b, .int c]]) ∧ PenAt 0 M.length (M ++ [.lst [.int a, .int b, .int c]]) := pen_ok
theorem draw_run {k t p : Nat} {M : Mem} {n : Int} {m : Nat} (h : PenAt t p M) (ht : t < 18446744073709551616) (hn : 0 < n) (hnm : n.natAbs < 2 ^ m) (hm : m ≤ 9000) (hm0 : 0 < m) :
    ∃ v M', run (k + 1) 12 [.loc p, .int n] M = .ok (.int v) M' ∧ 0 ≤ v ∧ v < n ∧ PenAt (t + 1) p M' ∧ Kp (N1 p) M M' ∧ M'.length = M.length := draw_pen h ht hn hnm hm hm0
theorem pick_run {k t p q : Nat} {M : Mem} {ds : List D} (h : PenAt t p M) (ht : t < 18446744073709551616) (hq : M[q]? = some (.lst ds)) (hpq : q ≠ p) (h0 : 0 < ds.length) (h1 : ds.length < 1000) :
    ∃ d M', d ∈ ds ∧ run (k + 2) 13 [.loc p, .loc q] M = .ok d M' ∧ PenAt (t + 1) p M' ∧ Kp (N1 p) M M' ∧ M'.length = M.length := by
  obtain ⟨v, M', e, h2, h3, h4, h5, h6⟩ := draw_run (k := k) (n := ds.length) (m := 10) h ht (by omega) (by omega) (by omega) (by omega)
  obtain ⟨j, rfl⟩ := Int.eq_ofNat_of_zero_le h2
  have hj : j < ds.length := by omega
  refine ⟨ds[j], M', List.getElem_mem hj, ?_, h4, h5, h6⟩
  rw [in_law_pick]
  simp only [B_law_pick, bind_ok, bind_ex, outE_ok, outE_ex, retF_nx, retF_rt, retF_xc, x_optR, x_eV, x_eC, x_kB, x_eB, x_eU, x_eF, x_kM, x_eM, x_ift, x_iff, x_eIf, x_kTup, x_kLst, x_eTup, x_eLst, x_aN, x_kCc, x_kC, x_aC, x_tV, x_kCn, x_kCm, x_tCm, x_okB, x_tA, x_tO, x_kN, x_tN, x_tCh, x_kCj, x_kCi, x_kCh, x_eCh, x_kNb, x_kAn, x_kOr, x_kNo, x_eAnd, x_eOr, x_eNot, x_kCl, x_eCall, x_kS2, x_kS1, x_eSl, x_oN, x_asO, x_oS, x_mLoc, x_kML, x_eML, x_kM0, x_kMl0, x_eML0, x_truB, x_truI, x_asB, x_cnx, x_crt, x_cbk, x_cct, x_cxc, x_sSeq, x_sNil, x_sBrk, x_sCnt, x_kEx, x_kSet, x_sEx, x_sSet, x_okO, x_putsN, x_putsC, x_kPar, x_sPar, x_kRet, x_sRet, x_sRetN, x_sIf, x_kSb3, x_kSb2, x_kSb1, x_sSub, x_kAsg, x_sAsg, x_pnm, x_ptp, x_kFor, x_sFor, x_itT, x_iR1, x_kR2, x_iR2, x_iE, x_tY, x_wN, x_wC, List.getElem?_cons_zero, List.getElem?_cons_succ, List.set_cons_zero, List.set_cons_succ, List.append_nil, List.nil_append, List.cons_append, List.length_cons, List.length_nil, Nat.reduceLeDiff, Nat.reduceAdd, Bool.not_true, Bool.not_false, T_ok, true_or, true_and, and_true, if_true, if_false, len_at hq, e, ix_at (h5.at hq hpq) (List.getElem?_eq_getElem hj)]
theorem two_run {k w : Nat} {M : Mem} (hw : w ≤ 2000) : run (k + 1) 15 [.int w] M = .ok (.int (2 ^ w)) M := by
  rw [in_law_two]
  obtain ⟨L', M', e, x, hL, hM⟩ := for_T (v := .rng 0 w) (j := 2) (b := sSet 1 (eB dMul (eV 1) (eC (.int 2)))) (n := w) (L := [some (.int w), some (.int 1), none]) (M := M) (fun i L M' => ∃ x, L = [some (.int w), some (.int (2 ^ i)), x] ∧ M' = M) ⟨none, rfl, rfl⟩
    (fun i L M' hi ⟨x, hL, hM⟩ => by
      subst hL; subst hM
      refine ⟨_, rng_at hi, ?_⟩
      have q : ((2 : Int) ^ i).natAbs < 2 ^ (i + 1) := by
        rw [Int.natAbs_pow]
        exact Nat.pow_lt_pow_right (by decide) (by omega)
      simp only [bind_ok, bind_ex, outE_ok, outE_ex, retF_nx, retF_rt, retF_xc, x_optR, x_eV, x_eC, x_kB, x_eB, x_eU, x_eF, x_kM, x_eM, x_ift, x_iff, x_eIf, x_kTup, x_kLst, x_eTup, x_eLst, x_aN, x_kCc, x_kC, x_aC, x_tV, x_kCn, x_kCm, x_tCm, x_okB, x_tA, x_tO, x_kN, x_tN, x_tCh, x_kCj, x_kCi, x_kCh, x_eCh, x_kNb, x_kAn, x_kOr, x_kNo, x_eAnd, x_eOr, x_eNot, x_kCl, x_eCall, x_kS2, x_kS1, x_eSl, x_oN, x_asO, x_oS, x_mLoc, x_kML, x_eML, x_kM0, x_kMl0, x_eML0, x_truB, x_truI, x_asB, x_cnx, x_crt, x_cbk, x_cct, x_cxc, x_sSeq, x_sNil, x_sBrk, x_sCnt, x_kEx, x_kSet, x_sEx, x_sSet, x_okO, x_putsN, x_putsC, x_kPar, x_sPar, x_kRet, x_sRet, x_sRetN, x_sIf, x_kSb3, x_kSb2, x_kSb1, x_sSub, x_kAsg, x_sAsg, x_pnm, x_ptp, x_kFor, x_sFor, x_itT, x_iR1, x_kR2, x_iR2, x_iE, x_tY, x_wN, x_wC, List.getElem?_cons_zero, List.getElem?_cons_succ, List.set_cons_zero, List.set_cons_succ, List.append_nil, List.nil_append, List.cons_append, List.length_cons, List.length_nil, Nat.reduceLeDiff, Nat.reduceAdd, Bool.not_true, Bool.not_false, T_ok, true_or, true_and, and_true, if_true, if_false, fun M => @mul_ok (2 ^ i) 2 M (i + 1) 2 q (by decide) (by omega) (by omega) (by omega)]
      exact ⟨_, rfl⟩)
    (fun _ _ _ => rng_end)
  subst hL; subst hM
  simp only [B_law_two, bind_ok, bind_ex, outE_ok, outE_ex, retF_nx, retF_rt, retF_xc, x_optR, x_eV, x_eC, x_kB, x_eB, x_eU, x_eF, x_kM, x_eM, x_ift, x_iff, x_eIf, x_kTup, x_kLst, x_eTup, x_eLst, x_aN, x_kCc, x_kC, x_aC, x_tV, x_kCn, x_kCm, x_tCm, x_okB, x_tA, x_tO, x_kN, x_tN, x_tCh, x_kCj, x_kCi, x_kCh, x_eCh, x_kNb, x_kAn, x_kOr, x_kNo, x_eAnd, x_eOr, x_eNot, x_kCl, x_eCall, x_kS2, x_kS1, x_eSl, x_oN, x_asO, x_oS, x_mLoc, x_kML, x_eML, x_kM0, x_kMl0, x_eML0, x_truB, x_truI, x_asB, x_cnx, x_crt, x_cbk, x_cct, x_cxc, x_sSeq, x_sNil, x_sBrk, x_sCnt, x_kEx, x_kSet, x_sEx, x_sSet, x_okO, x_putsN, x_putsC, x_kPar, x_sPar, x_kRet, x_sRet, x_sRetN, x_sIf, x_kSb3, x_kSb2, x_kSb1, x_sSub, x_kAsg, x_sAsg, x_pnm, x_ptp, x_kFor, x_sFor, x_itT, x_iR1, x_kR2, x_iR2, x_iE, x_tY, x_wN, x_wC, List.getElem?_cons_zero, List.getElem?_cons_succ, List.set_cons_zero, List.set_cons_succ, List.append_nil, List.nil_append, List.cons_append, List.length_cons, List.length_nil, Nat.reduceLeDiff, Nat.reduceAdd, Bool.not_true, Bool.not_false, T_ok, true_or, true_and, and_true, if_true, if_false, x_r1 (n := w) (by omega), IV.size, e]
/-! ### the tables -/
abbrev Row := List (Int × Nat)
def encP (p : Int × Nat) : D := .tup [.int p.1, .int p.2]
def encR (r : Row) : D := .tup (r.map encP)
def encT (t : List Row) : D := .tup (t.map encR)
def RowOk (n : Nat) (r : Row) : Prop := r.length = 8 ∧ ∀ p ∈ r, (p.1 = 0 ∨ p.1 = 1) ∧ p.2 < n
def TabOk (t : List Row) : Prop := 0 < t.length ∧ t.length ≤ 12 ∧ ∀ r ∈ t, RowOk t.length r
theorem is_int {k : Nat} {i : Int} {M : Mem} : run (k + 1) 0 [.int i] M = .ok (.bl true) M := by
  rw [in_is_integer]
  simp only [B_is_integer, bind_ok, bind_ex, outE_ok, outE_ex, retF_nx, retF_rt, retF_xc, x_optR, x_eV, x_eC, x_kB, x_eB, x_eU, x_eF, x_kM, x_eM, x_ift, x_iff, x_eIf, x_kTup, x_kLst, x_eTup, x_eLst, x_aN, x_kCc, x_kC, x_aC, x_tV, x_kCn, x_kCm, x_tCm, x_okB, x_tA, x_tO, x_kN, x_tN, x_tCh, x_kCj, x_kCi, x_kCh, x_eCh, x_kNb, x_kAn, x_kOr, x_kNo, x_eAnd, x_eOr, x_eNot, x_kCl, x_eCall, x_kS2, x_kS1, x_eSl, x_oN, x_asO, x_oS, x_mLoc, x_kML, x_eML, x_kM0, x_kMl0, x_eML0, x_truB, x_truI, x_asB, x_cnx, x_crt, x_cbk, x_cct, x_cxc, x_sSeq, x_sNil, x_sBrk, x_sCnt, x_kEx, x_kSet, x_sEx, x_sSet, x_okO, x_putsN, x_putsC, x_kPar, x_sPar, x_kRet, x_sRet, x_sRetN, x_sIf, x_kSb3, x_kSb2, x_kSb1, x_sSub, x_kAsg, x_sAsg, x_pnm, x_ptp, x_kFor, x_sFor, x_itT, x_iR1, x_kR2, x_iR2, x_iE, x_tY, x_wN, x_wC, List.getElem?_cons_zero, List.getElem?_cons_succ, List.set_cons_zero, List.set_cons_succ, List.append_nil, List.nil_append, List.cons_append, List.length_cons, List.length_nil, Nat.reduceLeDiff, Nat.reduceAdd, Bool.not_true, Bool.not_false, T_ok, true_or, true_and, and_true, if_true, if_false, isi_ii, isi_bi]
theorem is_btw {k : Nat} {i a b : Int} {M : Mem} (h1 : a ≤ i) (h2 : i ≤ b) : run (k + 2) 1 [.int i, .int a, .int b] M = .ok (.bl true) M := by
  rw [in_is_between]
  simp only [B_is_between, bind_ok, bind_ex, outE_ok, outE_ex, retF_nx, retF_rt, retF_xc, x_optR, x_eV, x_eC, x_kB, x_eB, x_eU, x_eF, x_kM, x_eM, x_ift, x_iff, x_eIf, x_kTup, x_kLst, x_eTup, x_eLst, x_aN, x_kCc, x_kC, x_aC, x_tV, x_kCn, x_kCm, x_tCm, x_okB, x_tA, x_tO, x_kN, x_tN, x_tCh, x_kCj, x_kCi, x_kCh, x_eCh, x_kNb, x_kAn, x_kOr, x_kNo, x_eAnd, x_eOr, x_eNot, x_kCl, x_eCall, x_kS2, x_kS1, x_eSl, x_oN, x_asO, x_oS, x_mLoc, x_kML, x_eML, x_kM0, x_kMl0, x_eML0, x_truB, x_truI, x_asB, x_cnx, x_crt, x_cbk, x_cct, x_cxc, x_sSeq, x_sNil, x_sBrk, x_sCnt, x_kEx, x_kSet, x_sEx, x_sSet, x_okO, x_putsN, x_putsC, x_kPar, x_sPar, x_kRet, x_sRet, x_sRetN, x_sIf, x_kSb3, x_kSb2, x_kSb1, x_sSub, x_kAsg, x_sAsg, x_pnm, x_ptp, x_kFor, x_sFor, x_itT, x_iR1, x_kR2, x_iR2, x_iE, x_tY, x_wN, x_wC, List.getElem?_cons_zero, List.getElem?_cons_succ, List.set_cons_zero, List.set_cons_succ, List.append_nil, List.nil_append, List.cons_append, List.length_cons, List.length_nil, Nat.reduceLeDiff, Nat.reduceAdd, Bool.not_true, Bool.not_false, T_ok, true_or, true_and, and_true, if_true, if_false, is_int, dCmpI, h1, h2, decide_true]
theorem is_pr {k n : Nat} {p : Int × Nat} {M : Mem} (h : (p.1 = 0 ∨ p.1 = 1) ∧ p.2 < n) : run (k + 3) 4 [encP p, .int n] M = .ok (.bl true) M := by
  rw [in_is_pair]
  have e : dNe (.int 2) (.int 2) M = .ok (.bl false) M := rfl
  have e0 : dIx (.tup [.int p.1, .int p.2]) (.int 0) M = .ok (.int p.1) M := ix_tup (i := 0) rfl
  have e1 : dIx (.tup [.int p.1, .int p.2]) (.int 1) M = .ok (.int p.2) M := ix_tup (i := 1) rfl
  have b0 := @is_btw k p.1 0 1 M (by omega) (by omega)
  have b1 := @is_btw k p.2 0 (n - 1) M (by omega) (by omega)
  simp only [B_is_pair, encP, bind_ok, bind_ex, outE_ok, outE_ex, retF_nx, retF_rt, retF_xc, x_optR, x_eV, x_eC, x_kB, x_eB, x_eU, x_eF, x_kM, x_eM, x_ift, x_iff, x_eIf, x_kTup, x_kLst, x_eTup, x_eLst, x_aN, x_kCc, x_kC, x_aC, x_tV, x_kCn, x_kCm, x_tCm, x_okB, x_tA, x_tO, x_kN, x_tN, x_tCh, x_kCj, x_kCi, x_kCh, x_eCh, x_kNb, x_kAn, x_kOr, x_kNo, x_eAnd, x_eOr, x_eNot, x_kCl, x_eCall, x_kS2, x_kS1, x_eSl, x_oN, x_asO, x_oS, x_mLoc, x_kML, x_eML, x_kM0, x_kMl0, x_eML0, x_truB, x_truI, x_asB, x_cnx, x_crt, x_cbk, x_cct, x_cxc, x_sSeq, x_sNil, x_sBrk, x_sCnt, x_kEx, x_kSet, x_sEx, x_sSet, x_okO, x_putsN, x_putsC, x_kPar, x_sPar, x_kRet, x_sRet, x_sRetN, x_sIf, x_kSb3, x_kSb2, x_kSb1, x_sSub, x_kAsg, x_sAsg, x_pnm, x_ptp, x_kFor, x_sFor, x_itT, x_iR1, x_kR2, x_iR2, x_iE, x_tY, x_wN, x_wC, List.getElem?_cons_zero, List.getElem?_cons_succ, List.set_cons_zero, List.set_cons_succ, List.append_nil, List.nil_append, List.cons_append, List.length_cons, List.length_nil, Nat.reduceLeDiff, Nat.reduceAdd, Bool.not_true, Bool.not_false, T_ok, true_or, true_and, and_true, if_true, if_false, isi_tt, len_tup, e0, b0, e1, dSub, b1]
  exact (by
    simp only [show (((0 + 1 + 1 : Nat) : Int)) = 2 from rfl, e, bind_ok, bind_ex, outE_ok, outE_ex, retF_nx, retF_rt, retF_xc, x_optR, x_eV, x_eC, x_kB, x_eB, x_eU, x_eF, x_kM, x_eM, x_ift, x_iff, x_eIf, x_kTup, x_kLst, x_eTup, x_eLst, x_aN, x_kCc, x_kC, x_aC, x_tV, x_kCn, x_kCm, x_tCm, x_okB, x_tA, x_tO, x_kN, x_tN, x_tCh, x_kCj, x_kCi, x_kCh, x_eCh, x_kNb, x_kAn, x_kOr, x_kNo, x_eAnd, x_eOr, x_eNot, x_kCl, x_eCall, x_kS2, x_kS1, x_eSl, x_oN, x_asO, x_oS, x_mLoc, x_kML, x_eML, x_kM0, x_kMl0, x_eML0, x_truB, x_truI, x_asB, x_cnx, x_crt, x_cbk, x_cct, x_cxc, x_sSeq, x_sNil, x_sBrk, x_sCnt, x_kEx, x_kSet, x_sEx, x_sSet, x_okO, x_putsN, x_putsC, x_kPar, x_sPar, x_kRet, x_sRet, x_sRetN, x_sIf, x_kSb3, x_kSb2, x_kSb1, x_sSub, x_kAsg, x_sAsg, x_pnm, x_ptp, x_kFor, x_sFor, x_itT, x_iR1, x_kR2, x_iR2, x_iE, x_tY, x_wN, x_wC, List.getElem?_cons_zero, List.getElem?_cons_succ, List.set_cons_zero, List.set_cons_succ, List.append_nil, List.nil_append, List.cons_append, List.length_cons, List.length_nil, Nat.reduceLeDiff, Nat.reduceAdd, Bool.not_true, Bool.not_false, T_ok, true_or, true_and, and_true, if_true, if_false, e0, b0, e1, dSub, b1])
theorem map_at {α : Type} {f : α → D} {l : List α} {i : Nat} {d : D} (h : (l.map f)[i]? = some d) : ∃ x, x ∈ l ∧ d = f x := by
  rw [List.getElem?_map] at h
  cases q : l[i]? with
  | none => rw [q] at h; cases h
  | some x => rw [q] at h; cases h; exact ⟨x, List.mem_of_getElem? q, rfl⟩
theorem is_rw {k n : Nat} {r : Row} {M : Mem} (h : RowOk n r) : ∃ M', run (k + 4) 5 [encR r, .int n] M = .ok (.bl true) M' ∧ Kp N0 M M' := by
  obtain ⟨M', e, hk⟩ := all_true (it := iE (eV 0)) (v := .tup (r.map encP)) (ds := r.map encP) (j := 2) (te := eCall (run (k + 3) 4) [] (aC (eV 2) (aC (eV 1) aN))) (vs := [2]) (L := [some (encR r), some (.int n), none]) (M := M) (M0 := M) rfl Iw.tup (by rw [List.length_map, h.1]; decide)
    (fun i d M' hd _ => by
      obtain ⟨x, hx, rfl⟩ := map_at hd
      refine ⟨M', ?_, Kp.refl _⟩
      simp only [bind_ok, bind_ex, outE_ok, outE_ex, retF_nx, retF_rt, retF_xc, x_optR, x_eV, x_eC, x_kB, x_eB, x_eU, x_eF, x_kM, x_eM, x_ift, x_iff, x_eIf, x_kTup, x_kLst, x_eTup, x_eLst, x_aN, x_kCc, x_kC, x_aC, x_tV, x_kCn, x_kCm, x_tCm, x_okB, x_tA, x_tO, x_kN, x_tN, x_tCh, x_kCj, x_kCi, x_kCh, x_eCh, x_kNb, x_kAn, x_kOr, x_kNo, x_eAnd, x_eOr, x_eNot, x_kCl, x_eCall, x_kS2, x_kS1, x_eSl, x_oN, x_asO, x_oS, x_mLoc, x_kML, x_eML, x_kM0, x_kMl0, x_eML0, x_truB, x_truI, x_asB, x_cnx, x_crt, x_cbk, x_cct, x_cxc, x_sSeq, x_sNil, x_sBrk, x_sCnt, x_kEx, x_kSet, x_sEx, x_sSet, x_okO, x_putsN, x_putsC, x_kPar, x_sPar, x_kRet, x_sRet, x_sRetN, x_sIf, x_kSb3, x_kSb2, x_kSb1, x_sSub, x_kAsg, x_sAsg, x_pnm, x_ptp, x_kFor, x_sFor, x_itT, x_iR1, x_kR2, x_iR2, x_iE, x_tY, x_wN, x_wC, List.getElem?_cons_zero, List.getElem?_cons_succ, List.set_cons_zero, List.set_cons_succ, List.append_nil, List.nil_append, List.cons_append, List.length_cons, List.length_nil, Nat.reduceLeDiff, Nat.reduceAdd, Bool.not_true, Bool.not_false, T_ok, true_or, true_and, and_true, if_true, if_false, is_pr (h.2 x hx)])
  refine ⟨M', ?_, hk⟩
  rw [in_is_row]
  have e2 : dNe (.int ((r.map encP).length : Int)) (.int 8) M = .ok (.bl false) M := by rw [List.length_map, h.1]; rfl
  simp only [B_is_row, encR, bind_ok, bind_ex, outE_ok, outE_ex, retF_nx, retF_rt, retF_xc, x_optR, x_eV, x_eC, x_kB, x_eB, x_eU, x_eF, x_kM, x_eM, x_ift, x_iff, x_eIf, x_kTup, x_kLst, x_eTup, x_eLst, x_aN, x_kCc, x_kC, x_aC, x_tV, x_kCn, x_kCm, x_tCm, x_okB, x_tA, x_tO, x_kN, x_tN, x_tCh, x_kCj, x_kCi, x_kCh, x_eCh, x_kNb, x_kAn, x_kOr, x_kNo, x_eAnd, x_eOr, x_eNot, x_kCl, x_eCall, x_kS2, x_kS1, x_eSl, x_oN, x_asO, x_oS, x_mLoc, x_kML, x_eML, x_kM0, x_kMl0, x_eML0, x_truB, x_truI, x_asB, x_cnx, x_crt, x_cbk, x_cct, x_cxc, x_sSeq, x_sNil, x_sBrk, x_sCnt, x_kEx, x_kSet, x_sEx, x_sSet, x_okO, x_putsN, x_putsC, x_kPar, x_sPar, x_kRet, x_sRet, x_sRetN, x_sIf, x_kSb3, x_kSb2, x_kSb1, x_sSub, x_kAsg, x_sAsg, x_pnm, x_ptp, x_kFor, x_sFor, x_itT, x_iR1, x_kR2, x_iR2, x_iE, x_tY, x_wN, x_wC, List.getElem?_cons_zero, List.getElem?_cons_succ, List.set_cons_zero, List.set_cons_succ, List.append_nil, List.nil_append, List.cons_append, List.length_cons, List.length_nil, Nat.reduceLeDiff, Nat.reduceAdd, Bool.not_true, Bool.not_false, T_ok, true_or, true_and, and_true, if_true, if_false, isi_tt, len_tup, e2] at e ⊢
  simp only [e, bind_ok, bind_ex, outE_ok, outE_ex, retF_nx, retF_rt, retF_xc, x_optR, x_eV, x_eC, x_kB, x_eB, x_eU, x_eF, x_kM, x_eM, x_ift, x_iff, x_eIf, x_kTup, x_kLst, x_eTup, x_eLst, x_aN, x_kCc, x_kC, x_aC, x_tV, x_kCn, x_kCm, x_tCm, x_okB, x_tA, x_tO, x_kN, x_tN, x_tCh, x_kCj, x_kCi, x_kCh, x_eCh, x_kNb, x_kAn, x_kOr, x_kNo, x_eAnd, x_eOr, x_eNot, x_kCl, x_eCall, x_kS2, x_kS1, x_eSl, x_oN, x_asO, x_oS, x_mLoc, x_kML, x_eML, x_kM0, x_kMl0, x_eML0, x_truB, x_truI, x_asB, x_cnx, x_crt, x_cbk, x_cct, x_cxc, x_sSeq, x_sNil, x_sBrk, x_sCnt, x_kEx, x_kSet, x_sEx, x_sSet, x_okO, x_putsN, x_putsC, x_kPar, x_sPar, x_kRet, x_sRet, x_sRetN, x_sIf, x_kSb3, x_kSb2, x_kSb1, x_sSub, x_kAsg, x_sAsg, x_pnm, x_ptp, x_kFor, x_sFor, x_itT, x_iR1, x_kR2, x_iR2, x_iE, x_tY, x_wN, x_wC, List.getElem?_cons_zero, List.getElem?_cons_succ, List.set_cons_zero, List.set_cons_succ, List.append_nil, List.nil_append, List.cons_append, List.length_cons, List.length_nil, Nat.reduceLeDiff, Nat.reduceAdd, Bool.not_true, Bool.not_false, T_ok, true_or, true_and, and_true, if_true, if_false]
theorem reif_row {r : Row} : reif nul (encR r) = some (.tuple (r.map fun p => .tuple [.int p.1, .int p.2])) := by
  unfold encR
  unfold reif
  have : ∀ r : Row, reifs nul (r.map encP) = some (r.map fun p => .tuple [.int p.1, .int p.2]) := fun r => by
    induction r with
    | nil => unfold reifs; rfl
    | cons a r ih => simp only [List.map_cons, reifs, ih, encP, reif, Option.bind_some, Option.map_some]
  rw [this]; rfl
theorem canAll (l : List PyData) (h : ∀ d ∈ l, d.canLay0 = true) : PyData.canLayAll0 l = true := by
  induction l with
  | nil => rfl
  | cons a l ih => simp only [PyData.canLayAll0, h a (by simp), ih fun d m => h d (List.mem_cons_of_mem _ m), Bool.and_self]
theorem depAll {k : Nat} (l : List PyData) (h : ∀ d ∈ l, d.depth ≤ k) : PyData.depthAll l ≤ k := by
  induction l with
  | nil => simp only [PyData.depthAll]; omega
  | cons a l ih => simp only [PyData.depthAll]; exact Nat.max_le.mpr ⟨h a (by simp), ih fun d m => h d (List.mem_cons_of_mem _ m)⟩
theorem reif_tab {t : List Row} (h : TabOk t) : ∃ p, reif nul (encT t) = some p ∧ SeqAt.shaped p = true ∧ PyData.eqv p (.tuple []) = false := by
  refine ⟨.tuple (t.map fun r => .tuple (r.map fun p => .tuple [.int p.1, .int p.2])), ?_, ?_, ?_⟩
  · unfold encT
    unfold reif
    have : ∀ t : List Row, reifs nul (t.map encR) = some (t.map fun r => .tuple (r.map fun p => .tuple [.int p.1, .int p.2])) := fun t => by
      induction t with
      | nil => unfold reifs; rfl
      | cons a r ih => simp only [List.map_cons, reifs, ih, reif_row, Option.bind_some, Option.map_some]
    rw [this]; rfl
  · unfold SeqAt.shaped
    rw [Bool.and_eq_true, decide_eq_true_eq]
    constructor
    · simp only [PyData.canLay0]
      refine canAll _ fun d m => ?_
      obtain ⟨r, _, rfl⟩ := List.mem_map.mp m
      simp only [PyData.canLay0]
      refine canAll _ fun d m => ?_
      obtain ⟨p, _, rfl⟩ := List.mem_map.mp m
      rfl
    · have : PyData.depthAll (t.map fun r => PyData.tuple (r.map fun p => .tuple [.int p.1, .int p.2])) ≤ 60 := depAll _ fun d m => by
        obtain ⟨r, _, rfl⟩ := List.mem_map.mp m
        have : PyData.depthAll (r.map fun p => PyData.tuple [.int p.1, .int p.2]) ≤ 50 := depAll _ fun d m => by
          obtain ⟨p, _, rfl⟩ := List.mem_map.mp m
          simp [PyData.depth, PyData.depthAll]
        simp only [PyData.depth]; omega
      simp only [PyData.depth]; omega
  · cases t with
    | nil => exact absurd h.1 (by decide)
    | cons a t => simp only [List.map_cons, PyData.eqv, PyData.eqvAll]
theorem is_tb {k : Nat} {t : List Row} {M : Mem} (h : TabOk t) : ∃ M', run (k + 5) 6 [encT t] M = .ok (.bl true) M' ∧ Kp N0 M M' := by
  obtain ⟨M', e, hk⟩ := all_true (it := iE (eV 0)) (v := .tup (t.map encR)) (ds := t.map encR) (j := 1) (te := eCall (run (k + 4) 5) [] (aC (eV 1) (aC (eF bLen (aC (eV 0) aN)) aN))) (vs := [1]) (L := [some (encT t), none]) (M := M) (M0 := M) rfl Iw.tup (by rw [List.length_map]; exact Nat.le_trans h.2.1 (by decide))
    (fun i d M' hd _ => by
      obtain ⟨x, hx, rfl⟩ := map_at hd
      obtain ⟨M2, e1, e2⟩ := is_rw (k := k) (M := M') (h.2.2 x hx)
      refine ⟨M2, ?_, e2⟩
      simp only [bind_ok, bind_ex, outE_ok, outE_ex, retF_nx, retF_rt, retF_xc, x_optR, x_eV, x_eC, x_kB, x_eB, x_eU, x_eF, x_kM, x_eM, x_ift, x_iff, x_eIf, x_kTup, x_kLst, x_eTup, x_eLst, x_aN, x_kCc, x_kC, x_aC, x_tV, x_kCn, x_kCm, x_tCm, x_okB, x_tA, x_tO, x_kN, x_tN, x_tCh, x_kCj, x_kCi, x_kCh, x_eCh, x_kNb, x_kAn, x_kOr, x_kNo, x_eAnd, x_eOr, x_eNot, x_kCl, x_eCall, x_kS2, x_kS1, x_eSl, x_oN, x_asO, x_oS, x_mLoc, x_kML, x_eML, x_kM0, x_kMl0, x_eML0, x_truB, x_truI, x_asB, x_cnx, x_crt, x_cbk, x_cct, x_cxc, x_sSeq, x_sNil, x_sBrk, x_sCnt, x_kEx, x_kSet, x_sEx, x_sSet, x_okO, x_putsN, x_putsC, x_kPar, x_sPar, x_kRet, x_sRet, x_sRetN, x_sIf, x_kSb3, x_kSb2, x_kSb1, x_sSub, x_kAsg, x_sAsg, x_pnm, x_ptp, x_kFor, x_sFor, x_itT, x_iR1, x_kR2, x_iR2, x_iE, x_tY, x_wN, x_wC, List.getElem?_cons_zero, List.getElem?_cons_succ, List.set_cons_zero, List.set_cons_succ, List.append_nil, List.nil_append, List.cons_append, List.length_cons, List.length_nil, Nat.reduceLeDiff, Nat.reduceAdd, Bool.not_true, Bool.not_false, T_ok, true_or, true_and, and_true, if_true, if_false, encT, len_tup, List.length_map, e1])
  refine ⟨M', ?_, hk⟩
  rw [in_is_table]
  have e2 : dEq (.tup (t.map encR)) (.tup []) M = .ok (.bl false) M := by
    obtain ⟨p, h1, h2, h3⟩ := reif_tab h
    have := eq_of (d := encT t) (e := .tup []) (q := .tuple []) (M := M) rfl h1 (by unfold reif; unfold reifs; rfl) h2 rfl
    rw [h3] at this
    exact this
  simp only [B_is_table, encT, bind_ok, bind_ex, outE_ok, outE_ex, retF_nx, retF_rt, retF_xc, x_optR, x_eV, x_eC, x_kB, x_eB, x_eU, x_eF, x_kM, x_eM, x_ift, x_iff, x_eIf, x_kTup, x_kLst, x_eTup, x_eLst, x_aN, x_kCc, x_kC, x_aC, x_tV, x_kCn, x_kCm, x_tCm, x_okB, x_tA, x_tO, x_kN, x_tN, x_tCh, x_kCj, x_kCi, x_kCh, x_eCh, x_kNb, x_kAn, x_kOr, x_kNo, x_eAnd, x_eOr, x_eNot, x_kCl, x_eCall, x_kS2, x_kS1, x_eSl, x_oN, x_asO, x_oS, x_mLoc, x_kML, x_eML, x_kM0, x_kMl0, x_eML0, x_truB, x_truI, x_asB, x_cnx, x_crt, x_cbk, x_cct, x_cxc, x_sSeq, x_sNil, x_sBrk, x_sCnt, x_kEx, x_kSet, x_sEx, x_sSet, x_okO, x_putsN, x_putsC, x_kPar, x_sPar, x_kRet, x_sRet, x_sRetN, x_sIf, x_kSb3, x_kSb2, x_kSb1, x_sSub, x_kAsg, x_sAsg, x_pnm, x_ptp, x_kFor, x_sFor, x_itT, x_iR1, x_kR2, x_iR2, x_iE, x_tY, x_wN, x_wC, List.getElem?_cons_zero, List.getElem?_cons_succ, List.set_cons_zero, List.set_cons_succ, List.append_nil, List.nil_append, List.cons_append, List.length_cons, List.length_nil, Nat.reduceLeDiff, Nat.reduceAdd, Bool.not_true, Bool.not_false, T_ok, true_or, true_and, and_true, if_true, if_false, isi_tt, e2] at e ⊢
  simp only [e, bind_ok, bind_ex, outE_ok, outE_ex, retF_nx, retF_rt, retF_xc, x_optR, x_eV, x_eC, x_kB, x_eB, x_eU, x_eF, x_kM, x_eM, x_ift, x_iff, x_eIf, x_kTup, x_kLst, x_eTup, x_eLst, x_aN, x_kCc, x_kC, x_aC, x_tV, x_kCn, x_kCm, x_tCm, x_okB, x_tA, x_tO, x_kN, x_tN, x_tCh, x_kCj, x_kCi, x_kCh, x_eCh, x_kNb, x_kAn, x_kOr, x_kNo, x_eAnd, x_eOr, x_eNot, x_kCl, x_eCall, x_kS2, x_kS1, x_eSl, x_oN, x_asO, x_oS, x_mLoc, x_kML, x_eML, x_kM0, x_kMl0, x_eML0, x_truB, x_truI, x_asB, x_cnx, x_crt, x_cbk, x_cct, x_cxc, x_sSeq, x_sNil, x_sBrk, x_sCnt, x_kEx, x_kSet, x_sEx, x_sSet, x_okO, x_putsN, x_putsC, x_kPar, x_sPar, x_kRet, x_sRet, x_sRetN, x_sIf, x_kSb3, x_kSb2, x_kSb1, x_sSub, x_kAsg, x_sAsg, x_pnm, x_ptp, x_kFor, x_sFor, x_itT, x_iR1, x_kR2, x_iR2, x_iE, x_tY, x_wN, x_wC, List.getElem?_cons_zero, List.getElem?_cons_succ, List.set_cons_zero, List.set_cons_succ, List.append_nil, List.nil_append, List.cons_append, List.length_cons, List.length_nil, Nat.reduceLeDiff, Nat.reduceAdd, Bool.not_true, Bool.not_false, T_ok, true_or, true_and, and_true, if_true, if_false]
theorem need_tb {k : Nat} {t : List Row} {M : Mem} (h : TabOk t) : ∃ M', run (k + 6) 7 [encT t] M = .ok .non M' ∧ Kp N0 M M' := by
  obtain ⟨M', e, hk⟩ := is_tb (k := k) (M := M) h
  refine ⟨M', ?_, hk⟩
  rw [in_need_table]
  simp only [B_need_table, bind_ok, bind_ex, outE_ok, outE_ex, retF_nx, retF_rt, retF_xc, x_optR, x_eV, x_eC, x_kB, x_eB, x_eU, x_eF, x_kM, x_eM, x_ift, x_iff, x_eIf, x_kTup, x_kLst, x_eTup, x_eLst, x_aN, x_kCc, x_kC, x_aC, x_tV, x_kCn, x_kCm, x_tCm, x_okB, x_tA, x_tO, x_kN, x_tN, x_tCh, x_kCj, x_kCi, x_kCh, x_eCh, x_kNb, x_kAn, x_kOr, x_kNo, x_eAnd, x_eOr, x_eNot, x_kCl, x_eCall, x_kS2, x_kS1, x_eSl, x_oN, x_asO, x_oS, x_mLoc, x_kML, x_eML, x_kM0, x_kMl0, x_eML0, x_truB, x_truI, x_asB, x_cnx, x_crt, x_cbk, x_cct, x_cxc, x_sSeq, x_sNil, x_sBrk, x_sCnt, x_kEx, x_kSet, x_sEx, x_sSet, x_okO, x_putsN, x_putsC, x_kPar, x_sPar, x_kRet, x_sRet, x_sRetN, x_sIf, x_kSb3, x_kSb2, x_kSb1, x_sSub, x_kAsg, x_sAsg, x_pnm, x_ptp, x_kFor, x_sFor, x_itT, x_iR1, x_kR2, x_iR2, x_iE, x_tY, x_wN, x_wC, List.getElem?_cons_zero, List.getElem?_cons_succ, List.set_cons_zero, List.set_cons_succ, List.append_nil, List.nil_append, List.cons_append, List.length_cons, List.length_nil, Nat.reduceLeDiff, Nat.reduceAdd, Bool.not_true, Bool.not_false, T_ok, true_or, true_and, and_true, if_true, if_false, e]
theorem need_vl {k : Nat} {a b c : Int} {M : Mem} : ∃ M', run (k + 2) 2 [.tup [.int a, .int b, .int c], .int 3] M = .ok .non M' ∧ Kp N0 M M' := by
  obtain ⟨M', e, hk⟩ := all_true (it := iE (eV 0)) (v := .tup [.int a, .int b, .int c]) (ds := [.int a, .int b, .int c]) (j := 2) (te := eCall (run (k + 1) 0) [] (aC (eV 2) aN)) (vs := [2]) (L := [some (.tup [.int a, .int b, .int c]), some (.int 3), none]) (M := M) (M0 := M) rfl Iw.tup (Nat.le_of_ble_eq_true rfl)
    (fun i d M' hd _ => by
      have : ∃ x : Int, d = .int x := by
        rcases i with _ | _ | _ | i <;> simp at hd <;> exact ⟨_, hd.symm⟩
      obtain ⟨x, rfl⟩ := this
      refine ⟨M', ?_, Kp.refl _⟩
      simp only [bind_ok, bind_ex, outE_ok, outE_ex, retF_nx, retF_rt, retF_xc, x_optR, x_eV, x_eC, x_kB, x_eB, x_eU, x_eF, x_kM, x_eM, x_ift, x_iff, x_eIf, x_kTup, x_kLst, x_eTup, x_eLst, x_aN, x_kCc, x_kC, x_aC, x_tV, x_kCn, x_kCm, x_tCm, x_okB, x_tA, x_tO, x_kN, x_tN, x_tCh, x_kCj, x_kCi, x_kCh, x_eCh, x_kNb, x_kAn, x_kOr, x_kNo, x_eAnd, x_eOr, x_eNot, x_kCl, x_eCall, x_kS2, x_kS1, x_eSl, x_oN, x_asO, x_oS, x_mLoc, x_kML, x_eML, x_kM0, x_kMl0, x_eML0, x_truB, x_truI, x_asB, x_cnx, x_crt, x_cbk, x_cct, x_cxc, x_sSeq, x_sNil, x_sBrk, x_sCnt, x_kEx, x_kSet, x_sEx, x_sSet, x_okO, x_putsN, x_putsC, x_kPar, x_sPar, x_kRet, x_sRet, x_sRetN, x_sIf, x_kSb3, x_kSb2, x_kSb1, x_sSub, x_kAsg, x_sAsg, x_pnm, x_ptp, x_kFor, x_sFor, x_itT, x_iR1, x_kR2, x_iR2, x_iE, x_tY, x_wN, x_wC, List.getElem?_cons_zero, List.getElem?_cons_succ, List.set_cons_zero, List.set_cons_succ, List.append_nil, List.nil_append, List.cons_append, List.length_cons, List.length_nil, Nat.reduceLeDiff, Nat.reduceAdd, Bool.not_true, Bool.not_false, T_ok, true_or, true_and, and_true, if_true, if_false, is_int])
  refine ⟨M', ?_, hk⟩
  rw [in_need_values]
  have e2 : dNe (.int ((0 + 1 + 1 + 1 : Nat) : Int)) (.int 3) M = .ok (.bl false) M := rfl
  simp only [B_need_values, bind_ok, bind_ex, outE_ok, outE_ex, retF_nx, retF_rt, retF_xc, x_optR, x_eV, x_eC, x_kB, x_eB, x_eU, x_eF, x_kM, x_eM, x_ift, x_iff, x_eIf, x_kTup, x_kLst, x_eTup, x_eLst, x_aN, x_kCc, x_kC, x_aC, x_tV, x_kCn, x_kCm, x_tCm, x_okB, x_tA, x_tO, x_kN, x_tN, x_tCh, x_kCj, x_kCi, x_kCh, x_eCh, x_kNb, x_kAn, x_kOr, x_kNo, x_eAnd, x_eOr, x_eNot, x_kCl, x_eCall, x_kS2, x_kS1, x_eSl, x_oN, x_asO, x_oS, x_mLoc, x_kML, x_eML, x_kM0, x_kMl0, x_eML0, x_truB, x_truI, x_asB, x_cnx, x_crt, x_cbk, x_cct, x_cxc, x_sSeq, x_sNil, x_sBrk, x_sCnt, x_kEx, x_kSet, x_sEx, x_sSet, x_okO, x_putsN, x_putsC, x_kPar, x_sPar, x_kRet, x_sRet, x_sRetN, x_sIf, x_kSb3, x_kSb2, x_kSb1, x_sSub, x_kAsg, x_sAsg, x_pnm, x_ptp, x_kFor, x_sFor, x_itT, x_iR1, x_kR2, x_iR2, x_iE, x_tY, x_wN, x_wC, List.getElem?_cons_zero, List.getElem?_cons_succ, List.set_cons_zero, List.set_cons_succ, List.append_nil, List.nil_append, List.cons_append, List.length_cons, List.length_nil, Nat.reduceLeDiff, Nat.reduceAdd, Bool.not_true, Bool.not_false, T_ok, true_or, true_and, and_true, if_true, if_false, isi_tt, len_tup] at e ⊢
  simp only [show dNe (.int ((3 : Nat) : Int)) (.int 3) M = .ok (.bl false) M from rfl, bind_ok, bind_ex, outE_ok, outE_ex, retF_nx, retF_rt, retF_xc, x_optR, x_eV, x_eC, x_kB, x_eB, x_eU, x_eF, x_kM, x_eM, x_ift, x_iff, x_eIf, x_kTup, x_kLst, x_eTup, x_eLst, x_aN, x_kCc, x_kC, x_aC, x_tV, x_kCn, x_kCm, x_tCm, x_okB, x_tA, x_tO, x_kN, x_tN, x_tCh, x_kCj, x_kCi, x_kCh, x_eCh, x_kNb, x_kAn, x_kOr, x_kNo, x_eAnd, x_eOr, x_eNot, x_kCl, x_eCall, x_kS2, x_kS1, x_eSl, x_oN, x_asO, x_oS, x_mLoc, x_kML, x_eML, x_kM0, x_kMl0, x_eML0, x_truB, x_truI, x_asB, x_cnx, x_crt, x_cbk, x_cct, x_cxc, x_sSeq, x_sNil, x_sBrk, x_sCnt, x_kEx, x_kSet, x_sEx, x_sSet, x_okO, x_putsN, x_putsC, x_kPar, x_sPar, x_kRet, x_sRet, x_sRetN, x_sIf, x_kSb3, x_kSb2, x_kSb1, x_sSub, x_kAsg, x_sAsg, x_pnm, x_ptp, x_kFor, x_sFor, x_itT, x_iR1, x_kR2, x_iR2, x_iE, x_tY, x_wN, x_wC, List.getElem?_cons_zero, List.getElem?_cons_succ, List.set_cons_zero, List.set_cons_succ, List.append_nil, List.nil_append, List.cons_append, List.length_cons, List.length_nil, Nat.reduceLeDiff, Nat.reduceAdd, Bool.not_true, Bool.not_false, T_ok, true_or, true_and, and_true, if_true, if_false, e]
theorem need_wd {k w : Nat} {M : Mem} (h1 : 1 ≤ w) (h2 : w ≤ 2000) : run (k + 3) 3 [.int w, .int 2000] M = .ok .non M := by
  rw [in_need_width]
  simp only [B_need_width, bind_ok, bind_ex, outE_ok, outE_ex, retF_nx, retF_rt, retF_xc, x_optR, x_eV, x_eC, x_kB, x_eB, x_eU, x_eF, x_kM, x_eM, x_ift, x_iff, x_eIf, x_kTup, x_kLst, x_eTup, x_eLst, x_aN, x_kCc, x_kC, x_aC, x_tV, x_kCn, x_kCm, x_tCm, x_okB, x_tA, x_tO, x_kN, x_tN, x_tCh, x_kCj, x_kCi, x_kCh, x_eCh, x_kNb, x_kAn, x_kOr, x_kNo, x_eAnd, x_eOr, x_eNot, x_kCl, x_eCall, x_kS2, x_kS1, x_eSl, x_oN, x_asO, x_oS, x_mLoc, x_kML, x_eML, x_kM0, x_kMl0, x_eML0, x_truB, x_truI, x_asB, x_cnx, x_crt, x_cbk, x_cct, x_cxc, x_sSeq, x_sNil, x_sBrk, x_sCnt, x_kEx, x_kSet, x_sEx, x_sSet, x_okO, x_putsN, x_putsC, x_kPar, x_sPar, x_kRet, x_sRet, x_sRetN, x_sIf, x_kSb3, x_kSb2, x_kSb1, x_sSub, x_kAsg, x_sAsg, x_pnm, x_ptp, x_kFor, x_sFor, x_itT, x_iR1, x_kR2, x_iR2, x_iE, x_tY, x_wN, x_wC, List.getElem?_cons_zero, List.getElem?_cons_succ, List.set_cons_zero, List.set_cons_succ, List.append_nil, List.nil_append, List.cons_append, List.length_cons, List.length_nil, Nat.reduceLeDiff, Nat.reduceAdd, Bool.not_true, Bool.not_false, T_ok, true_or, true_and, and_true, if_true, if_false, is_btw (k := k) (i := w) (a := 1) (b := 2000) (M := M) (by omega) (by omega)]
/-! ### one step; the text that is due -/
def stp (t : List Row) (a l : Nat) : Int × Nat := (t.getD a []).getD l (0, 0)
theorem stp_ok {t : List Row} {a l : Nat} (h : TabOk t) (ha : a < t.length) (hl : l < 8) : ∃ r, r ∈ t ∧ (t.map encR)[a]? = some (encR r) ∧ (r.map encP)[l]? = some (encP (stp t a l)) ∧ ((stp t a l).1 = 0 ∨ (stp t a l).1 = 1) ∧ (stp t a l).2 < t.length := by
  have hr := h.2.2 t[a] (List.getElem_mem ha)
  have hl' : l < (t[a]).length := by rw [hr.1]; exact hl
  have e : stp t a l = (t[a])[l] := by
    simp only [stp, List.getD_eq_getElem?_getD, List.getElem?_eq_getElem ha, Option.getD_some, List.getElem?_eq_getElem hl']
  refine ⟨t[a], List.getElem_mem ha, ?_, ?_, ?_, ?_⟩
  · rw [List.getElem?_map, List.getElem?_eq_getElem ha]; rfl
  · rw [List.getElem?_map, List.getElem?_eq_getElem hl', e]; rfl
  · rw [e]; exact (hr.2 _ (List.getElem_mem hl')).1
  · rw [e]; exact (hr.2 _ (List.getElem_mem hl')).2
section
variable (t : List Row) (a b c : Int)
def letN (i : Nat) : Nat := (a / 2 ^ i % 2).toNat * 4 + (b / 2 ^ i % 2).toNat * 2 + (c / 2 ^ i % 2).toNat
def stN : Nat → Nat
  | 0 => 0
  | i + 1 => (stp t (stN i) (letN a b c i)).2
def bitN (i : Nat) : Int := (stp t (stN t a b c i) (letN a b c i)).1
def bits (n : Nat) : List Int := (List.range n).map (bitN t a b c)
end
theorem letN_lt {a b c : Int} {i : Nat} : letN a b c i < 8 := by
  unfold letN
  omega
theorem stN_lt {t : List Row} {a b c : Int} (h : TabOk t) : ∀ i, stN t a b c i < t.length
  | 0 => h.1
  | i + 1 => let ⟨_, _, _, _, _, x⟩ := stp_ok h (stN_lt h i) (letN_lt (a := a) (b := b) (c := c) (i := i)); x
theorem bitN_01 {t : List Row} {a b c : Int} (h : TabOk t) (i : Nat) : bitN t a b c i = 0 ∨ bitN t a b c i = 1 :=
  let ⟨_, _, _, _, x, _⟩ := stp_ok h (stN_lt h i) (letN_lt (a := a) (b := b) (c := c) (i := i)); x
def H (l : List Int) : Int := l.foldr (fun b f => 2 * f + b) 0
theorem H_app (l : List Int) (b : Int) : H (l ++ [b]) = H l + b * 2 ^ l.length := by
  induction l with
  | nil => simp [H]
  | cons x l ih =>
    simp only [H, List.cons_append, List.foldr_cons, List.length_cons] at ih ⊢
    rw [ih, Int.pow_succ]
    have : b * (2 ^ l.length * 2) = 2 * (b * 2 ^ l.length) := by rw [← Int.mul_assoc, Int.mul_comm]
    omega
theorem H_lt (l : List Int) (h : ∀ b ∈ l, b = 0 ∨ b = 1) : 0 ≤ H l ∧ H l < 2 ^ l.length := by
  induction l with
  | nil => simp [H]
  | cons x l ih =>
    obtain ⟨i1, i2⟩ := ih fun b m => h b (List.mem_cons_of_mem _ m)
    have hx := h x (by simp)
    simp only [H, List.foldr_cons, List.length_cons] at i1 i2 ⊢
    rw [Int.pow_succ]
    omega
theorem bits_len {t : List Row} {a b c : Int} {n : Nat} : (bits t a b c n).length = n := by simp [bits]
theorem bits_succ {t : List Row} {a b c : Int} {n : Nat} : bits t a b c (n + 1) = bits t a b c n ++ [bitN t a b c n] := by simp [bits, List.range_succ]
theorem bits_01 {t : List Row} {a b c : Int} (h : TabOk t) {n : Nat} : ∀ x ∈ bits t a b c n, x = 0 ∨ x = 1 := fun x m => by
  obtain ⟨i, _, rfl⟩ := List.mem_map.mp m
  exact bitN_01 h i
/-! ### the program's run -/
theorem letter_run {k : Nat} {a b c : Int} {i : Nat} {M : Mem} : run (k + 1) 8 [.tup [.int a, .int b, .int c], .int i] M = .ok (.int (letN a b c i : Nat)) M := by
  rw [in_letter_at]
  have e0 : dIx (.tup [.int a, .int b, .int c]) (.int 0) M = .ok (.int a) M := ix_tup (i := 0) rfl
  have e1 : dIx (.tup [.int a, .int b, .int c]) (.int 1) M = .ok (.int b) M := ix_tup (i := 1) rfl
  have e2 : dIx (.tup [.int a, .int b, .int c]) (.int 2) M = .ok (.int c) M := ix_tup (i := 2) rfl
  have m (x : Int) : (x % 2).natAbs < 2 ^ 1 := by omega
  have q : ((letN a b c i : Nat) : Int) = a / 2 ^ i % 2 * 4 + b / 2 ^ i % 2 * 2 + c / 2 ^ i % 2 := by
    unfold letN
    omega
  simp only [B_letter_at, bind_ok, bind_ex, outE_ok, outE_ex, retF_nx, retF_rt, retF_xc, x_optR, x_eV, x_eC, x_kB, x_eB, x_eU, x_eF, x_kM, x_eM, x_ift, x_iff, x_eIf, x_kTup, x_kLst, x_eTup, x_eLst, x_aN, x_kCc, x_kC, x_aC, x_tV, x_kCn, x_kCm, x_tCm, x_okB, x_tA, x_tO, x_kN, x_tN, x_tCh, x_kCj, x_kCi, x_kCh, x_eCh, x_kNb, x_kAn, x_kOr, x_kNo, x_eAnd, x_eOr, x_eNot, x_kCl, x_eCall, x_kS2, x_kS1, x_eSl, x_oN, x_asO, x_oS, x_mLoc, x_kML, x_eML, x_kM0, x_kMl0, x_eML0, x_truB, x_truI, x_asB, x_cnx, x_crt, x_cbk, x_cct, x_cxc, x_sSeq, x_sNil, x_sBrk, x_sCnt, x_kEx, x_kSet, x_sEx, x_sSet, x_okO, x_putsN, x_putsC, x_kPar, x_sPar, x_kRet, x_sRet, x_sRetN, x_sIf, x_kSb3, x_kSb2, x_kSb1, x_sSub, x_kAsg, x_sAsg, x_pnm, x_ptp, x_kFor, x_sFor, x_itT, x_iR1, x_kR2, x_iR2, x_iE, x_tY, x_wN, x_wC, List.getElem?_cons_zero, List.getElem?_cons_succ, List.set_cons_zero, List.set_cons_succ, List.append_nil, List.nil_append, List.cons_append, List.length_cons, List.length_nil, Nat.reduceLeDiff, Nat.reduceAdd, Bool.not_true, Bool.not_false, T_ok, true_or, true_and, and_true, if_true, if_false, e0, shr_ok, dI, and1, fun M x => @mul_ok (x % 2) 4 M 1 3 (m x) (by decide) (by omega) (by omega) (by omega), fun M x => @mul_ok (x % 2) 2 M 1 3 (m x) (by decide) (by omega) (by omega) (by omega), e1, e2, dAdd, q]
theorem run_run {k : Nat} {t : List Row} {a b c : Int} {w : Nat} {M : Mem} (h : TabOk t) (h1 : 1 ≤ w) (h2 : w ≤ 2000) :
    ∃ M', run (k + 7) 9 [encT t, .tup [.int a, .int b, .int c], .int w] M = .ok (.int (H (bits t a b c w))) M' ∧ Kp N0 M M' := by
  obtain ⟨M1, e1, k1⟩ := need_tb (k := k) (M := M) h
  obtain ⟨M2, e2, k2⟩ := need_vl (k := k + 4) (a := a) (b := b) (c := c) (M := M1)
  have e3 := need_wd (k := k + 3) (M := M2) h1 h2
  obtain ⟨L', M', e, x5, x6, hL, hM⟩ := for_T (v := .rng 0 w) (j := 5) (b := (sSeq (sAsg (.tp [6, 3]) (eB dIx (eB dIx (eV 0) (eV 3)) (eCall (run (k + 6) 8) [] (aC (eV 1) (aC (eV 5) aN)))))
  (sSet 4 (eB dAdd (eV 4) (eB dShl (eV 6) (eV 5)))))) (n := w) (L := [some (encT t), some (.tup [.int a, .int b, .int c]), some (.int w), some (.int (0 : Nat)), some (.int 0), none, none]) (M := M2)
    (fun i L M' => ∃ x5 x6, L = [some (encT t), some (.tup [.int a, .int b, .int c]), some (.int w), some (.int (stN t a b c i : Nat)), some (.int (H (bits t a b c i))), x5, x6] ∧ M' = M2) ⟨none, none, rfl, rfl⟩
    (fun i L M' hi ⟨x5, x6, hL, hM⟩ => by
      subst hL; subst hM
      refine ⟨_, rng_at hi, ?_⟩
      obtain ⟨r, _, g1, g2, g3, g4⟩ := stp_ok h (stN_lt (a := a) (b := b) (c := c) h i) (letN_lt (a := a) (b := b) (c := c) (i := i))
      have q : (stp t (stN t a b c i) (letN a b c i)).1.natAbs < 2 ^ 1 := by omega
      have z : (0 : Int) + (i : Nat) = (i : Nat) := by omega
      simp only [z, bind_ok, bind_ex, outE_ok, outE_ex, retF_nx, retF_rt, retF_xc, x_optR, x_eV, x_eC, x_kB, x_eB, x_eU, x_eF, x_kM, x_eM, x_ift, x_iff, x_eIf, x_kTup, x_kLst, x_eTup, x_eLst, x_aN, x_kCc, x_kC, x_aC, x_tV, x_kCn, x_kCm, x_tCm, x_okB, x_tA, x_tO, x_kN, x_tN, x_tCh, x_kCj, x_kCi, x_kCh, x_eCh, x_kNb, x_kAn, x_kOr, x_kNo, x_eAnd, x_eOr, x_eNot, x_kCl, x_eCall, x_kS2, x_kS1, x_eSl, x_oN, x_asO, x_oS, x_mLoc, x_kML, x_eML, x_kM0, x_kMl0, x_eML0, x_truB, x_truI, x_asB, x_cnx, x_crt, x_cbk, x_cct, x_cxc, x_sSeq, x_sNil, x_sBrk, x_sCnt, x_kEx, x_kSet, x_sEx, x_sSet, x_okO, x_putsN, x_putsC, x_kPar, x_sPar, x_kRet, x_sRet, x_sRetN, x_sIf, x_kSb3, x_kSb2, x_kSb1, x_sSub, x_kAsg, x_sAsg, x_pnm, x_ptp, x_kFor, x_sFor, x_itT, x_iR1, x_kR2, x_iR2, x_iE, x_tY, x_wN, x_wC, List.getElem?_cons_zero, List.getElem?_cons_succ, List.set_cons_zero, List.set_cons_succ, List.append_nil, List.nil_append, List.cons_append, List.length_cons, List.length_nil, Nat.reduceLeDiff, Nat.reduceAdd, Bool.not_true, Bool.not_false, T_ok, true_or, true_and, and_true, if_true, if_false, encT, letter_run, fun M => ix_tup (M := M) g1, encR, fun M => ix_tup (M := M) g2, encP, fun M => @shl_ok _ i M 1 q (by omega) (by omega), dAdd]
      have eH : H (bits t a b c (i + 1)) = H (bits t a b c i) + (stp t (stN t a b c i) (letN a b c i)).1 * 2 ^ i := by rw [bits_succ, H_app, bits_len]; rfl
      rw [eH]
      exact ⟨_, _, rfl⟩)
    (fun _ _ _ => rng_end)
  subst hL; subst hM
  refine ⟨M', ?_, k1.trans k2⟩
  rw [in_run]
  simp only [B_run, c_VARIABLES, dd_need_width_1, bind_ok, bind_ex, outE_ok, outE_ex, retF_nx, retF_rt, retF_xc, x_optR, x_eV, x_eC, x_kB, x_eB, x_eU, x_eF, x_kM, x_eM, x_ift, x_iff, x_eIf, x_kTup, x_kLst, x_eTup, x_eLst, x_aN, x_kCc, x_kC, x_aC, x_tV, x_kCn, x_kCm, x_tCm, x_okB, x_tA, x_tO, x_kN, x_tN, x_tCh, x_kCj, x_kCi, x_kCh, x_eCh, x_kNb, x_kAn, x_kOr, x_kNo, x_eAnd, x_eOr, x_eNot, x_kCl, x_eCall, x_kS2, x_kS1, x_eSl, x_oN, x_asO, x_oS, x_mLoc, x_kML, x_eML, x_kM0, x_kMl0, x_eML0, x_truB, x_truI, x_asB, x_cnx, x_crt, x_cbk, x_cct, x_cxc, x_sSeq, x_sNil, x_sBrk, x_sCnt, x_kEx, x_kSet, x_sEx, x_sSet, x_okO, x_putsN, x_putsC, x_kPar, x_sPar, x_kRet, x_sRet, x_sRetN, x_sIf, x_kSb3, x_kSb2, x_kSb1, x_sSub, x_kAsg, x_sAsg, x_pnm, x_ptp, x_kFor, x_sFor, x_itT, x_iR1, x_kR2, x_iR2, x_iE, x_tY, x_wN, x_wC, List.getElem?_cons_zero, List.getElem?_cons_succ, List.set_cons_zero, List.set_cons_succ, List.append_nil, List.nil_append, List.cons_append, List.length_cons, List.length_nil, Nat.reduceLeDiff, Nat.reduceAdd, Bool.not_true, Bool.not_false, T_ok, true_or, true_and, and_true, if_true, if_false, e1, e2, e3, x_r1 (n := w) (by omega), IV.size]
  simp only [Int.natCast_zero] at e
  simp only [e, bind_ok, bind_ex, outE_ok, outE_ex, retF_nx, retF_rt, retF_xc, x_optR, x_eV, x_eC, x_kB, x_eB, x_eU, x_eF, x_kM, x_eM, x_ift, x_iff, x_eIf, x_kTup, x_kLst, x_eTup, x_eLst, x_aN, x_kCc, x_kC, x_aC, x_tV, x_kCn, x_kCm, x_tCm, x_okB, x_tA, x_tO, x_kN, x_tN, x_tCh, x_kCj, x_kCi, x_kCh, x_eCh, x_kNb, x_kAn, x_kOr, x_kNo, x_eAnd, x_eOr, x_eNot, x_kCl, x_eCall, x_kS2, x_kS1, x_eSl, x_oN, x_asO, x_oS, x_mLoc, x_kML, x_eML, x_kM0, x_kMl0, x_eML0, x_truB, x_truI, x_asB, x_cnx, x_crt, x_cbk, x_cct, x_cxc, x_sSeq, x_sNil, x_sBrk, x_sCnt, x_kEx, x_kSet, x_sEx, x_sSet, x_okO, x_putsN, x_putsC, x_kPar, x_sPar, x_kRet, x_sRet, x_sRetN, x_sIf, x_kSb3, x_kSb2, x_kSb1, x_sSub, x_kAsg, x_sAsg, x_pnm, x_ptp, x_kFor, x_sFor, x_itT, x_iR1, x_kR2, x_iR2, x_iE, x_tY, x_wN, x_wC, List.getElem?_cons_zero, List.getElem?_cons_succ, List.set_cons_zero, List.set_cons_succ, List.append_nil, List.nil_append, List.cons_append, List.length_cons, List.length_nil, Nat.reduceLeDiff, Nat.reduceAdd, Bool.not_true, Bool.not_false, T_ok, true_or, true_and, and_true, if_true, if_false]
/-! ### what is due -/
theorem at3_0 {M : Mem} {p : Nat} {a b c : D} (h : M[p]? = some (.lst [a, b, c])) : dIx (.loc p) (.int 0) M = .ok a M := ix_at (i := 0) h rfl
theorem half {a : Int} {i : Nat} : (a / 2 ^ i).fdiv 2 = a / 2 ^ (i + 1) := by
  rw [Int.fdiv_eq_ediv_of_nonneg _ (by decide), Int.pow_succ, Int.ediv_ediv_of_nonneg (Int.le_of_lt (Int.pow_pos (by decide)))]
theorem odd {a : Int} : a.fmod 2 = a % 2 := Int.fmod_eq_emod_of_nonneg _ (by decide)
theorem due_run {k : Nat} {t : List Row} {a b c : Int} {w : Nat} {M : Mem} (h : TabOk t) (h1 : 1 ≤ w) (h2 : w ≤ 2000) :
    ∃ M', run (k + 1) 17 [encT t, .tup [.int a, .int b, .int c], .int w] M = .ok (.int (H (bits t a b c w))) M' ∧ Kp N0 M M' := by
  obtain ⟨L', M', e, x6, x7, x8, r, hL, hB, hR, hK, _⟩ := for_T (v := .rng 0 w) (j := 6) (b := (sSeq (sSet 7 (eB dAdd (eB dAdd (eB dMul (eB dMod (eB dIx (eV 5) (eC (.int 0))) (eC (.int 2))) (eC (.int 4))) (eB dMul (eB dMod (eB dIx (eV 5) (eC (.int 1))) (eC (.int 2))) (eC (.int 2)))) (eB dMod (eB dIx (eV 5) (eC (.int 2))) (eC (.int 2)))))
  (sSeq (sEx (eML mApp (eV 4) (aC (eB dIx (eB dIx (eB dIx (eV 0) (eV 3)) (eV 7)) (eC (.int 0))) aN)))
  (sPar [3, 5] (aC (eB dIx (eB dIx (eB dIx (eV 0) (eV 3)) (eV 7)) (eC (.int 1))) (aC (eLc (iE (eV 5)) (.nm 8) tY (eB dDiv (eV 8) (eC (.int 2))) [8]) aN)))))) (n := w)
    (L := [some (encT t), some (.tup [.int a, .int b, .int c]), some (.int w), some (.int (0 : Nat)), some (.loc M.length), some (.loc (M ++ [O.lst []]).length), none, none, none, none, none]) (M := M ++ [.lst []] ++ [.lst [.int a, .int b, .int c]])
    (fun i L M' => ∃ x6 x7 x8 r, L = [some (encT t), some (.tup [.int a, .int b, .int c]), some (.int w), some (.int (stN t a b c i : Nat)), some (.loc M.length), some (.loc r), x6, x7, x8, none, none] ∧ M'[M.length]? = some (.lst ((bits t a b c i).map D.int)) ∧ M'[r]? = some (.lst [.int (a / 2 ^ i), .int (b / 2 ^ i), .int (c / 2 ^ i)]) ∧ Kp N0 M M' ∧ M.length < r)
    ⟨none, none, none, _, rfl, by rw [List.getElem?_append_left (by simp)]; exact push_at _ _, by simpa using push_at (M ++ [O.lst []]) (O.lst [.int a, .int b, .int c]), (Kp.push _ _).pushn, by simp⟩
    (fun i L M' hi ⟨x6, x7, x8, r, hL, hB, hR, hK, hr⟩ => by
      subst hL
      refine ⟨_, rng_at hi, ?_⟩
      obtain ⟨rw_, _, g1, g2, g3, g4⟩ := stp_ok h (stN_lt (a := a) (b := b) (c := c) h i) (letN_lt (a := a) (b := b) (c := c) (i := i))
      have m (x : Int) : (x % 2).natAbs < 2 ^ 1 := by omega
      have q : a / 2 ^ i % 2 * 4 + b / 2 ^ i % 2 * 2 + c / 2 ^ i % 2 = ((letN a b c i : Nat) : Int) := by
        unfold letN
        omega
      have e0 (M : Mem) : dIx (.tup [.int (stp t (stN t a b c i) (letN a b c i)).1, .int (stp t (stN t a b c i) (letN a b c i)).2]) (.int 0) M = .ok (.int (stp t (stN t a b c i) (letN a b c i)).1) M := ix_tup (i := 0) rfl
      have e1 (M : Mem) : dIx (.tup [.int (stp t (stN t a b c i) (letN a b c i)).1, .int (stp t (stN t a b c i) (letN a b c i)).2]) (.int 1) M = .ok (.int (stp t (stN t a b c i) (letN a b c i)).2) M := ix_tup (i := 1) rfl
      have hne : r ≠ M.length := fun z => by
        omega
      have hl : ((bits t a b c i).map D.int).length < big := by rw [List.length_map, bits_len]; exact Nat.lt_of_lt_of_le hi (Nat.le_trans h2 (by decide))
      have hR2 : (M'.set M.length (.lst ((bits t a b c i).map D.int ++ [.int (stp t (stN t a b c i) (letN a b c i)).1])))[r]? = some (.lst [.int (a / 2 ^ i), .int (b / 2 ^ i), .int (c / 2 ^ i)]) := by
        rw [List.getElem?_set_ne (Ne.symm hne)]; exact hR
      have eL := lc_pure (it := iE (eV 5)) (v := .loc r) (ds := [.int (a / 2 ^ i), .int (b / 2 ^ i), .int (c / 2 ^ i)]) (j := 8) (te := eB dDiv (eV 8) (eC (.int 2))) (vs := [8])
        (L := [some (encT t), some (.tup [.int a, .int b, .int c]), some (.int w), some (.int (stN t a b c i : Nat)), some (.loc M.length), some (.loc r), some (.int i), some (.int (letN a b c i : Nat)), x8, none, none])
        (M := M'.set M.length (.lst ((bits t a b c i).map D.int ++ [.int (stp t (stN t a b c i) (letN a b c i)).1]))) (M0 := M'.set M.length (.lst ((bits t a b c i).map D.int ++ [.int (stp t (stN t a b c i) (letN a b c i)).1])))
        (fun d => match d with
          | .int x => .int (x.fdiv 2)
          | d => d) (by simp only [bind_ok, bind_ex, outE_ok, outE_ex, retF_nx, retF_rt, retF_xc, x_optR, x_eV, x_eC, x_kB, x_eB, x_eU, x_eF, x_kM, x_eM, x_ift, x_iff, x_eIf, x_kTup, x_kLst, x_eTup, x_eLst, x_aN, x_kCc, x_kC, x_aC, x_tV, x_kCn, x_kCm, x_tCm, x_okB, x_tA, x_tO, x_kN, x_tN, x_tCh, x_kCj, x_kCi, x_kCh, x_eCh, x_kNb, x_kAn, x_kOr, x_kNo, x_eAnd, x_eOr, x_eNot, x_kCl, x_eCall, x_kS2, x_kS1, x_eSl, x_oN, x_asO, x_oS, x_mLoc, x_kML, x_eML, x_kM0, x_kMl0, x_eML0, x_truB, x_truI, x_asB, x_cnx, x_crt, x_cbk, x_cct, x_cxc, x_sSeq, x_sNil, x_sBrk, x_sCnt, x_kEx, x_kSet, x_sEx, x_sSet, x_okO, x_putsN, x_putsC, x_kPar, x_sPar, x_kRet, x_sRet, x_sRetN, x_sIf, x_kSb3, x_kSb2, x_kSb1, x_sSub, x_kAsg, x_sAsg, x_pnm, x_ptp, x_kFor, x_sFor, x_itT, x_iR1, x_kR2, x_iR2, x_iE, x_tY, x_wN, x_wC, List.getElem?_cons_zero, List.getElem?_cons_succ, List.set_cons_zero, List.set_cons_succ, List.append_nil, List.nil_append, List.cons_append, List.length_cons, List.length_nil, Nat.reduceLeDiff, Nat.reduceAdd, Bool.not_true, Bool.not_false, T_ok, true_or, true_and, and_true, if_true, if_false, x_itL hR2]) (Iw.loc hR2 id) (Nat.le_of_ble_eq_true rfl) (fun n d M3 hd _ => by
          have : ∃ x : Int, d = .int x := by
            rcases n with _ | _ | _ | n <;> simp at hd <;> exact ⟨_, hd.symm⟩
          obtain ⟨x, rfl⟩ := this
          simp only [bind_ok, bind_ex, outE_ok, outE_ex, retF_nx, retF_rt, retF_xc, x_optR, x_eV, x_eC, x_kB, x_eB, x_eU, x_eF, x_kM, x_eM, x_ift, x_iff, x_eIf, x_kTup, x_kLst, x_eTup, x_eLst, x_aN, x_kCc, x_kC, x_aC, x_tV, x_kCn, x_kCm, x_tCm, x_okB, x_tA, x_tO, x_kN, x_tN, x_tCh, x_kCj, x_kCi, x_kCh, x_eCh, x_kNb, x_kAn, x_kOr, x_kNo, x_eAnd, x_eOr, x_eNot, x_kCl, x_eCall, x_kS2, x_kS1, x_eSl, x_oN, x_asO, x_oS, x_mLoc, x_kML, x_eML, x_kM0, x_kMl0, x_eML0, x_truB, x_truI, x_asB, x_cnx, x_crt, x_cbk, x_cct, x_cxc, x_sSeq, x_sNil, x_sBrk, x_sCnt, x_kEx, x_kSet, x_sEx, x_sSet, x_okO, x_putsN, x_putsC, x_kPar, x_sPar, x_kRet, x_sRet, x_sRetN, x_sIf, x_kSb3, x_kSb2, x_kSb1, x_sSub, x_kAsg, x_sAsg, x_pnm, x_ptp, x_kFor, x_sFor, x_itT, x_iR1, x_kR2, x_iR2, x_iE, x_tY, x_wN, x_wC, List.getElem?_cons_zero, List.getElem?_cons_succ, List.set_cons_zero, List.set_cons_succ, List.append_nil, List.nil_append, List.cons_append, List.length_cons, List.length_nil, Nat.reduceLeDiff, Nat.reduceAdd, Bool.not_true, Bool.not_false, T_ok, true_or, true_and, and_true, if_true, if_false, fun M => @div_ok x 2 M 2 (by omega) (by decide) (by omega) (by omega)])
      simp only [List.map_cons, List.map_nil, half] at eL
      have z : (0 : Int) + (i : Nat) = (i : Nat) := by omega
      simp only [z, bind_ok, bind_ex, outE_ok, outE_ex, retF_nx, retF_rt, retF_xc, x_optR, x_eV, x_eC, x_kB, x_eB, x_eU, x_eF, x_kM, x_eM, x_ift, x_iff, x_eIf, x_kTup, x_kLst, x_eTup, x_eLst, x_aN, x_kCc, x_kC, x_aC, x_tV, x_kCn, x_kCm, x_tCm, x_okB, x_tA, x_tO, x_kN, x_tN, x_tCh, x_kCj, x_kCi, x_kCh, x_eCh, x_kNb, x_kAn, x_kOr, x_kNo, x_eAnd, x_eOr, x_eNot, x_kCl, x_eCall, x_kS2, x_kS1, x_eSl, x_oN, x_asO, x_oS, x_mLoc, x_kML, x_eML, x_kM0, x_kMl0, x_eML0, x_truB, x_truI, x_asB, x_cnx, x_crt, x_cbk, x_cct, x_cxc, x_sSeq, x_sNil, x_sBrk, x_sCnt, x_kEx, x_kSet, x_sEx, x_sSet, x_okO, x_putsN, x_putsC, x_kPar, x_sPar, x_kRet, x_sRet, x_sRetN, x_sIf, x_kSb3, x_kSb2, x_kSb1, x_sSub, x_kAsg, x_sAsg, x_pnm, x_ptp, x_kFor, x_sFor, x_itT, x_iR1, x_kR2, x_iR2, x_iE, x_tY, x_wN, x_wC, List.getElem?_cons_zero, List.getElem?_cons_succ, List.set_cons_zero, List.set_cons_succ, List.append_nil, List.nil_append, List.cons_append, List.length_cons, List.length_nil, Nat.reduceLeDiff, Nat.reduceAdd, Bool.not_true, Bool.not_false, T_ok, true_or, true_and, and_true, if_true, if_false, pen0 hR, pen1 hR, pen2 hR, fun M x => @mod_ok x 2 M (by omega), odd, fun M x => @mul_ok (x % 2) 4 M 1 3 (m x) (by decide) (by omega) (by omega) (by omega), fun M x => @mul_ok (x % 2) 2 M 1 3 (m x) (by decide) (by omega) (by omega) (by omega), dAdd, q]
      simp only [bind_ok, bind_ex, outE_ok, outE_ex, retF_nx, retF_rt, retF_xc, x_optR, x_eV, x_eC, x_kB, x_eB, x_eU, x_eF, x_kM, x_eM, x_ift, x_iff, x_eIf, x_kTup, x_kLst, x_eTup, x_eLst, x_aN, x_kCc, x_kC, x_aC, x_tV, x_kCn, x_kCm, x_tCm, x_okB, x_tA, x_tO, x_kN, x_tN, x_tCh, x_kCj, x_kCi, x_kCh, x_eCh, x_kNb, x_kAn, x_kOr, x_kNo, x_eAnd, x_eOr, x_eNot, x_kCl, x_eCall, x_kS2, x_kS1, x_eSl, x_oN, x_asO, x_oS, x_mLoc, x_kML, x_eML, x_kM0, x_kMl0, x_eML0, x_truB, x_truI, x_asB, x_cnx, x_crt, x_cbk, x_cct, x_cxc, x_sSeq, x_sNil, x_sBrk, x_sCnt, x_kEx, x_kSet, x_sEx, x_sSet, x_okO, x_putsN, x_putsC, x_kPar, x_sPar, x_kRet, x_sRet, x_sRetN, x_sIf, x_kSb3, x_kSb2, x_kSb1, x_sSub, x_kAsg, x_sAsg, x_pnm, x_ptp, x_kFor, x_sFor, x_itT, x_iR1, x_kR2, x_iR2, x_iE, x_tY, x_wN, x_wC, List.getElem?_cons_zero, List.getElem?_cons_succ, List.set_cons_zero, List.set_cons_succ, List.append_nil, List.nil_append, List.cons_append, List.length_cons, List.length_nil, Nat.reduceLeDiff, Nat.reduceAdd, Bool.not_true, Bool.not_false, T_ok, true_or, true_and, and_true, if_true, if_false, encT, fun M => ix_tup (M := M) g1, encR, fun M => ix_tup (M := M) g2, encP, e0, app_ok hB hl, e1]
      simp only [encT] at eL
      simp only [eL, bind_ok, bind_ex, outE_ok, outE_ex, retF_nx, retF_rt, retF_xc, x_optR, x_eV, x_eC, x_kB, x_eB, x_eU, x_eF, x_kM, x_eM, x_ift, x_iff, x_eIf, x_kTup, x_kLst, x_eTup, x_eLst, x_aN, x_kCc, x_kC, x_aC, x_tV, x_kCn, x_kCm, x_tCm, x_okB, x_tA, x_tO, x_kN, x_tN, x_tCh, x_kCj, x_kCi, x_kCh, x_eCh, x_kNb, x_kAn, x_kOr, x_kNo, x_eAnd, x_eOr, x_eNot, x_kCl, x_eCall, x_kS2, x_kS1, x_eSl, x_oN, x_asO, x_oS, x_mLoc, x_kML, x_eML, x_kM0, x_kMl0, x_eML0, x_truB, x_truI, x_asB, x_cnx, x_crt, x_cbk, x_cct, x_cxc, x_sSeq, x_sNil, x_sBrk, x_sCnt, x_kEx, x_kSet, x_sEx, x_sSet, x_okO, x_putsN, x_putsC, x_kPar, x_sPar, x_kRet, x_sRet, x_sRetN, x_sIf, x_kSb3, x_kSb2, x_kSb1, x_sSub, x_kAsg, x_sAsg, x_pnm, x_ptp, x_kFor, x_sFor, x_itT, x_iR1, x_kR2, x_iR2, x_iE, x_tY, x_wN, x_wC, List.getElem?_cons_zero, List.getElem?_cons_succ, List.set_cons_zero, List.set_cons_succ, List.append_nil, List.nil_append, List.cons_append, List.length_cons, List.length_nil, Nat.reduceLeDiff, Nat.reduceAdd, Bool.not_true, Bool.not_false, T_ok, true_or, true_and, and_true, if_true, if_false]
      refine ⟨_, _, _, _, rfl, ?_, ?_, ?_, ?_⟩
      · rw [List.getElem?_append_left (by rw [List.length_set]; exact mem_lt hB), set_at (mem_lt hB), bits_succ, List.map_append]; rfl
      · exact push_at _ _
      · exact (hK.setn (Nat.le_refl _)).pushn
      · rw [List.length_set]; exact mem_lt hB)
    (fun _ _ _ => rng_end)
  subst hL
  have hr := rev_at hB
  obtain ⟨L2', M2', e2, x10, hL2, hM2⟩ := for_T (v := .loc M'.length) (j := 10) (b := sSet 9 (eB dAdd (eB dMul (eC (.int 2)) (eV 9)) (eV 10))) (n := w)
    (L := [some (encT t), some (.tup [.int a, .int b, .int c]), some (.int w), some (.int (stN t a b c w : Nat)), some (.loc M.length), some (.loc r), x6, x7, x8, some (.int 0), none]) (M := M' ++ [.lst ((bits t a b c w).map D.int).reverse])
    (fun i L M2 => ∃ x10, L = [some (encT t), some (.tup [.int a, .int b, .int c]), some (.int w), some (.int (stN t a b c w : Nat)), some (.loc M.length), some (.loc r), x6, x7, x8, some (.int (H ((bits t a b c w).drop (w - i)))), x10] ∧ M2 = M' ++ [.lst ((bits t a b c w).map D.int).reverse])
    ⟨none, by rw [Nat.sub_zero, List.drop_of_length_le (by rw [bits_len]; exact Nat.le_refl _)]; rfl, rfl⟩
    (fun i L M2 hi ⟨x10, hL, hM⟩ => by
      subst hL; subst hM
      have hq : w - (i + 1) < (bits t a b c w).length := by rw [bits_len]; omega
      have hat : (IV.loc M'.length).at i (M' ++ [.lst ((bits t a b c w).map D.int).reverse]) = some (.int ((bits t a b c w)[w - (i + 1)])) := by
        simp only [IV.at, push_at, O.items]
        rw [List.getElem?_reverse (by rw [List.length_map, bits_len]; exact hi), List.length_map, bits_len, List.getElem?_map, show w - 1 - i = w - (i + 1) by omega, List.getElem?_eq_getElem hq]
        rfl
      refine ⟨_, hat, ?_⟩
      have hd : (bits t a b c w).drop (w - (i + 1)) = (bits t a b c w)[w - (i + 1)] :: (bits t a b c w).drop (w - i) := by
        rw [List.drop_eq_getElem_cons hq, show w - (i + 1) + 1 = w - i by omega]
      have hb := H_lt ((bits t a b c w).drop (w - i)) (fun x m => bits_01 h x (List.mem_of_mem_drop m))
      rw [List.length_drop, bits_len, show w - (w - i) = i by omega] at hb
      have hn : (H ((bits t a b c w).drop (w - i))).natAbs < 2 ^ (i + 1) := by
        have : H ((bits t a b c w).drop (w - i)) < ((2 ^ i : Nat) : Int) := by rw [Int.natCast_pow]; exact hb.2
        have z : 2 ^ i < 2 ^ (i + 1) := Nat.pow_lt_pow_right (by decide) (by omega)
        omega
      simp only [bind_ok, bind_ex, outE_ok, outE_ex, retF_nx, retF_rt, retF_xc, x_optR, x_eV, x_eC, x_kB, x_eB, x_eU, x_eF, x_kM, x_eM, x_ift, x_iff, x_eIf, x_kTup, x_kLst, x_eTup, x_eLst, x_aN, x_kCc, x_kC, x_aC, x_tV, x_kCn, x_kCm, x_tCm, x_okB, x_tA, x_tO, x_kN, x_tN, x_tCh, x_kCj, x_kCi, x_kCh, x_eCh, x_kNb, x_kAn, x_kOr, x_kNo, x_eAnd, x_eOr, x_eNot, x_kCl, x_eCall, x_kS2, x_kS1, x_eSl, x_oN, x_asO, x_oS, x_mLoc, x_kML, x_eML, x_kM0, x_kMl0, x_eML0, x_truB, x_truI, x_asB, x_cnx, x_crt, x_cbk, x_cct, x_cxc, x_sSeq, x_sNil, x_sBrk, x_sCnt, x_kEx, x_kSet, x_sEx, x_sSet, x_okO, x_putsN, x_putsC, x_kPar, x_sPar, x_kRet, x_sRet, x_sRetN, x_sIf, x_kSb3, x_kSb2, x_kSb1, x_sSub, x_kAsg, x_sAsg, x_pnm, x_ptp, x_kFor, x_sFor, x_itT, x_iR1, x_kR2, x_iR2, x_iE, x_tY, x_wN, x_wC, List.getElem?_cons_zero, List.getElem?_cons_succ, List.set_cons_zero, List.set_cons_succ, List.append_nil, List.nil_append, List.cons_append, List.length_cons, List.length_nil, Nat.reduceLeDiff, Nat.reduceAdd, Bool.not_true, Bool.not_false, T_ok, true_or, true_and, and_true, if_true, if_false, fun M => @mul_ok 2 _ M 2 (i + 1) (by decide) hn (by omega) (by omega) (by omega), dAdd]
      have eH : H ((bits t a b c w).drop (w - (i + 1))) = 2 * H ((bits t a b c w).drop (w - i)) + (bits t a b c w)[w - (i + 1)] := by rw [hd]; rfl
      rw [eH]
      exact ⟨_, rfl⟩)
    (fun L M2 ⟨_, _, hM⟩ => by
      subst hM
      simp only [IV.at, push_at, O.items]
      exact List.getElem?_eq_none (by simp [bits_len]))
  subst hL2; subst hM2
  refine ⟨M' ++ [.lst ((bits t a b c w).map D.int).reverse], ?_, hK.pushn⟩
  rw [in_law_due]
  simp only [Int.natCast_zero] at e
  simp only [B_law_due, bind_ok, bind_ex, outE_ok, outE_ex, retF_nx, retF_rt, retF_xc, x_optR, x_eV, x_eC, x_kB, x_eB, x_eU, x_eF, x_kM, x_eM, x_ift, x_iff, x_eIf, x_kTup, x_kLst, x_eTup, x_eLst, x_aN, x_kCc, x_kC, x_aC, x_tV, x_kCn, x_kCm, x_tCm, x_okB, x_tA, x_tO, x_kN, x_tN, x_tCh, x_kCj, x_kCi, x_kCh, x_eCh, x_kNb, x_kAn, x_kOr, x_kNo, x_eAnd, x_eOr, x_eNot, x_kCl, x_eCall, x_kS2, x_kS1, x_eSl, x_oN, x_asO, x_oS, x_mLoc, x_kML, x_eML, x_kM0, x_kMl0, x_eML0, x_truB, x_truI, x_asB, x_cnx, x_crt, x_cbk, x_cct, x_cxc, x_sSeq, x_sNil, x_sBrk, x_sCnt, x_kEx, x_kSet, x_sEx, x_sSet, x_okO, x_putsN, x_putsC, x_kPar, x_sPar, x_kRet, x_sRet, x_sRetN, x_sIf, x_kSb3, x_kSb2, x_kSb1, x_sSub, x_kAsg, x_sAsg, x_pnm, x_ptp, x_kFor, x_sFor, x_itT, x_iR1, x_kR2, x_iR2, x_iE, x_tY, x_wN, x_wC, List.getElem?_cons_zero, List.getElem?_cons_succ, List.set_cons_zero, List.set_cons_succ, List.append_nil, List.nil_append, List.cons_append, List.length_cons, List.length_nil, Nat.reduceLeDiff, Nat.reduceAdd, Bool.not_true, Bool.not_false, T_ok, true_or, true_and, and_true, if_true, if_false, list_tup, x_r1 (n := w) (by omega), IV.size, e, hr, x_itL (push_at M' _), push_at, O.items, List.length_reverse, List.length_map, bits_len, e2, Nat.sub_self, List.drop_zero]
/-! ### made: numbers, tables -/
theorem pow_nat {w : Nat} : ((2 : Int) ^ w) = ((2 ^ w : Nat) : Int) := by rw [Int.natCast_pow]; rfl
theorem numbers_run {k t p w : Nat} {M : Mem} (h : PenAt t p M) (ht : t + 6 < 18446744073709551616) (hw : w ≤ 2000) :
    ∃ (a b c : Int) (M' : Mem), run (k + 3) 16 [.loc p, .int w] M = .ok (.tup [.int a, .int b, .int c]) M' ∧ a.natAbs ≤ 2 ^ w ∧ b.natAbs ≤ 2 ^ w ∧ c.natAbs ≤ 2 ^ w ∧ PenAt (t + 6) p M' ∧ Kp (N1 p) M M' := by
  have hp : (0 : Int) < 2 ^ w := Int.pow_pos (by decide)
  have hp2 : ((2 : Int) ^ w).natAbs < 2 ^ (w + 1) := by rw [Int.natAbs_pow]; exact Nat.pow_lt_pow_right (by decide) (by omega)
  obtain ⟨x, M1, e1, a1, b1, c1, d1, l1⟩ := draw_run (k := k + 1) (n := 2 ^ w) (m := w + 1) h (by omega) hp hp2 (by omega) (by omega)
  obtain ⟨y, M2', e2, a2, b2, c2, d2, l2⟩ := draw_run (k := k + 1) (n := 2 ^ w) (m := w + 1) c1 (by omega) hp hp2 (by omega) (by omega)
  obtain ⟨z, M3, e3, a3, b3, c3, d3, l3⟩ := draw_run (k := k + 1) (n := 2 ^ w) (m := w + 1) c2 (by omega) hp hp2 (by omega) (by omega)
  have hh : (2 ^ w : Int).fdiv 2 = ((2 ^ w : Nat) : Int) / 2 := by rw [Int.fdiv_eq_ediv_of_nonneg _ (by decide), pow_nat]
  have hpn := @pow_nat w
  let ds : List D := [.int 0, .int 1, .int (2 ^ w - 1), .int ((2 ^ w : Int).fdiv 2), .int x, .int y, .int (0 - z)]
  have hds : ∀ d ∈ ds, ∃ v : Int, d = .int v ∧ v.natAbs ≤ 2 ^ w := by
    intro d m
    simp only [ds, List.mem_cons, List.not_mem_nil, or_false] at m
    rcases m with rfl | rfl | rfl | rfl | rfl | rfl | rfl
    · exact ⟨_, rfl, Nat.zero_le _⟩
    · exact ⟨_, rfl, Nat.one_le_two_pow⟩
    · exact ⟨_, rfl, by omega⟩
    · exact ⟨_, rfl, by rw [hh]; omega⟩
    · exact ⟨_, rfl, by omega⟩
    · exact ⟨_, rfl, by omega⟩
    · exact ⟨_, rfl, by omega⟩
  have d4 : Kp (N1 p) M (M3 ++ [.lst ds]) := ((d1.trans d2).trans d3).pushn
  have hpl := h.lt
  obtain ⟨acc, M', e, ⟨g1, g2⟩, g3, g4, g5⟩ := lc_gen (S := N1 p) (it := iR1 (eC (.int 3))) (v := .rng 0 3) (ds := rngL 0 3) (j := 4) (te := eCall (run (k + 2) 13) [] (aC (eV 0) (aC (eV 3) aN))) (vs := [4])
    (L := [some (.loc p), some (.int w), some (.int (2 ^ w)), some (.loc M3.length), none]) (M := M3 ++ [.lst ds]) (M0 := M3 ++ [.lst ds])
    (fun i acc M' => (∀ d ∈ acc, ∃ v : Int, d = .int v ∧ v.natAbs ≤ 2 ^ w) ∧ PenAt (t + 3 + i) p M')
    rfl Iw.rng ⟨fun d m => (nomatch m), (c3.kp (S := N0) (Kp.push _ _) id).kp (S := N0) (Kp.push _ _) id⟩ (by rw [rngL_len]; decide)
    (fun i acc M' d hd hl ⟨q1, q2⟩ kk hc => by
      have hi : i < 3 := by
        have := (List.getElem?_eq_some_iff.mp hd).1
        rw [rngL_len] at this; exact this
      have hpm : M3.length ≠ p := by omega
      obtain ⟨y, My, m, r1, r2, r3, r4⟩ := pick_run (k := k) (t := t + 3 + i) (p := p) (q := M3.length) (M := M') (ds := ds) q2 (by omega) (kk.at (push_at _ _) hpm) hpm (by simp [ds]) (by simp [ds])
      have hm0 : (M3 ++ [O.lst ds]).length ≠ p := by simp; omega
      refine ⟨y, My, ?_, kk.trans (r3.weak fun i _ s => s), r3.at hc hm0, ?_, ?_⟩
      · simp only [bind_ok, bind_ex, outE_ok, outE_ex, retF_nx, retF_rt, retF_xc, x_optR, x_eV, x_eC, x_kB, x_eB, x_eU, x_eF, x_kM, x_eM, x_ift, x_iff, x_eIf, x_kTup, x_kLst, x_eTup, x_eLst, x_aN, x_kCc, x_kC, x_aC, x_tV, x_kCn, x_kCm, x_tCm, x_okB, x_tA, x_tO, x_kN, x_tN, x_tCh, x_kCj, x_kCi, x_kCh, x_eCh, x_kNb, x_kAn, x_kOr, x_kNo, x_eAnd, x_eOr, x_eNot, x_kCl, x_eCall, x_kS2, x_kS1, x_eSl, x_oN, x_asO, x_oS, x_mLoc, x_kML, x_eML, x_kM0, x_kMl0, x_eML0, x_truB, x_truI, x_asB, x_cnx, x_crt, x_cbk, x_cct, x_cxc, x_sSeq, x_sNil, x_sBrk, x_sCnt, x_kEx, x_kSet, x_sEx, x_sSet, x_okO, x_putsN, x_putsC, x_kPar, x_sPar, x_kRet, x_sRet, x_sRetN, x_sIf, x_kSb3, x_kSb2, x_kSb1, x_sSub, x_kAsg, x_sAsg, x_pnm, x_ptp, x_kFor, x_sFor, x_itT, x_iR1, x_kR2, x_iR2, x_iE, x_tY, x_wN, x_wC, List.getElem?_cons_zero, List.getElem?_cons_succ, List.set_cons_zero, List.set_cons_succ, List.append_nil, List.nil_append, List.cons_append, List.length_cons, List.length_nil, Nat.reduceLeDiff, Nat.reduceAdd, Bool.not_true, Bool.not_false, T_ok, true_or, true_and, and_true, if_true, if_false, r1]
      · intro d m'
        rcases List.mem_append.mp m' with m' | m'
        · exact q1 d m'
        · obtain rfl : d = y := by simpa using m'
          exact hds _ m
      · obtain ⟨a, b, c, u1, u2, u3, u4, u5, u6⟩ := r2
        exact ⟨a, b, c, by rw [List.getElem?_set_ne hm0]; exact u1, u2, u3, u4, u5, by omega⟩)
  rw [rngL_len] at g2 g3
  match acc, g3 with
  | [da, db, dc], _ =>
    obtain ⟨a, rfl, ha⟩ := g1 da (by simp)
    obtain ⟨b, rfl, hb⟩ := g1 db (by simp)
    obtain ⟨c, rfl, hc⟩ := g1 dc (by simp)
    refine ⟨a, b, c, M', ?_, ha, hb, hc, g2, d4.trans g5⟩
    rw [in_law_numbers]
    simp only [B_law_numbers, bind_ok, bind_ex, outE_ok, outE_ex, retF_nx, retF_rt, retF_xc, x_optR, x_eV, x_eC, x_kB, x_eB, x_eU, x_eF, x_kM, x_eM, x_ift, x_iff, x_eIf, x_kTup, x_kLst, x_eTup, x_eLst, x_aN, x_kCc, x_kC, x_aC, x_tV, x_kCn, x_kCm, x_tCm, x_okB, x_tA, x_tO, x_kN, x_tN, x_tCh, x_kCj, x_kCi, x_kCh, x_eCh, x_kNb, x_kAn, x_kOr, x_kNo, x_eAnd, x_eOr, x_eNot, x_kCl, x_eCall, x_kS2, x_kS1, x_eSl, x_oN, x_asO, x_oS, x_mLoc, x_kML, x_eML, x_kM0, x_kMl0, x_eML0, x_truB, x_truI, x_asB, x_cnx, x_crt, x_cbk, x_cct, x_cxc, x_sSeq, x_sNil, x_sBrk, x_sCnt, x_kEx, x_kSet, x_sEx, x_sSet, x_okO, x_putsN, x_putsC, x_kPar, x_sPar, x_kRet, x_sRet, x_sRetN, x_sIf, x_kSb3, x_kSb2, x_kSb1, x_sSub, x_kAsg, x_sAsg, x_pnm, x_ptp, x_kFor, x_sFor, x_itT, x_iR1, x_kR2, x_iR2, x_iE, x_tY, x_wN, x_wC, List.getElem?_cons_zero, List.getElem?_cons_succ, List.set_cons_zero, List.set_cons_succ, List.append_nil, List.nil_append, List.cons_append, List.length_cons, List.length_nil, Nat.reduceLeDiff, Nat.reduceAdd, Bool.not_true, Bool.not_false, T_ok, true_or, true_and, and_true, if_true, if_false, two_run hw, dSub, fun M => @div_ok (2 ^ w) 2 M 2 (by omega) (by decide) (by omega) (by omega), e1, e2, e3]
    simp only [ds] at e g4
    simp only [e, bind_ok, bind_ex, outE_ok, outE_ex, retF_nx, retF_rt, retF_xc, x_optR, x_eV, x_eC, x_kB, x_eB, x_eU, x_eF, x_kM, x_eM, x_ift, x_iff, x_eIf, x_kTup, x_kLst, x_eTup, x_eLst, x_aN, x_kCc, x_kC, x_aC, x_tV, x_kCn, x_kCm, x_tCm, x_okB, x_tA, x_tO, x_kN, x_tN, x_tCh, x_kCj, x_kCi, x_kCh, x_eCh, x_kNb, x_kAn, x_kOr, x_kNo, x_eAnd, x_eOr, x_eNot, x_kCl, x_eCall, x_kS2, x_kS1, x_eSl, x_oN, x_asO, x_oS, x_mLoc, x_kML, x_eML, x_kM0, x_kMl0, x_eML0, x_truB, x_truI, x_asB, x_cnx, x_crt, x_cbk, x_cct, x_cxc, x_sSeq, x_sNil, x_sBrk, x_sCnt, x_kEx, x_kSet, x_sEx, x_sSet, x_okO, x_putsN, x_putsC, x_kPar, x_sPar, x_kRet, x_sRet, x_sRetN, x_sIf, x_kSb3, x_kSb2, x_kSb1, x_sSub, x_kAsg, x_sAsg, x_pnm, x_ptp, x_kFor, x_sFor, x_itT, x_iR1, x_kR2, x_iR2, x_iE, x_tY, x_wN, x_wC, List.getElem?_cons_zero, List.getElem?_cons_succ, List.set_cons_zero, List.set_cons_succ, List.append_nil, List.nil_append, List.cons_append, List.length_cons, List.length_nil, Nat.reduceLeDiff, Nat.reduceAdd, Bool.not_true, Bool.not_false, T_ok, true_or, true_and, and_true, if_true, if_false, tuple_at g4]
theorem same_run {k : Nat} {d : D} {s : Str} {M : Mem} (h : ∀ M, bRepr [d] M = .ok (.str s) M) : run (k + 1) 14 [d, d] M = .ok (.bl true) M := by
  rw [in_law_same]
  simp only [B_law_same, bind_ok, bind_ex, outE_ok, outE_ex, retF_nx, retF_rt, retF_xc, x_optR, x_eV, x_eC, x_kB, x_eB, x_eU, x_eF, x_kM, x_eM, x_ift, x_iff, x_eIf, x_kTup, x_kLst, x_eTup, x_eLst, x_aN, x_kCc, x_kC, x_aC, x_tV, x_kCn, x_kCm, x_tCm, x_okB, x_tA, x_tO, x_kN, x_tN, x_tCh, x_kCj, x_kCi, x_kCh, x_eCh, x_kNb, x_kAn, x_kOr, x_kNo, x_eAnd, x_eOr, x_eNot, x_kCl, x_eCall, x_kS2, x_kS1, x_eSl, x_oN, x_asO, x_oS, x_mLoc, x_kML, x_eML, x_kM0, x_kMl0, x_eML0, x_truB, x_truI, x_asB, x_cnx, x_crt, x_cbk, x_cct, x_cxc, x_sSeq, x_sNil, x_sBrk, x_sCnt, x_kEx, x_kSet, x_sEx, x_sSet, x_okO, x_putsN, x_putsC, x_kPar, x_sPar, x_kRet, x_sRet, x_sRetN, x_sIf, x_kSb3, x_kSb2, x_kSb1, x_sSub, x_kAsg, x_sAsg, x_pnm, x_ptp, x_kFor, x_sFor, x_itT, x_iR1, x_kR2, x_iR2, x_iE, x_tY, x_wN, x_wC, List.getElem?_cons_zero, List.getElem?_cons_succ, List.set_cons_zero, List.set_cons_succ, List.append_nil, List.nil_append, List.cons_append, List.length_cons, List.length_nil, Nat.reduceLeDiff, Nat.reduceAdd, Bool.not_true, Bool.not_false, T_ok, true_or, true_and, and_true, if_true, if_false, h, eq_str, beq_self_eq_true]
theorem fit_i {i : Int} {w : Nat} (h : i.natAbs ≤ 2 ^ w) (hw : w ≤ 2000) : Fit 0 2002 (.int i) := by
  have h1 : 2 ^ w ≤ 10 ^ w := Nat.pow_le_pow_left (by decide) w
  have h2 : 10 ^ w < 10 ^ 2001 := Nat.pow_lt_pow_right (by decide) (by omega)
  exact Fit.int (by decide) (by decide) (Nat.lt_of_le_of_lt h (Nat.lt_of_le_of_lt h1 h2))
theorem fit_tab {t : List Row} (h : TabOk t) : Fit 3 1503 (encT t) := Fit.tup (n := 123) (m := 12) (fun d m => by
  obtain ⟨r, hr, rfl⟩ := List.mem_map.mp m
  have hr := h.2.2 r hr
  refine Fit.tup (n := 13) (m := 8) (fun d m => ?_) (by rw [List.length_map, hr.1]; exact Nat.le_refl _)
  obtain ⟨p, hp, rfl⟩ := List.mem_map.mp m
  have hp := hr.2 p hp
  have h12 := h.2.1
  refine Fit.tup (n := 3) (m := 2) (fun d m => ?_) (Nat.le_refl _)
  have : ∃ i : Int, d = .int i ∧ i.natAbs < 10 ^ 2 := by
    simp only [List.mem_cons, List.not_mem_nil, or_false] at m
    rcases m with rfl | rfl
    · exact ⟨_, rfl, by omega⟩
    · exact ⟨_, rfl, by omega⟩
  obtain ⟨i, rfl, hi⟩ := this
  exact Fit.int (by decide) (by decide) hi) (by rw [List.length_map]; exact h.2.1)
theorem kept_ok {t : List Row} {a b c : Int} {w : Nat} (h : TabOk t) (ha : a.natAbs ≤ 2 ^ w) (hb : b.natAbs ≤ 2 ^ w) (hc : c.natAbs ≤ 2 ^ w) (hw : w ≤ 2000) : ∃ s, ∀ M, bRepr [.tup [encT t, .tup [.int a, .int b, .int c]]] M = .ok (.str s) M := by
  have hn : Fit 1 6015 (.tup [.int a, .int b, .int c]) := Fit.tup (n := 2002) (m := 3) (fun d m => by
    simp only [List.mem_cons, List.not_mem_nil, or_false] at m
    rcases m with rfl | rfl | rfl
    · exact fit_i ha hw
    · exact fit_i hb hw
    · exact fit_i hc hw) (Nat.le_refl _)
  have := Fit.tup (k := 3) (n := 6015) (m := 2) (ds := [encT t, .tup [.int a, .int b, .int c]]) (fun d m => by
    simp only [List.mem_cons, List.not_mem_nil, or_false] at m
    rcases m with rfl | rfl
    · exact (fit_tab h).mono (Nat.le_refl _) (by decide)
    · exact hn.mono (by decide) (Nat.le_refl _)) (Nat.le_refl _)
  exact this.repr (by decide) (by decide)
theorem due_fit {t : List Row} {a b c : Int} {w : Nat} (h : TabOk t) (hw : w ≤ 2000) : ∃ s, ∀ M, bRepr [.int (H (bits t a b c w))] M = .ok (.str s) M := by
  have := H_lt (bits t a b c w) (bits_01 h)
  rw [bits_len, pow_nat] at this
  exact (fit_i (w := w) (by omega) hw).repr (by decide) (by decide)
end Lw

/-! G05: the law answers True. -/
namespace Lw
open PySem L2 G
theorem row_made {k T p n : Nat} {M : Mem} {L : G.Env} (hL : (wipeL L [7])[2]? = some (some (.loc p))) (hn : (wipeL L [7])[4]? = some (some (.int n))) (hlen : L.length = 13) (h : PenAt T p M) (hT : T + 16 < 1000000000) (hn0 : 0 < n) (hn1 : n ≤ 12) :
    ∃ (r : Row) (M' : Mem), RowOk n r ∧ eLc (iR1 (eC (.int 8))) (.nm 7) tY (eTup (aC (eCall (run (k + 1) 12) [] (aC (eV 2) (aC (eC (.int 2)) aN))) (aC (eCall (run (k + 1) 12) [] (aC (eV 2) (aC (eV 4) aN))) aN))) [7] L M = .ok (.loc M.length) M' ∧ M'[M.length]? = some (.lst (r.map encP)) ∧ PenAt (T + 16) p M' ∧ Kp (N1 p) M M' := by
  have hpl := h.lt
  obtain ⟨acc, M', e, ⟨r, g0, g1, g2⟩, g3, g4, g5⟩ := lc_gen (S := N1 p) (it := iR1 (eC (.int 8))) (v := .rng 0 8) (ds := rngL 0 8) (j := 7) (te := eTup (aC (eCall (run (k + 1) 12) [] (aC (eV 2) (aC (eC (.int 2)) aN))) (aC (eCall (run (k + 1) 12) [] (aC (eV 2) (aC (eV 4) aN))) aN))) (vs := [7]) (L := L) (M := M) (M0 := M)
    (fun i acc M' => ∃ r : Row, acc = r.map encP ∧ (∀ q ∈ r, (q.1 = 0 ∨ q.1 = 1) ∧ q.2 < n) ∧ PenAt (T + 2 * i) p M') rfl Iw.rng ⟨[], rfl, (fun q m => nomatch m), h.kp (S := N0) (Kp.push _ _) id⟩ (by rw [rngL_len]; decide)
    (fun i acc M' d hd hl ⟨r, q0, q1, q2⟩ kk hc => by
      have hi : i < 8 := by
        have := (List.getElem?_eq_some_iff.mp hd).1
        rw [rngL_len] at this; exact this
      obtain ⟨x, M1, e1, a1, b1, c1, d1, l1⟩ := draw_run (k := k) (n := 2) (m := 2) q2 (by omega) (by omega) (by omega) (by omega) (by omega)
      obtain ⟨y, M2', e2, a2, b2, c2, d2, l2⟩ := draw_run (k := k) (n := n) (m := 4) c1 (by omega) (by omega) (by omega) (by omega) (by omega)
      have hm0 : M.length ≠ p := by omega
      obtain ⟨y, rfl⟩ := Int.eq_ofNat_of_zero_le a2
      refine ⟨encP (x, y), M2', ?_, (kk.trans (d1.weak fun i _ s => s)).trans (d2.weak fun i _ s => s), d2.at (d1.at hc hm0) hm0, r ++ [(x, y)], ?_, ?_, ?_⟩
      · have s2 : ((wipeL L [7]).set 7 (some d))[2]? = some (some (.loc p)) := by rw [List.getElem?_set_ne (by decide)]; exact hL
        have s4 : ((wipeL L [7]).set 7 (some d))[4]? = some (some (.int n)) := by rw [List.getElem?_set_ne (by decide)]; exact hn
        simp only [x_wN, x_wC] at s2 s4
        simp only [bind_ok, bind_ex, outE_ok, outE_ex, retF_nx, retF_rt, retF_xc, x_optR, x_eV, x_eC, x_kB, x_eB, x_eU, x_eF, x_kM, x_eM, x_ift, x_iff, x_eIf, x_kTup, x_kLst, x_eTup, x_eLst, x_aN, x_kCc, x_kC, x_aC, x_tV, x_kCn, x_kCm, x_tCm, x_okB, x_tA, x_tO, x_kN, x_tN, x_tCh, x_kCj, x_kCi, x_kCh, x_eCh, x_kNb, x_kAn, x_kOr, x_kNo, x_eAnd, x_eOr, x_eNot, x_kCl, x_eCall, x_kS2, x_kS1, x_eSl, x_oN, x_asO, x_oS, x_mLoc, x_kML, x_eML, x_kM0, x_kMl0, x_eML0, x_truB, x_truI, x_asB, x_cnx, x_crt, x_cbk, x_cct, x_cxc, x_sSeq, x_sNil, x_sBrk, x_sCnt, x_kEx, x_kSet, x_sEx, x_sSet, x_okO, x_putsN, x_putsC, x_kPar, x_sPar, x_kRet, x_sRet, x_sRetN, x_sIf, x_kSb3, x_kSb2, x_kSb1, x_sSub, x_kAsg, x_sAsg, x_pnm, x_ptp, x_kFor, x_sFor, x_itT, x_iR1, x_kR2, x_iR2, x_iE, x_tY, x_wN, x_wC, List.getElem?_cons_zero, List.getElem?_cons_succ, List.set_cons_zero, List.set_cons_succ, List.append_nil, List.nil_append, List.cons_append, List.length_cons, List.length_nil, Nat.reduceLeDiff, Nat.reduceAdd, Bool.not_true, Bool.not_false, T_ok, true_or, true_and, and_true, if_true, if_false, s2, s4, e1, e2, encP]
      · rw [q0, List.map_append]; rfl
      · intro q m
        rcases List.mem_append.mp m with m | m
        · exact q1 q m
        · obtain rfl : q = (x, y) := by simpa using m
          exact ⟨by simp only; omega, by simp only; omega⟩
      · obtain ⟨a, b, c, u1, u2, u3, u4, u5, u6⟩ := c2
        exact ⟨a, b, c, by rw [List.getElem?_set_ne hm0]; exact u1, u2, u3, u4, u5, by omega⟩)
  rw [rngL_len] at g2 g3
  subst g0
  exact ⟨r, M', ⟨by simpa using g3, g1⟩, e, g4, g2, g5⟩
theorem table_made {k T p n b : Nat} {x0 x1 x3 y6 y7 x8 x9 x10 x11 x12 : Option D} {M : Mem} (h : PenAt T p M) (hb : M[b]? = some (.lst [])) (hbp : b ≠ p) (hT : T + 16 * n < 1000000000) (hn0 : 0 < n) (hn1 : n ≤ 12) :
    ∃ (t : List Row) (x6 x7 : Option D) (M' : Mem), TabOk t ∧ t.length = n ∧ forL (.rng 0 n) (.nm 6) (sEx (eML mApp (eV 5) (aC (eF bTuple (aC (eLc (iR1 (eC (.int 8))) (.nm 7) tY (eTup (aC (eCall (run (k + 1) 12) [] (aC (eV 2) (aC (eC (.int 2)) aN))) (aC (eCall (run (k + 1) 12) [] (aC (eV 2) (aC (eV 4) aN))) aN))) [7]) aN)) aN))) (n + 1) 0
      [x0, x1, some (.loc p), x3, some (.int n), some (.loc b), y6, y7, x8, x9, x10, x11, x12] M = .ok (.nx, [x0, x1, some (.loc p), x3, some (.int n), some (.loc b), x6, x7, x8, x9, x10, x11, x12]) M' ∧ M'[b]? = some (.lst (t.map encR)) ∧ PenAt (T + 16 * n) p M' ∧ Kp (fun i => i = p ∨ i = b) M M' := by
  obtain ⟨L', M', e, t, x6, x7, hL, h1, h2, h3, h4, h5⟩ := for_T (v := .rng 0 n) (j := 6) (b := (sEx (eML mApp (eV 5) (aC (eF bTuple (aC (eLc (iR1 (eC (.int 8))) (.nm 7) tY (eTup (aC (eCall (run (k + 1) 12) [] (aC (eV 2) (aC (eC (.int 2)) aN))) (aC (eCall (run (k + 1) 12) [] (aC (eV 2) (aC (eV 4) aN))) aN))) [7]) aN)) aN)))) (n := n)
    (L := [x0, x1, some (.loc p), x3, some (.int n), some (.loc b), y6, y7, x8, x9, x10, x11, x12]) (M := M)
    (fun i L M' => ∃ (t : List Row) (x6 x7 : Option D), L = [x0, x1, some (.loc p), x3, some (.int n), some (.loc b), x6, x7, x8, x9, x10, x11, x12] ∧ t.length = i ∧ (∀ r ∈ t, RowOk n r) ∧ M'[b]? = some (.lst (t.map encR)) ∧ PenAt (T + 16 * i) p M' ∧ Kp (fun i => i = p ∨ i = b) M M')
    ⟨[], y6, y7, rfl, rfl, (fun r m => nomatch m), hb, h, Kp.refl _⟩
    (fun i L M' hi ⟨t, x6, x7, hL, h1, h2, h3, h4, h5⟩ => by
      subst hL
      refine ⟨_, rng_at hi, ?_⟩
      obtain ⟨r, M2', hr, e, g0, g1, g2⟩ := row_made (k := k) (T := T + 16 * i) (p := p) (n := n) (M := M') (L := [x0, x1, some (.loc p), x3, some (.int n), some (.loc b), some (.int (0 + i)), x7, x8, x9, x10, x11, x12]) rfl rfl rfl h4 (by omega) hn0 hn1
      have hb2 := g2.at h3 hbp
      have hlt : (t.map encR).length < G.big := by rw [List.length_map, h1]; exact Nat.lt_of_lt_of_le hi (Nat.le_trans hn1 (by decide))
      simp only [bind_ok, bind_ex, outE_ok, outE_ex, retF_nx, retF_rt, retF_xc, x_optR, x_eV, x_eC, x_kB, x_eB, x_eU, x_eF, x_kM, x_eM, x_ift, x_iff, x_eIf, x_kTup, x_kLst, x_eTup, x_eLst, x_aN, x_kCc, x_kC, x_aC, x_tV, x_kCn, x_kCm, x_tCm, x_okB, x_tA, x_tO, x_kN, x_tN, x_tCh, x_kCj, x_kCi, x_kCh, x_eCh, x_kNb, x_kAn, x_kOr, x_kNo, x_eAnd, x_eOr, x_eNot, x_kCl, x_eCall, x_kS2, x_kS1, x_eSl, x_oN, x_asO, x_oS, x_mLoc, x_kML, x_eML, x_kM0, x_kMl0, x_eML0, x_truB, x_truI, x_asB, x_cnx, x_crt, x_cbk, x_cct, x_cxc, x_sSeq, x_sNil, x_sBrk, x_sCnt, x_kEx, x_kSet, x_sEx, x_sSet, x_okO, x_putsN, x_putsC, x_kPar, x_sPar, x_kRet, x_sRet, x_sRetN, x_sIf, x_kSb3, x_kSb2, x_kSb1, x_sSub, x_kAsg, x_sAsg, x_pnm, x_ptp, x_kFor, x_sFor, x_itT, x_iR1, x_kR2, x_iR2, x_iE, x_tY, x_wN, x_wC, List.getElem?_cons_zero, List.getElem?_cons_succ, List.set_cons_zero, List.set_cons_succ, List.append_nil, List.nil_append, List.cons_append, List.length_cons, List.length_nil, Nat.reduceLeDiff, Nat.reduceAdd, Bool.not_true, Bool.not_false, T_ok, true_or, true_and, and_true, if_true, if_false, e, tuple_at g0, app_ok hb2 hlt]
      have hb3 : b < M'.length := mem_lt h3
      have hbl : b < M2'.length := mem_lt hb2
      refine ⟨t ++ [r], _, _, rfl, by simp [h1], ?_, ?_, ?_, ?_⟩
      · intro r' m
        rcases List.mem_append.mp m with m | m
        · exact h2 r' m
        · obtain rfl : r' = r := by simpa using m
          exact hr
      · rw [set_at hbl, List.map_append]; rfl
      · obtain ⟨a, b', c, u1, u2, u3, u4, u5, u6⟩ := g1
        exact ⟨a, b', c, by rw [List.getElem?_set_ne hbp]; exact u1, u2, u3, u4, u5, by omega⟩
      · have g3 := h5.trans (g2.weak fun i _ s => Or.inl s)
        exact ⟨by simpa using g3.1, fun j hj s => by rw [List.getElem?_set_ne (fun z => s (Or.inr z.symm)), g3.2 j hj s]⟩)
    (fun _ _ _ => rng_end)
  subst hL
  exact ⟨t, x6, x7, M', ⟨by omega, by omega, by rw [h1]; exact h2⟩, h1, e, h3, h4, h5⟩
abbrev turnB (k : Nat) : LS := (sIf ((tO (tN (tV (eCall (run (k + 7) 14) [] (aC (eCall (run (k + 7) 9) [] (aC (eV 5) (aC (eV 9) (aC (eV 8) aN)))) (aC (eV 11) aN))))) (tCm dNe (eF bRepr (aC (eTup (aC (eV 5) (aC (eV 9) aN))) aN)) (eV 10))))
    (sRet (eC (.bl false)))
    sNil)
theorem turns {k : Nat} {t : List Row} {a b c : Int} {w : Nat} {M : Mem} {s : Str} {x0 x1 x2 x3 x4 x6 x7 y12 : Option D} (h : TabOk t) (h1 : 1 ≤ w) (h2 : w ≤ 2000) (hs : ∀ M, bRepr [.tup [encT t, .tup [.int a, .int b, .int c]]] M = .ok (.str s) M) :
    ∃ x12 M', forL (.rng 0 2) (.nm 12) (turnB k) (2 + 1) 0 [x0, x1, x2, x3, x4, some (encT t), x6, x7, some (.int w), some (.tup [.int a, .int b, .int c]), some (.str s), some (.int (H (bits t a b c w))), y12] M = .ok (.nx, [x0, x1, x2, x3, x4, some (encT t), x6, x7, some (.int w), some (.tup [.int a, .int b, .int c]), some (.str s), some (.int (H (bits t a b c w))), x12]) M' ∧ Kp N0 M M' := by
  obtain ⟨s2, hs2⟩ := due_fit (a := a) (b := b) (c := c) h h2
  obtain ⟨L', M', e, x12, hL, hK⟩ := for_T (v := .rng 0 2) (j := 12) (b := turnB k) (n := 2) (L := [x0, x1, x2, x3, x4, some (encT t), x6, x7, some (.int w), some (.tup [.int a, .int b, .int c]), some (.str s), some (.int (H (bits t a b c w))), y12]) (M := M)
    (fun i L M' => ∃ x12, L = [x0, x1, x2, x3, x4, some (encT t), x6, x7, some (.int w), some (.tup [.int a, .int b, .int c]), some (.str s), some (.int (H (bits t a b c w))), x12] ∧ Kp N0 M M') ⟨y12, rfl, Kp.refl _⟩
    (fun i L M' hi ⟨x12, hL, hK⟩ => by
      subst hL
      refine ⟨_, rng_at hi, ?_⟩
      obtain ⟨M2', e, hk⟩ := run_run (k := k) (a := a) (b := b) (c := c) (M := M') h h1 h2
      simp only [bind_ok, bind_ex, outE_ok, outE_ex, retF_nx, retF_rt, retF_xc, x_optR, x_eV, x_eC, x_kB, x_eB, x_eU, x_eF, x_kM, x_eM, x_ift, x_iff, x_eIf, x_kTup, x_kLst, x_eTup, x_eLst, x_aN, x_kCc, x_kC, x_aC, x_tV, x_kCn, x_kCm, x_tCm, x_okB, x_tA, x_tO, x_kN, x_tN, x_tCh, x_kCj, x_kCi, x_kCh, x_eCh, x_kNb, x_kAn, x_kOr, x_kNo, x_eAnd, x_eOr, x_eNot, x_kCl, x_eCall, x_kS2, x_kS1, x_eSl, x_oN, x_asO, x_oS, x_mLoc, x_kML, x_eML, x_kM0, x_kMl0, x_eML0, x_truB, x_truI, x_asB, x_cnx, x_crt, x_cbk, x_cct, x_cxc, x_sSeq, x_sNil, x_sBrk, x_sCnt, x_kEx, x_kSet, x_sEx, x_sSet, x_okO, x_putsN, x_putsC, x_kPar, x_sPar, x_kRet, x_sRet, x_sRetN, x_sIf, x_kSb3, x_kSb2, x_kSb1, x_sSub, x_kAsg, x_sAsg, x_pnm, x_ptp, x_kFor, x_sFor, x_itT, x_iR1, x_kR2, x_iR2, x_iE, x_tY, x_wN, x_wC, List.getElem?_cons_zero, List.getElem?_cons_succ, List.set_cons_zero, List.set_cons_succ, List.append_nil, List.nil_append, List.cons_append, List.length_cons, List.length_nil, Nat.reduceLeDiff, Nat.reduceAdd, Bool.not_true, Bool.not_false, T_ok, true_or, true_and, and_true, if_true, if_false, e, same_run hs2, hs, ne_str, bne_self_eq_false]
      exact ⟨_, rfl, hK.trans hk⟩)
    (fun _ _ _ => rng_end)
  subst hL
  exact ⟨x12, M', e, hK⟩
abbrev lapB (c : Nat → Fn) : LS := (sSeq (sAsg (.tp [4, 5]) (eTup (aC (eB dAdd (eC (.int 1)) (eCall (c 12) [] (aC (eV 2) (aC (eC (.int 12)) aN)))) (aC (eLst aN) aN))))
  (sSeq (sFor (iR1 (eV 4)) (.nm 6)
  (sEx (eML mApp (eV 5) (aC (eF bTuple (aC (eLc (iR1 (eC (.int 8))) (.nm 7) tY (eTup (aC (eCall (c 12) [] (aC (eV 2) (aC (eC (.int 2)) aN))) (aC (eCall (c 12) [] (aC (eV 2) (aC (eV 4) aN))) aN))) [7]) aN)) aN))))
  (sSeq (sPar [5, 8] (aC (eF bTuple (aC (eV 5) aN)) (aC (eB dIx (eLst (aC (eC (.int 1)) (aC (eC (.int 2)) (aC (eC (.int 5)) (aC (eC (.int 64)) (aC (eB dAdd (eC (.int 1)) (eCall (c 12) [] (aC (eV 2) (aC (eC (.int 300)) aN)))) (aC (eC (.int 2000)) aN))))))) (eB dMod (eV 3) (eC (.int 6)))) aN)))
  (sSeq (sSet 9 (eCall (c 16) [] (aC (eV 2) (aC (eV 8) aN))))
  (sSeq (sPar [10, 11] (aC (eF bRepr (aC (eTup (aC (eV 5) (aC (eV 9) aN))) aN)) (aC (eCall (c 17) [] (aC (eV 5) (aC (eV 9) (aC (eV 8) aN)))) aN)))
  (sFor (iR1 (eC (.int 2))) (.nm 12)
  (sIf ((tO (tN (tV (eCall (c 14) [] (aC (eCall (c 9) [] (aC (eV 5) (aC (eV 9) (aC (eV 8) aN)))) (aC (eV 11) aN))))) (tCm dNe (eF bRepr (aC (eTup (aC (eV 5) (aC (eV 9) aN))) aN)) (eV 10))))
  (sRet (eC (.bl false)))
  sNil)))))))
theorem width_at {lap : Nat} {v : Int} (h0 : 0 ≤ v) (h1 : v < 300) : ∃ w : Nat, [D.int 1, .int 2, .int 5, .int 64, .int (1 + v), .int 2000][lap % 6]? = some (.int w) ∧ 1 ≤ w ∧ w ≤ 2000 := by
  have h : lap % 6 < 6 := Nat.mod_lt _ (by decide)
  generalize lap % 6 = j at h
  obtain ⟨v, rfl⟩ := Int.eq_ofNat_of_zero_le h0
  match j, h with
  | 0, _ => exact ⟨1, rfl, by omega, by omega⟩
  | 1, _ => exact ⟨2, rfl, by omega, by omega⟩
  | 2, _ => exact ⟨5, rfl, by omega, by omega⟩
  | 3, _ => exact ⟨64, rfl, by omega, by omega⟩
  | 4, _ => exact ⟨1 + v, rfl, by omega, by omega⟩
  | 5, _ => exact ⟨2000, rfl, by omega, by omega⟩
theorem lap_ok {k p lap : Nat} {x0 x1 x4 x5 x6 x7 x8 x9 x10 x11 x12 : Option D} {M : Mem} (h : PenAt (lap * 250) p M) (hl : lap < 10) :
    T (lapB (run (k + 7)) [x0, x1, some (.loc p), some (.int lap), x4, x5, x6, x7, x8, x9, x10, x11, x12] M) fun r M' => (r.1 = .nx ∨ r.1 = .ct) ∧ (∃ x3 x4 x5 x6 x7 x8 x9 x10 x11 x12, r.2 = [x0, x1, some (.loc p), x3, x4, x5, x6, x7, x8, x9, x10, x11, x12]) ∧ PenAt ((lap + 1) * 250) p M' ∧ Kp (N1 p) M M' := by
  have hpl := h.lt
  obtain ⟨v, M1, e1, a1, b1, c1, d1, l1⟩ := draw_run (k := k + 6) (n := 12) (m := 4) h (by omega) (by omega) (by decide) (by omega) (by omega)
  obtain ⟨v, rfl⟩ := Int.eq_ofNat_of_zero_le a1
  have en : ((1 : Int) + (v : Nat)) = ((1 + v : Nat) : Int) := by omega
  generalize hn : 1 + v = n at en
  have hbp : M1.length ≠ p := by omega
  obtain ⟨t, z6, z7, M3, ht, htn, e3, hB, c3, d3⟩ := table_made (k := k + 6) (T := lap * 250 + 1) (n := n) (b := M1.length) (M := M1 ++ [.lst []]) (x0 := x0) (x1 := x1) (x3 := some (.int lap)) (y6 := x6) (y7 := x7) (x8 := x8) (x9 := x9) (x10 := x10) (x11 := x11) (x12 := x12)
    (c1.kp (S := N0) (Kp.push _ _) id) (push_at _ _) hbp (by omega) (by omega) (by omega)
  obtain ⟨v2, M4, e4, a4, b4, c4, d4, l4⟩ := draw_run (k := k + 6) (n := 300) (m := 9) c3 (by omega) (by omega) (by decide) (by omega) (by omega)
  obtain ⟨w, hw, w1, w2⟩ := width_at (lap := lap) a4 b4
  have c5 : PenAt (lap * 250 + 1 + 16 * n + 1) p (M4 ++ [.lst [D.int 1, .int 2, .int 5, .int 64, .int (1 + v2), .int 2000]]) := c4.kp (S := N0) (Kp.push _ _) id
  obtain ⟨a, b, c, M6, e6, ha, hb, hc, c6, d6⟩ := numbers_run (k := k + 4) (w := w) c5 (by omega) w2
  obtain ⟨s, hs⟩ := kept_ok ht ha hb hc w2
  obtain ⟨M7, e7, d7⟩ := due_run (k := k + 6) (a := a) (b := b) (c := c) (w := w) (M := M6) ht w1 w2
  obtain ⟨z12, M8, e8, d8⟩ := turns (k := k) (x0 := x0) (x1 := x1) (x2 := some (.loc p)) (x3 := some (.int lap)) (x4 := some (.int n)) (x6 := z6) (x7 := z7) (y12 := x12) (M := M7) (a := a) (b := b) (c := c) ht w1 w2 hs
  have hm : ((lap : Int)).fmod 6 = ((lap % 6 : Nat) : Int) := by rw [Int.fmod_eq_emod_of_nonneg _ (by decide)]; omega
  have hix (M : Mem) : dIx (.loc M.length) (.int ((lap % 6 : Nat) : Int)) (M ++ [.lst [D.int 1, .int 2, .int 5, .int 64, .int (1 + v2), .int 2000]]) = .ok (.int w) (M ++ [.lst [D.int 1, .int 2, .int 5, .int 64, .int (1 + v2), .int 2000]]) := ix_at (push_at _ _) hw
  have k1 : Kp (N1 p) M (M1 ++ [.lst []]) := d1.pushn
  have k3 : Kp (N1 p) M M3 := ⟨Nat.le_trans k1.1 d3.1, fun i hi s => by rw [d3.2 i (by simp; omega) (fun q => q.elim s fun q => by omega), k1.2 i hi s]⟩
  simp only [lapB, bind_ok, bind_ex, outE_ok, outE_ex, retF_nx, retF_rt, retF_xc, x_optR, x_eV, x_eC, x_kB, x_eB, x_eU, x_eF, x_kM, x_eM, x_ift, x_iff, x_eIf, x_kTup, x_kLst, x_eTup, x_eLst, x_aN, x_kCc, x_kC, x_aC, x_tV, x_kCn, x_kCm, x_tCm, x_okB, x_tA, x_tO, x_kN, x_tN, x_tCh, x_kCj, x_kCi, x_kCh, x_eCh, x_kNb, x_kAn, x_kOr, x_kNo, x_eAnd, x_eOr, x_eNot, x_kCl, x_eCall, x_kS2, x_kS1, x_eSl, x_oN, x_asO, x_oS, x_mLoc, x_kML, x_eML, x_kM0, x_kMl0, x_eML0, x_truB, x_truI, x_asB, x_cnx, x_crt, x_cbk, x_cct, x_cxc, x_sSeq, x_sNil, x_sBrk, x_sCnt, x_kEx, x_kSet, x_sEx, x_sSet, x_okO, x_putsN, x_putsC, x_kPar, x_sPar, x_kRet, x_sRet, x_sRetN, x_sIf, x_kSb3, x_kSb2, x_kSb1, x_sSub, x_kAsg, x_sAsg, x_pnm, x_ptp, x_kFor, x_sFor, x_itT, x_iR1, x_kR2, x_iR2, x_iE, x_tY, x_wN, x_wC, List.getElem?_cons_zero, List.getElem?_cons_succ, List.set_cons_zero, List.set_cons_succ, List.append_nil, List.nil_append, List.cons_append, List.length_cons, List.length_nil, Nat.reduceLeDiff, Nat.reduceAdd, Bool.not_true, Bool.not_false, T_ok, true_or, true_and, and_true, if_true, if_false, e1, dAdd, en, x_r1 (n := n) (by omega), IV.size, e3, tuple_at hB, e4, fun M i => @mod_ok i 6 M (by omega), hm, hix, e6]
  simp only [encT] at hs e7 e8
  have r2 : ∀ M, r1D (.int 2) M = .ok (.rng 0 2) M := fun M => x_r1 (n := 2) (by omega)
  simp only [hs, e7, bind_ok, bind_ex, outE_ok, outE_ex, retF_nx, retF_rt, retF_xc, x_optR, x_eV, x_eC, x_kB, x_eB, x_eU, x_eF, x_kM, x_eM, x_ift, x_iff, x_eIf, x_kTup, x_kLst, x_eTup, x_eLst, x_aN, x_kCc, x_kC, x_aC, x_tV, x_kCn, x_kCm, x_tCm, x_okB, x_tA, x_tO, x_kN, x_tN, x_tCh, x_kCj, x_kCi, x_kCh, x_eCh, x_kNb, x_kAn, x_kOr, x_kNo, x_eAnd, x_eOr, x_eNot, x_kCl, x_eCall, x_kS2, x_kS1, x_eSl, x_oN, x_asO, x_oS, x_mLoc, x_kML, x_eML, x_kM0, x_kMl0, x_eML0, x_truB, x_truI, x_asB, x_cnx, x_crt, x_cbk, x_cct, x_cxc, x_sSeq, x_sNil, x_sBrk, x_sCnt, x_kEx, x_kSet, x_sEx, x_sSet, x_okO, x_putsN, x_putsC, x_kPar, x_sPar, x_kRet, x_sRet, x_sRetN, x_sIf, x_kSb3, x_kSb2, x_kSb1, x_sSub, x_kAsg, x_sAsg, x_pnm, x_ptp, x_kFor, x_sFor, x_itT, x_iR1, x_kR2, x_iR2, x_iE, x_tY, x_wN, x_wC, List.getElem?_cons_zero, List.getElem?_cons_succ, List.set_cons_zero, List.set_cons_succ, List.append_nil, List.nil_append, List.cons_append, List.length_cons, List.length_nil, Nat.reduceLeDiff, Nat.reduceAdd, Bool.not_true, Bool.not_false, T_ok, true_or, true_and, and_true, if_true, if_false, e8, r2, IV.size]
  refine ⟨⟨_, _, _, _, _, _, _, _, _, _, rfl⟩, ?_, ?_⟩
  · exact ((c6.kp (S := N0) d7 id).kp (S := N0) d8 id).mono (by omega)
  · exact (((k3.trans d4).pushn).trans d6).trans ((d7.of0).trans d8.of0)
theorem good (ns : List Int) (hl : ns.length ≤ 63) : ∃ M', run 60 i_law [.loc 0] [.rol (ns.map D.int)] = .ok (.bl true) M' := by
  show ∃ M', run (52 + 8) 18 [.loc 0] [.rol (ns.map D.int)] = .ok (.bl true) M'
  generalize 52 = k
  have h0 : [O.rol (ns.map D.int)][0]? = some (.rol (ns.map D.int)) := rfl
  generalize [O.rol (ns.map D.int)] = M at h0
  obtain ⟨n, hn, en⟩ : ∃ n : Nat, n ≤ 3 ∧ (if (if (3 : Int) < (ns.length : Int) then 3 else (ns.length : Int)) > 1 then (if (3 : Int) < (ns.length : Int) then 3 else (ns.length : Int)) else 1) = (n : Int) := by
    by_cases a : (3 : Int) < (ns.length : Int)
    · exact ⟨3, by omega, by rw [if_pos a]; rfl⟩
    · rw [if_neg a]
      by_cases b : (ns.length : Int) > 1
      · exact ⟨ns.length, by omega, by rw [if_pos b]⟩
      · exact ⟨1, by omega, by rw [if_neg b]; rfl⟩
  obtain ⟨L', M', e, ⟨x1, x2, x3, x4, x5, x6, x7, x8, x9, x10, x11, x12, hL⟩, hM⟩ := for_T (v := .rng 0 n) (j := 1) (b := (sSeq (sSet 2 (eCall (run (k + 7) 11) [] (aC (eCall (run (k + 7) 10) [] (aC (eV 0) (aC (eV 1) aN))) aN)))
    (sFor (iR1 (eC (.int 10))) (.nm 3) (lapB (run (k + 7)))))) (n := n) (L := [some (.loc 0), none, none, none, none, none, none, none, none, none, none, none, none]) (M := M)
    (fun i L M' => (∃ x1 x2 x3 x4 x5 x6 x7 x8 x9 x10 x11 x12, L = [some (.loc 0), x1, x2, x3, x4, x5, x6, x7, x8, x9, x10, x11, x12]) ∧ M'[0]? = some (.rol (ns.map D.int)))
    ⟨⟨_, _, _, _, _, _, _, _, _, _, _, _, rfl⟩, h0⟩
    (fun i L M' hi ⟨⟨x1, x2, x3, x4, x5, x6, x7, x8, x9, x10, x11, x12, hL⟩, hM⟩ => by
      subst hL
      refine ⟨_, rng_at hi, ?_⟩
      have z : (0 : Int) + (i : Nat) = (i : Nat) := by omega
      rw [z]
      obtain ⟨v, e1⟩ := cell_run (k := k + 6) (j := i) hM
      obtain ⟨a, b, c, e2, hp⟩ := pen_run (k := k + 6) (M := M') (v := v)
      have r2 : ∀ M, r1D (.int 10) M = .ok (.rng 0 10) M := fun M => x_r1 (n := 10) (by omega)
      have h0l := mem_lt hM
      obtain ⟨L'', M'', e, ⟨y1, y3, y4, y5, y6, y7, y8, y9, y10, y11, y12, hL⟩, hM2, _⟩ := for_T (v := .rng 0 10) (j := 3) (b := lapB (run (k + 7))) (n := 10) (L := [some (.loc 0), some (.int i), some (.loc M'.length), x3, x4, x5, x6, x7, x8, x9, x10, x11, x12]) (M := M' ++ [.lst [.int a, .int b, .int c]])
        (fun lap L M3 => (∃ x1 x3 x4 x5 x6 x7 x8 x9 x10 x11 x12, L = [some (.loc 0), x1, some (.loc M'.length), x3, x4, x5, x6, x7, x8, x9, x10, x11, x12]) ∧ M3[0]? = some (.rol (ns.map D.int)) ∧ PenAt (lap * 250) M'.length M3)
        ⟨⟨_, _, _, _, _, _, _, _, _, _, _, rfl⟩, by rw [List.getElem?_append_left h0l]; exact hM, by rw [Nat.zero_mul]; exact hp⟩
        (fun lap L M3 hlap ⟨⟨y1, y3, y4, y5, y6, y7, y8, y9, y10, y11, y12, hL⟩, g1, g2⟩ => by
          subst hL
          refine ⟨_, rng_at hlap, ?_⟩
          have z : (0 : Int) + (lap : Nat) = (lap : Nat) := by omega
          rw [z]
          refine (lap_ok (k := k) (x0 := some (.loc 0)) (x1 := y1) g2 hlap).mono fun r M4 ⟨q1, ⟨_, _, _, _, _, _, _, _, _, _, q2⟩, q3, q4⟩ => ?_
          exact ⟨q1, ⟨_, _, _, _, _, _, _, _, _, _, _, q2⟩, q4.at g1 (by show ¬ 0 = M'.length; omega), q3⟩)
        (fun _ _ _ => rng_end)
      simp only [bind_ok, bind_ex, outE_ok, outE_ex, retF_nx, retF_rt, retF_xc, x_optR, x_eV, x_eC, x_kB, x_eB, x_eU, x_eF, x_kM, x_eM, x_ift, x_iff, x_eIf, x_kTup, x_kLst, x_eTup, x_eLst, x_aN, x_kCc, x_kC, x_aC, x_tV, x_kCn, x_kCm, x_tCm, x_okB, x_tA, x_tO, x_kN, x_tN, x_tCh, x_kCj, x_kCi, x_kCh, x_eCh, x_kNb, x_kAn, x_kOr, x_kNo, x_eAnd, x_eOr, x_eNot, x_kCl, x_eCall, x_kS2, x_kS1, x_eSl, x_oN, x_asO, x_oS, x_mLoc, x_kML, x_eML, x_kM0, x_kMl0, x_eML0, x_truB, x_truI, x_asB, x_cnx, x_crt, x_cbk, x_cct, x_cxc, x_sSeq, x_sNil, x_sBrk, x_sCnt, x_kEx, x_kSet, x_sEx, x_sSet, x_okO, x_putsN, x_putsC, x_kPar, x_sPar, x_kRet, x_sRet, x_sRetN, x_sIf, x_kSb3, x_kSb2, x_kSb1, x_sSub, x_kAsg, x_sAsg, x_pnm, x_ptp, x_kFor, x_sFor, x_itT, x_iR1, x_kR2, x_iR2, x_iE, x_tY, x_wN, x_wC, List.getElem?_cons_zero, List.getElem?_cons_succ, List.set_cons_zero, List.set_cons_succ, List.append_nil, List.nil_append, List.cons_append, List.length_cons, List.length_nil, Nat.reduceLeDiff, Nat.reduceAdd, Bool.not_true, Bool.not_false, T_ok, true_or, true_and, and_true, if_true, if_false, e1, e2, r2, IV.size, e, hL]
      exact ⟨⟨_, _, _, _, _, _, _, _, _, _, _, _, rfl⟩, hM2⟩)
    (fun _ _ _ => rng_end)
  subst hL
  refine ⟨M', ?_⟩
  rw [in_law]
  simp only [B_law, bind_ok, bind_ex, outE_ok, outE_ex, retF_nx, retF_rt, retF_xc, x_optR, x_eV, x_eC, x_kB, x_eB, x_eU, x_eF, x_kM, x_eM, x_ift, x_iff, x_eIf, x_kTup, x_kLst, x_eTup, x_eLst, x_aN, x_kCc, x_kC, x_aC, x_tV, x_kCn, x_kCm, x_tCm, x_okB, x_tA, x_tO, x_kN, x_tN, x_tCh, x_kCj, x_kCi, x_kCh, x_eCh, x_kNb, x_kAn, x_kOr, x_kNo, x_eAnd, x_eOr, x_eNot, x_kCl, x_eCall, x_kS2, x_kS1, x_eSl, x_oN, x_asO, x_oS, x_mLoc, x_kML, x_eML, x_kM0, x_kMl0, x_eML0, x_truB, x_truI, x_asB, x_cnx, x_crt, x_cbk, x_cct, x_cxc, x_sSeq, x_sNil, x_sBrk, x_sCnt, x_kEx, x_kSet, x_sEx, x_sSet, x_okO, x_putsN, x_putsC, x_kPar, x_sPar, x_kRet, x_sRet, x_sRetN, x_sIf, x_kSb3, x_kSb2, x_kSb1, x_sSub, x_kAsg, x_sAsg, x_pnm, x_ptp, x_kFor, x_sFor, x_itT, x_iR1, x_kR2, x_iR2, x_iE, x_tY, x_wN, x_wC, List.getElem?_cons_zero, List.getElem?_cons_succ, List.set_cons_zero, List.set_cons_succ, List.append_nil, List.nil_append, List.cons_append, List.length_cons, List.length_nil, Nat.reduceLeDiff, Nat.reduceAdd, Bool.not_true, Bool.not_false, T_ok, true_or, true_and, and_true, if_true, if_false, len_atR h0, List.length_map, bMin, bMax, en, x_r1 (n := n) (by omega), IV.size, e]
end Lw

namespace Lw
open PySem L2 G PyProof.Rows
def topS (i : Nat) : Stmt := PySem.Challenge.pw_anywidth_k05_tables_run.main.body.getD i (.Pass ⟨0, 0, 0, 0⟩)
abbrev s_is_integer : Stmt := topS 8
abbrev s_is_between : Stmt := topS 9
abbrev s_need_values : Stmt := topS 10
abbrev s_need_width : Stmt := topS 11
abbrev s_is_pair : Stmt := topS 14
abbrev s_is_row : Stmt := topS 15
abbrev s_is_table : Stmt := topS 16
abbrev s_need_table : Stmt := topS 17
abbrev s_letter_at : Stmt := topS 18
abbrev s_run : Stmt := topS 19
abbrev s_law_cell : Stmt := topS 21
abbrev s_law_pen : Stmt := topS 22
abbrev s_law_draw : Stmt := topS 23
abbrev s_law_pick : Stmt := topS 24
abbrev s_law_same : Stmt := topS 25
abbrev s_law_two : Stmt := topS 26
abbrev s_law_numbers : Stmt := topS 27
abbrev s_law_due : Stmt := topS 28
abbrev s_law : Stmt := topS 29
def ps : Nat → List Str
  | 0 => ["thing"]
  | 1 => ["thing", "low", "high"]
  | 2 => ["thing", "many"]
  | 3 => ["thing", "most"]
  | 4 => ["thing", "many"]
  | 5 => ["thing", "many"]
  | 6 => ["thing"]
  | 7 => ["thing"]
  | 8 => ["values", "place"]
  | 9 => ["table", "values", "width"]
  | 10 => ["_law_script", "_law_k"]
  | 11 => ["_law_cell_here"]
  | 12 => ["_law_pen_here", "_law_many"]
  | 13 => ["_law_pen_here", "_law_these"]
  | 14 => ["_law_found", "_law_due_here"]
  | 15 => ["_law_width"]
  | 16 => ["_law_pen_here", "_law_width"]
  | 17 => ["_law_made", "_law_numbers_here", "_law_width"]
  | 18 => ["_law_script"]
  | _ => []
/-- what the top has written -/
structure Txt (K : PySem.W.Frag) (mg : Str → Option Value) (ad : Nat → Addr) (fd : Nat → FuncData) : Prop where
  m_is_integer : mg "is_integer" = some (.ref (ad 0))
  k_is_integer : PySem.W.keepIn K (.ref (ad 0)) = true
  b_is_integer : Binds K (fd 0) (ps 0) []
  f_is_integer : FunD K "is_integer" "is_integer" (defArgs s_is_integer) (defBody s_is_integer) (defScope s_is_integer) [] [] (ad 0) (fd 0)
  m_is_between : mg "is_between" = some (.ref (ad 1))
  k_is_between : PySem.W.keepIn K (.ref (ad 1)) = true
  b_is_between : Binds K (fd 1) (ps 1) []
  f_is_between : FunD K "is_between" "is_between" (defArgs s_is_between) (defBody s_is_between) (defScope s_is_between) [] [] (ad 1) (fd 1)
  m_need_values : mg "need_values" = some (.ref (ad 2))
  k_need_values : PySem.W.keepIn K (.ref (ad 2)) = true
  b_need_values : Binds K (fd 2) (ps 2) []
  f_need_values : FunD K "need_values" "need_values" (defArgs s_need_values) (defBody s_need_values) (defScope s_need_values) [.int 3] [] (ad 2) (fd 2)
  m_need_width : mg "need_width" = some (.ref (ad 3))
  k_need_width : PySem.W.keepIn K (.ref (ad 3)) = true
  b_need_width : Binds K (fd 3) (ps 3) []
  f_need_width : FunD K "need_width" "need_width" (defArgs s_need_width) (defBody s_need_width) (defScope s_need_width) [.int 2000] [] (ad 3) (fd 3)
  m_is_pair : mg "is_pair" = some (.ref (ad 4))
  k_is_pair : PySem.W.keepIn K (.ref (ad 4)) = true
  b_is_pair : Binds K (fd 4) (ps 4) []
  f_is_pair : FunD K "is_pair" "is_pair" (defArgs s_is_pair) (defBody s_is_pair) (defScope s_is_pair) [] [] (ad 4) (fd 4)
  m_is_row : mg "is_row" = some (.ref (ad 5))
  k_is_row : PySem.W.keepIn K (.ref (ad 5)) = true
  b_is_row : Binds K (fd 5) (ps 5) []
  f_is_row : FunD K "is_row" "is_row" (defArgs s_is_row) (defBody s_is_row) (defScope s_is_row) [] [] (ad 5) (fd 5)
  m_is_table : mg "is_table" = some (.ref (ad 6))
  k_is_table : PySem.W.keepIn K (.ref (ad 6)) = true
  b_is_table : Binds K (fd 6) (ps 6) []
  f_is_table : FunD K "is_table" "is_table" (defArgs s_is_table) (defBody s_is_table) (defScope s_is_table) [] [] (ad 6) (fd 6)
  m_need_table : mg "need_table" = some (.ref (ad 7))
  k_need_table : PySem.W.keepIn K (.ref (ad 7)) = true
  b_need_table : Binds K (fd 7) (ps 7) []
  f_need_table : FunD K "need_table" "need_table" (defArgs s_need_table) (defBody s_need_table) (defScope s_need_table) [] [] (ad 7) (fd 7)
  m_letter_at : mg "letter_at" = some (.ref (ad 8))
  k_letter_at : PySem.W.keepIn K (.ref (ad 8)) = true
  b_letter_at : Binds K (fd 8) (ps 8) []
  f_letter_at : FunD K "letter_at" "letter_at" (defArgs s_letter_at) (defBody s_letter_at) (defScope s_letter_at) [] [] (ad 8) (fd 8)
  m_run : mg "run" = some (.ref (ad 9))
  k_run : PySem.W.keepIn K (.ref (ad 9)) = true
  b_run : Binds K (fd 9) (ps 9) []
  f_run : FunD K "run" "run" (defArgs s_run) (defBody s_run) (defScope s_run) [] [] (ad 9) (fd 9)
  m_law_cell : mg "_law_cell" = some (.ref (ad 10))
  k_law_cell : PySem.W.keepIn K (.ref (ad 10)) = true
  b_law_cell : Binds K (fd 10) (ps 10) []
  f_law_cell : FunD K "_law_cell" "_law_cell" (defArgs s_law_cell) (defBody s_law_cell) (defScope s_law_cell) [] [] (ad 10) (fd 10)
  m_law_pen : mg "_law_pen" = some (.ref (ad 11))
  k_law_pen : PySem.W.keepIn K (.ref (ad 11)) = true
  b_law_pen : Binds K (fd 11) (ps 11) []
  f_law_pen : FunD K "_law_pen" "_law_pen" (defArgs s_law_pen) (defBody s_law_pen) (defScope s_law_pen) [] [] (ad 11) (fd 11)
  m_law_draw : mg "_law_draw" = some (.ref (ad 12))
  k_law_draw : PySem.W.keepIn K (.ref (ad 12)) = true
  b_law_draw : Binds K (fd 12) (ps 12) []
  f_law_draw : FunD K "_law_draw" "_law_draw" (defArgs s_law_draw) (defBody s_law_draw) (defScope s_law_draw) [] [] (ad 12) (fd 12)
  m_law_pick : mg "_law_pick" = some (.ref (ad 13))
  k_law_pick : PySem.W.keepIn K (.ref (ad 13)) = true
  b_law_pick : Binds K (fd 13) (ps 13) []
  f_law_pick : FunD K "_law_pick" "_law_pick" (defArgs s_law_pick) (defBody s_law_pick) (defScope s_law_pick) [] [] (ad 13) (fd 13)
  m_law_same : mg "_law_same" = some (.ref (ad 14))
  k_law_same : PySem.W.keepIn K (.ref (ad 14)) = true
  b_law_same : Binds K (fd 14) (ps 14) []
  f_law_same : FunD K "_law_same" "_law_same" (defArgs s_law_same) (defBody s_law_same) (defScope s_law_same) [] [] (ad 14) (fd 14)
  m_law_two : mg "_law_two" = some (.ref (ad 15))
  k_law_two : PySem.W.keepIn K (.ref (ad 15)) = true
  b_law_two : Binds K (fd 15) (ps 15) []
  f_law_two : FunD K "_law_two" "_law_two" (defArgs s_law_two) (defBody s_law_two) (defScope s_law_two) [] [] (ad 15) (fd 15)
  m_law_numbers : mg "_law_numbers" = some (.ref (ad 16))
  k_law_numbers : PySem.W.keepIn K (.ref (ad 16)) = true
  b_law_numbers : Binds K (fd 16) (ps 16) []
  f_law_numbers : FunD K "_law_numbers" "_law_numbers" (defArgs s_law_numbers) (defBody s_law_numbers) (defScope s_law_numbers) [] [] (ad 16) (fd 16)
  m_law_due : mg "_law_due" = some (.ref (ad 17))
  k_law_due : PySem.W.keepIn K (.ref (ad 17)) = true
  b_law_due : Binds K (fd 17) (ps 17) []
  f_law_due : FunD K "_law_due" "_law_due" (defArgs s_law_due) (defBody s_law_due) (defScope s_law_due) [] [] (ad 17) (fd 17)
  m_law : mg "law" = some (.ref (ad 18))
  k_law : PySem.W.keepIn K (.ref (ad 18)) = true
  b_law : Binds K (fd 18) (ps 18) []
  f_law : FunD K "law" "law" (defArgs s_law) (defBody s_law) (defScope s_law) [] [] (ad 18) (fd 18)
  b_need_width_1 : ∃ ds, Vals [.int 2000] ds ∧ Binds K (fd 3) (ps 3) ds
  g_LETTERS : ∃ v u, mg "LETTERS" = some u ∧ RelV v u ∧ ∀ μ H, Rv K μ H c_LETTERS v
  g_VARIABLES : ∃ v u, mg "VARIABLES" = some u ∧ RelV v u ∧ ∀ μ H, Rv K μ H c_VARIABLES v
  z_all : mg "all" = none
  z_bool : mg "bool" = none
  z_int : mg "int" = none
  z_isinstance : mg "isinstance" = none
  z_len : mg "len" = none
  z_list : mg "list" = none
  z_max : mg "max" = none
  z_min : mg "min" = none
  z_range : mg "range" = none
  z_repr : mg "repr" = none
  z_tuple : mg "tuple" = none
variable {P : Program} {w : World} {K : PySem.W.Frag} {mg : Str → Option Value} {base : Heap} {ad : Nat → Addr} {fd : Nat → FuncData} {ce : Nat → Addr × List Str}
theorem sc_is_integer : FnScope ["thing"] (ps 0) (defScope s_is_integer) := ⟨rfl, rfl, rfl, by decide +kernel, rfl, by decide +kernel, by decide +kernel⟩
set_option maxHeartbeats 16000000 in
theorem d_is_integer (T : Txt K mg ad fd) {k : Nat} {c : Nat → Fn} (G : ∀ i, FG P w K mg base CX0 k (ad i) (fd i) (ps i) (spG ⟨K, ce⟩ (c i))) (hnd : base.NoDigits) {f : Addr} (cdv : Value) (A : Around) (out : List PySem.Env) (s : Shared) (H : Hp) (E : XK)
    (hr : Room k (A.deeper (envOfC "is_integer" (defScope s_is_integer) s.heap.objs.size f cdv))) (hgd : A.guards = some []) :
    PSs (cxOf CX0 P w K mg base ["thing"] "is_integer" (defScope s_is_integer) f cdv A out s H E) (defBody s_is_integer) (tGS ⟨K, ce⟩ (fun _ => E) (B_is_integer c)) := by
  have S := sc_is_integer
  exact (psm_one (psm_ret ((pm_and (cg_isi (T := "int") (by decide +kernel) (pm_v 0) rfl T.z_isinstance rfl T.z_int (by decide +kernel)) (pm_one (pm_not (cg_isi (T := "bool") (by decide +kernel) (pm_v 0) rfl T.z_isinstance rfl T.z_bool (by decide +kernel))))))))
theorem sc_is_between : FnScope ["thing", "low", "high"] (ps 1) (defScope s_is_between) := ⟨rfl, rfl, rfl, by decide +kernel, rfl, by decide +kernel, by decide +kernel⟩
set_option maxHeartbeats 16000000 in
theorem d_is_between (T : Txt K mg ad fd) {k : Nat} {c : Nat → Fn} (G : ∀ i, FG P w K mg base CX0 k (ad i) (fd i) (ps i) (spG ⟨K, ce⟩ (c i))) (hnd : base.NoDigits) {f : Addr} (cdv : Value) (A : Around) (out : List PySem.Env) (s : Shared) (H : Hp) (E : XK)
    (hr : Room k (A.deeper (envOfC "is_between" (defScope s_is_between) s.heap.objs.size f cdv))) (hgd : A.guards = some []) :
    PSs (cxOf CX0 P w K mg base ["thing", "low", "high"] "is_between" (defScope s_is_between) f cdv A out s H E) (defBody s_is_between) (tGS ⟨K, ce⟩ (fun _ => E) (B_is_between c)) := by
  have S := sc_is_between
  exact (psm_one (psm_ret ((pm_and (pm_call (G 0) hr hgd rfl T.m_is_integer T.k_is_integer ⟨_, .nil, T.b_is_integer⟩ (fun _ _ => rvs_nil) px0 (pam_cons (pm_v 0) pam_nil)) (pm_one (pm_chain og_le og_le (pm_v 1) (pm_v 0) (pm_v 2)))))))
theorem sc_need_values : FnScope ["thing", "many", "one"] (ps 2) (defScope s_need_values) := ⟨rfl, rfl, rfl, by decide +kernel, rfl, by decide +kernel, by decide +kernel⟩
set_option maxHeartbeats 16000000 in
theorem d_need_values (T : Txt K mg ad fd) {k : Nat} {c : Nat → Fn} (G : ∀ i, FG P w K mg base CX0 k (ad i) (fd i) (ps i) (spG ⟨K, ce⟩ (c i))) (hnd : base.NoDigits) {f : Addr} (cdv : Value) (A : Around) (out : List PySem.Env) (s : Shared) (H : Hp) (E : XK)
    (hr : Room k (A.deeper (envOfC "need_values" (defScope s_need_values) s.heap.objs.size f cdv))) (hgd : A.guards = some []) :
    PSs (cxOf CX0 P w K mg base ["thing", "many", "one"] "need_values" (defScope s_need_values) f cdv A out s H E) (defBody s_need_values) (tGS ⟨K, ce⟩ (fun _ => E) (B_need_values c)) := by
  have S := sc_need_values
  exact (psm_one (psm_if (PW.pt (pwm_or (ptm_not (pt_tru (cg_isi (T := "tuple") (by decide +kernel) (pm_v 0) rfl T.z_isinstance rfl T.z_tuple (by decide +kernel)))) (pwm_or (pt_cm (og_ne hr.units) (pm_cb cg_len rfl T.z_len (by decide +kernel) (pam_cons (pm_v 0) pam_nil)) (pm_v 1) (nomark _)) (pwm_or1 (ptm_not (pt_tru (pm_cb cg_all rfl T.z_all (by decide +kernel) (pam_cons (pm_lc (own := [("one", 2)]) (p := (.nm 2)) rfl S.nd (pim_e (pm_v 0)) (blkOk_by (N := ["thing", "many", "one"]) (sc := defScope s_need_values) (own := [("one", 2)]) (by decide +kernel)) (by decide) (fun _ _ _ _ _ => (pg_name (i := 2) S.nd rfl (Or.inl rfl))) (fun _ _ _ _ _ => ptsm_nil) (fun _ _ _ _ _ => (pm_call (G 0) hr hgd rfl T.m_is_integer T.k_is_integer ⟨_, .nil, T.b_is_integer⟩ (fun _ _ => rvs_nil) px0 (pam_cons (pm_v 2) pam_nil)))) pam_nil))))))))
  (psm_one (psm_never))
  psm_nil))
theorem sc_need_width : FnScope ["thing", "most"] (ps 3) (defScope s_need_width) := ⟨rfl, rfl, rfl, by decide +kernel, rfl, by decide +kernel, by decide +kernel⟩
set_option maxHeartbeats 16000000 in
theorem d_need_width (T : Txt K mg ad fd) {k : Nat} {c : Nat → Fn} (G : ∀ i, FG P w K mg base CX0 k (ad i) (fd i) (ps i) (spG ⟨K, ce⟩ (c i))) (hnd : base.NoDigits) {f : Addr} (cdv : Value) (A : Around) (out : List PySem.Env) (s : Shared) (H : Hp) (E : XK)
    (hr : Room k (A.deeper (envOfC "need_width" (defScope s_need_width) s.heap.objs.size f cdv))) (hgd : A.guards = some []) :
    PSs (cxOf CX0 P w K mg base ["thing", "most"] "need_width" (defScope s_need_width) f cdv A out s H E) (defBody s_need_width) (tGS ⟨K, ce⟩ (fun _ => E) (B_need_width c)) := by
  have S := sc_need_width
  exact (psm_one (psm_if (ptm_not (pt_tru (pm_call (G 1) hr hgd rfl T.m_is_between T.k_is_between ⟨_, .nil, T.b_is_between⟩ (fun _ _ => rvs_nil) px0 (pam_cons (pm_v 0) (pam_cons (pm_int) (pam_cons (pm_v 1) pam_nil))))))
  (psm_one (psm_never))
  psm_nil))
theorem sc_is_pair : FnScope ["thing", "many"] (ps 4) (defScope s_is_pair) := ⟨rfl, rfl, rfl, by decide +kernel, rfl, by decide +kernel, by decide +kernel⟩
set_option maxHeartbeats 16000000 in
theorem d_is_pair (T : Txt K mg ad fd) {k : Nat} {c : Nat → Fn} (G : ∀ i, FG P w K mg base CX0 k (ad i) (fd i) (ps i) (spG ⟨K, ce⟩ (c i))) (hnd : base.NoDigits) {f : Addr} (cdv : Value) (A : Around) (out : List PySem.Env) (s : Shared) (H : Hp) (E : XK)
    (hr : Room k (A.deeper (envOfC "is_pair" (defScope s_is_pair) s.heap.objs.size f cdv))) (hgd : A.guards = some []) :
    PSs (cxOf CX0 P w K mg base ["thing", "many"] "is_pair" (defScope s_is_pair) f cdv A out s H E) (defBody s_is_pair) (tGS ⟨K, ce⟩ (fun _ => E) (B_is_pair c)) := by
  have S := sc_is_pair
  exact (psm_cons (psm_if (PW.pt (pwm_or (ptm_not (pt_tru (cg_isi (T := "tuple") (by decide +kernel) (pm_v 0) rfl T.z_isinstance rfl T.z_tuple (by decide +kernel)))) (pwm_or1 (pt_cm (og_ne hr.units) (pm_cb cg_len rfl T.z_len (by decide +kernel) (pam_cons (pm_v 0) pam_nil)) (pm_int) (nomark _)))))
  (psm_one (psm_ret (pm_bl)))
  psm_nil)
  (psm_one (psm_ret ((pm_and (pm_call (G 1) hr hgd rfl T.m_is_between T.k_is_between ⟨_, .nil, T.b_is_between⟩ (fun _ _ => rvs_nil) px0 (pam_cons (pm_ix og_ix (pm_v 0) (pm_int) (fun _ _ => rfl)) (pam_cons (pm_int) (pam_cons (pm_int) pam_nil)))) (pm_one (pm_call (G 1) hr hgd rfl T.m_is_between T.k_is_between ⟨_, .nil, T.b_is_between⟩ (fun _ _ => rvs_nil) px0 (pam_cons (pm_ix og_ix (pm_v 0) (pm_int) (fun _ _ => rfl)) (pam_cons (pm_int) (pam_cons (pm_op og_sub (pm_v 1) (pm_int)) pam_nil))))))))))
theorem sc_is_row : FnScope ["thing", "many", "pair"] (ps 5) (defScope s_is_row) := ⟨rfl, rfl, rfl, by decide +kernel, rfl, by decide +kernel, by decide +kernel⟩
set_option maxHeartbeats 16000000 in
theorem d_is_row (T : Txt K mg ad fd) {k : Nat} {c : Nat → Fn} (G : ∀ i, FG P w K mg base CX0 k (ad i) (fd i) (ps i) (spG ⟨K, ce⟩ (c i))) (hnd : base.NoDigits) {f : Addr} (cdv : Value) (A : Around) (out : List PySem.Env) (s : Shared) (H : Hp) (E : XK)
    (hr : Room k (A.deeper (envOfC "is_row" (defScope s_is_row) s.heap.objs.size f cdv))) (hgd : A.guards = some []) :
    PSs (cxOf CX0 P w K mg base ["thing", "many", "pair"] "is_row" (defScope s_is_row) f cdv A out s H E) (defBody s_is_row) (tGS ⟨K, ce⟩ (fun _ => E) (B_is_row c)) := by
  have S := sc_is_row
  exact (psm_cons (psm_if (PW.pt (pwm_or (ptm_not (pt_tru (cg_isi (T := "tuple") (by decide +kernel) (pm_v 0) rfl T.z_isinstance rfl T.z_tuple (by decide +kernel)))) (pwm_or1 (pt_cm (og_ne hr.units) (pm_cb cg_len rfl T.z_len (by decide +kernel) (pam_cons (pm_v 0) pam_nil)) (pm_ge rfl T.g_LETTERS) (nomark _)))))
  (psm_one (psm_ret (pm_bl)))
  psm_nil)
  (psm_one (psm_ret (pm_cb cg_all rfl T.z_all (by decide +kernel) (pam_cons (pm_lc (own := [("pair", 2)]) (p := (.nm 2)) rfl S.nd (pim_e (pm_v 0)) (blkOk_by (N := ["thing", "many", "pair"]) (sc := defScope s_is_row) (own := [("pair", 2)]) (by decide +kernel)) (by decide) (fun _ _ _ _ _ => (pg_name (i := 2) S.nd rfl (Or.inl rfl))) (fun _ _ _ _ _ => ptsm_nil) (fun _ _ _ _ _ => (pm_call (G 4) hr hgd rfl T.m_is_pair T.k_is_pair ⟨_, .nil, T.b_is_pair⟩ (fun _ _ => rvs_nil) px0 (pam_cons (pm_v 2) (pam_cons (pm_v 1) pam_nil))))) pam_nil)))))
theorem sc_is_table : FnScope ["thing", "row"] (ps 6) (defScope s_is_table) := ⟨rfl, rfl, rfl, by decide +kernel, rfl, by decide +kernel, by decide +kernel⟩
set_option maxHeartbeats 16000000 in
theorem d_is_table (T : Txt K mg ad fd) {k : Nat} {c : Nat → Fn} (G : ∀ i, FG P w K mg base CX0 k (ad i) (fd i) (ps i) (spG ⟨K, ce⟩ (c i))) (hnd : base.NoDigits) {f : Addr} (cdv : Value) (A : Around) (out : List PySem.Env) (s : Shared) (H : Hp) (E : XK)
    (hr : Room k (A.deeper (envOfC "is_table" (defScope s_is_table) s.heap.objs.size f cdv))) (hgd : A.guards = some []) :
    PSs (cxOf CX0 P w K mg base ["thing", "row"] "is_table" (defScope s_is_table) f cdv A out s H E) (defBody s_is_table) (tGS ⟨K, ce⟩ (fun _ => E) (B_is_table c)) := by
  have S := sc_is_table
  exact (psm_cons (psm_if (PW.pt (pwm_or (ptm_not (pt_tru (cg_isi (T := "tuple") (by decide +kernel) (pm_v 0) rfl T.z_isinstance rfl T.z_tuple (by decide +kernel)))) (pwm_or1 (pt_cm (og_eq hr.units) (pm_v 0) (pm_tup pam_nil) (nomark _)))))
  (psm_one (psm_ret (pm_bl)))
  psm_nil)
  (psm_one (psm_ret (pm_cb cg_all rfl T.z_all (by decide +kernel) (pam_cons (pm_lc (own := [("row", 1)]) (p := (.nm 1)) rfl S.nd (pim_e (pm_v 0)) (blkOk_by (N := ["thing", "row"]) (sc := defScope s_is_table) (own := [("row", 1)]) (by decide +kernel)) (by decide) (fun _ _ _ _ _ => (pg_name (i := 1) S.nd rfl (Or.inl rfl))) (fun _ _ _ _ _ => ptsm_nil) (fun _ _ _ _ _ => (pm_call (G 5) hr hgd rfl T.m_is_row T.k_is_row ⟨_, .nil, T.b_is_row⟩ (fun _ _ => rvs_nil) px0 (pam_cons (pm_v 1) (pam_cons (pm_cb cg_len rfl T.z_len (by decide +kernel) (pam_cons (pm_v 0) pam_nil)) pam_nil))))) pam_nil)))))
theorem sc_need_table : FnScope ["thing"] (ps 7) (defScope s_need_table) := ⟨rfl, rfl, rfl, by decide +kernel, rfl, by decide +kernel, by decide +kernel⟩
set_option maxHeartbeats 16000000 in
theorem d_need_table (T : Txt K mg ad fd) {k : Nat} {c : Nat → Fn} (G : ∀ i, FG P w K mg base CX0 k (ad i) (fd i) (ps i) (spG ⟨K, ce⟩ (c i))) (hnd : base.NoDigits) {f : Addr} (cdv : Value) (A : Around) (out : List PySem.Env) (s : Shared) (H : Hp) (E : XK)
    (hr : Room k (A.deeper (envOfC "need_table" (defScope s_need_table) s.heap.objs.size f cdv))) (hgd : A.guards = some []) :
    PSs (cxOf CX0 P w K mg base ["thing"] "need_table" (defScope s_need_table) f cdv A out s H E) (defBody s_need_table) (tGS ⟨K, ce⟩ (fun _ => E) (B_need_table c)) := by
  have S := sc_need_table
  exact (psm_one (psm_if (ptm_not (pt_tru (pm_call (G 6) hr hgd rfl T.m_is_table T.k_is_table ⟨_, .nil, T.b_is_table⟩ (fun _ _ => rvs_nil) px0 (pam_cons (pm_v 0) pam_nil))))
  (psm_one (psm_never))
  psm_nil))
theorem sc_letter_at : FnScope ["values", "place"] (ps 8) (defScope s_letter_at) := ⟨rfl, rfl, rfl, by decide +kernel, rfl, by decide +kernel, by decide +kernel⟩
set_option maxHeartbeats 16000000 in
theorem d_letter_at (T : Txt K mg ad fd) {k : Nat} {c : Nat → Fn} (G : ∀ i, FG P w K mg base CX0 k (ad i) (fd i) (ps i) (spG ⟨K, ce⟩ (c i))) (hnd : base.NoDigits) {f : Addr} (cdv : Value) (A : Around) (out : List PySem.Env) (s : Shared) (H : Hp) (E : XK)
    (hr : Room k (A.deeper (envOfC "letter_at" (defScope s_letter_at) s.heap.objs.size f cdv))) (hgd : A.guards = some []) :
    PSs (cxOf CX0 P w K mg base ["values", "place"] "letter_at" (defScope s_letter_at) f cdv A out s H E) (defBody s_letter_at) (tGS ⟨K, ce⟩ (fun _ => E) (B_letter_at c)) := by
  have S := sc_letter_at
  exact (psm_one (psm_ret (pm_op og_add (pm_op og_add (pm_op og_mul (pm_op og_and (pm_op og_shr (pm_ix og_ix (pm_v 0) (pm_int) (fun _ _ => rfl)) (pm_v 1)) (pm_int)) (pm_int)) (pm_op og_mul (pm_op og_and (pm_op og_shr (pm_ix og_ix (pm_v 0) (pm_int) (fun _ _ => rfl)) (pm_v 1)) (pm_int)) (pm_int))) (pm_op og_and (pm_op og_shr (pm_ix og_ix (pm_v 0) (pm_int) (fun _ _ => rfl)) (pm_v 1)) (pm_int)))))
theorem sc_run : FnScope ["table", "values", "width", "at", "found", "place", "bit"] (ps 9) (defScope s_run) := ⟨rfl, rfl, rfl, by decide +kernel, rfl, by decide +kernel, by decide +kernel⟩
set_option maxHeartbeats 16000000 in
theorem d_run (T : Txt K mg ad fd) {k : Nat} {c : Nat → Fn} (G : ∀ i, FG P w K mg base CX0 k (ad i) (fd i) (ps i) (spG ⟨K, ce⟩ (c i))) (hnd : base.NoDigits) {f : Addr} (cdv : Value) (A : Around) (out : List PySem.Env) (s : Shared) (H : Hp) (E : XK)
    (hr : Room k (A.deeper (envOfC "run" (defScope s_run) s.heap.objs.size f cdv))) (hgd : A.guards = some []) :
    PSs (cxOf CX0 P w K mg base ["table", "values", "width", "at", "found", "place", "bit"] "run" (defScope s_run) f cdv A out s H E) (defBody s_run) (tGS ⟨K, ce⟩ (fun _ => E) (B_run c)) := by
  have S := sc_run
  exact (psm_cons (psm_expr (pm_call (G 7) hr hgd rfl T.m_need_table T.k_need_table ⟨_, .nil, T.b_need_table⟩ (fun _ _ => rvs_nil) px0 (pam_cons (pm_v 0) pam_nil)))
  (psm_cons (psm_expr (pm_call (G 2) hr hgd rfl T.m_need_values T.k_need_values ⟨_, .nil, T.b_need_values⟩ (fun _ _ => rvs_nil) px0 (pam_cons (pm_v 1) (pam_cons (pm_ge rfl T.g_VARIABLES) pam_nil))))
  (psm_cons (psm_expr (pm_call (G 3) hr hgd rfl T.m_need_width T.k_need_width T.b_need_width_1 (fun _ _ => (rvs_cons (rv_int _) rvs_nil)) px0 (pam_cons (pm_v 2) pam_nil)))
  (psm_cons (psm_asg (p := (.tp [3, 4])) (pm_tup (pam_cons (pm_int) (pam_cons (pm_int) pam_nil))) (pg_tup rfl (pgs_cons (pg_name (i := 3) S.nd rfl (Or.inl rfl)) (pgs_cons (pg_name (i := 4) S.nd rfl (Or.inl rfl)) pgs_nil))))
  (psm_cons (psm_for (p := (.nm 5)) (passes_of rfl) rfl (pim_r1 rfl T.z_range (pm_v 2)) (pg_name (i := 5) S.nd rfl (Or.inl rfl))
  (psm_cons (psm_asg (p := (.tp [6, 3])) (pm_ix og_ix (pm_ix og_ix (pm_v 0) (pm_v 3) (fun _ _ => rfl)) (pm_call (G 8) hr hgd rfl T.m_letter_at T.k_letter_at ⟨_, .nil, T.b_letter_at⟩ (fun _ _ => rvs_nil) px0 (pam_cons (pm_v 1) (pam_cons (pm_v 5) pam_nil))) (fun _ _ => rfl)) (pg_tup rfl (pgs_cons (pg_name (i := 6) S.nd rfl (Or.inl rfl)) (pgs_cons (pg_name (i := 3) S.nd rfl (Or.inl rfl)) pgs_nil))))
  (psm_one (psm_set (j := 4) S.nd rfl (Or.inl rfl) (pm_op og_add (pm_v 4) (pm_op og_shl (pm_v 6) (pm_v 5)))))))
  (psm_one (psm_ret (pm_v 4))))))))
theorem sc_law_cell : FnScope ["_law_script", "_law_k"] (ps 10) (defScope s_law_cell) := ⟨rfl, rfl, rfl, by decide +kernel, rfl, by decide +kernel, by decide +kernel⟩
set_option maxHeartbeats 16000000 in
theorem d_law_cell (T : Txt K mg ad fd) {k : Nat} {c : Nat → Fn} (G : ∀ i, FG P w K mg base CX0 k (ad i) (fd i) (ps i) (spG ⟨K, ce⟩ (c i))) (hnd : base.NoDigits) {f : Addr} (cdv : Value) (A : Around) (out : List PySem.Env) (s : Shared) (H : Hp) (E : XK)
    (hr : Room k (A.deeper (envOfC "_law_cell" (defScope s_law_cell) s.heap.objs.size f cdv))) (hgd : A.guards = some []) :
    PSs (cxOf CX0 P w K mg base ["_law_script", "_law_k"] "_law_cell" (defScope s_law_cell) f cdv A out s H E) (defBody s_law_cell) (tGS ⟨K, ce⟩ (fun _ => E) (B_law_cell c)) := by
  have S := sc_law_cell
  exact (psm_cons (psm_if (pt_cm og_lt (pm_v 1) (pm_cb cg_len rfl T.z_len (by decide +kernel) (pam_cons (pm_v 0) pam_nil)) (nomark _))
  (psm_one (psm_ret (pm_ix og_ix (pm_v 0) (pm_v 1) (fun _ _ => rfl))))
  psm_nil)
  (psm_one (psm_ret (pm_int))))
theorem sc_law_pen : FnScope ["_law_cell_here"] (ps 11) (defScope s_law_pen) := ⟨rfl, rfl, rfl, by decide +kernel, rfl, by decide +kernel, by decide +kernel⟩
set_option maxHeartbeats 16000000 in
theorem d_law_pen (T : Txt K mg ad fd) {k : Nat} {c : Nat → Fn} (G : ∀ i, FG P w K mg base CX0 k (ad i) (fd i) (ps i) (spG ⟨K, ce⟩ (c i))) (hnd : base.NoDigits) {f : Addr} (cdv : Value) (A : Around) (out : List PySem.Env) (s : Shared) (H : Hp) (E : XK)
    (hr : Room k (A.deeper (envOfC "_law_pen" (defScope s_law_pen) s.heap.objs.size f cdv))) (hgd : A.guards = some []) :
    PSs (cxOf CX0 P w K mg base ["_law_cell_here"] "_law_pen" (defScope s_law_pen) f cdv A out s H E) (defBody s_law_pen) (tGS ⟨K, ce⟩ (fun _ => E) (B_law_pen c)) := by
  have S := sc_law_pen
  exact (psm_one (psm_ret (pm_lst (pam_cons (pm_cb cg_max rfl T.z_max (by decide +kernel) (pam_cons (pm_int) (pam_cons (pm_op og_sub (pm_v 0) (pm_op og_pow (pm_int) (pm_int))) pam_nil))) (pam_cons (pm_op og_add (pm_op og_mod (pm_v 0) (pm_int)) (pm_int)) (pam_cons (pm_int) pam_nil))))))
theorem sc_law_draw : FnScope ["_law_pen_here", "_law_many", "_law_found", "_law_stirred"] (ps 12) (defScope s_law_draw) := ⟨rfl, rfl, rfl, by decide +kernel, rfl, by decide +kernel, by decide +kernel⟩
set_option maxHeartbeats 16000000 in
theorem d_law_draw (T : Txt K mg ad fd) {k : Nat} {c : Nat → Fn} (G : ∀ i, FG P w K mg base CX0 k (ad i) (fd i) (ps i) (spG ⟨K, ce⟩ (c i))) (hnd : base.NoDigits) {f : Addr} (cdv : Value) (A : Around) (out : List PySem.Env) (s : Shared) (H : Hp) (E : XK)
    (hr : Room k (A.deeper (envOfC "_law_draw" (defScope s_law_draw) s.heap.objs.size f cdv))) (hgd : A.guards = some []) :
    PSs (cxOf CX0 P w K mg base ["_law_pen_here", "_law_many", "_law_found", "_law_stirred"] "_law_draw" (defScope s_law_draw) f cdv A out s H E) (defBody s_law_draw) (tGS ⟨K, ce⟩ (fun _ => E) (B_law_draw c)) := by
  have S := sc_law_draw
  exact (psm_cons (psm_if (pt_cm og_gt (pm_ix og_ix (pm_v 0) (pm_int) (fun _ _ => rfl)) (pm_int) (nomark _))
  (psm_cons (psm_set (j := 2) S.nd rfl (Or.inl rfl) (pm_op og_mod (pm_ix og_ix (pm_v 0) (pm_int) (fun _ _ => rfl)) (pm_v 1)))
  (psm_cons (psm_sub (pm_op og_div (pm_ix og_ix (pm_v 0) (pm_int) (fun _ _ => rfl)) (pm_v 1)) (pm_v 0) (pm_int))
  (psm_one (psm_ret (pm_v 2)))))
  psm_nil)
  (psm_cons (psm_sub (pm_op og_add (pm_ix og_ix (pm_v 0) (pm_int) (fun _ _ => rfl)) (pm_int)) (pm_v 0) (pm_int))
  (psm_cons (psm_sub (pm_op og_mod (pm_op og_add (pm_op og_add (pm_op og_mul (pm_ix og_ix (pm_v 0) (pm_int) (fun _ _ => rfl)) (pm_int)) (pm_op og_mul (pm_int) (pm_ix og_ix (pm_v 0) (pm_int) (fun _ _ => rfl)))) (pm_int)) (pm_int)) (pm_v 0) (pm_int))
  (psm_cons (psm_set (j := 3) S.nd rfl (Or.inl rfl) (pm_op og_mod (pm_op og_add (pm_op og_add (pm_op og_mul (pm_ix og_ix (pm_v 0) (pm_int) (fun _ _ => rfl)) (pm_ix og_ix (pm_v 0) (pm_int) (fun _ _ => rfl))) (pm_op og_mul (pm_int) (pm_ix og_ix (pm_v 0) (pm_int) (fun _ _ => rfl)))) (pm_int)) (pm_int)))
  (psm_cons (psm_set (j := 3) S.nd rfl (Or.inl rfl) (pm_op og_mod (pm_op og_add (pm_op og_mul (pm_v 3) (pm_v 3)) (pm_op og_mul (pm_int) (pm_v 3))) (pm_int)))
  (psm_one (psm_ret (pm_op og_mod (pm_op og_div (pm_v 3) (pm_int)) (pm_v 1)))))))))
theorem sc_law_pick : FnScope ["_law_pen_here", "_law_these"] (ps 13) (defScope s_law_pick) := ⟨rfl, rfl, rfl, by decide +kernel, rfl, by decide +kernel, by decide +kernel⟩
set_option maxHeartbeats 16000000 in
theorem d_law_pick (T : Txt K mg ad fd) {k : Nat} {c : Nat → Fn} (G : ∀ i, FG P w K mg base CX0 k (ad i) (fd i) (ps i) (spG ⟨K, ce⟩ (c i))) (hnd : base.NoDigits) {f : Addr} (cdv : Value) (A : Around) (out : List PySem.Env) (s : Shared) (H : Hp) (E : XK)
    (hr : Room k (A.deeper (envOfC "_law_pick" (defScope s_law_pick) s.heap.objs.size f cdv))) (hgd : A.guards = some []) :
    PSs (cxOf CX0 P w K mg base ["_law_pen_here", "_law_these"] "_law_pick" (defScope s_law_pick) f cdv A out s H E) (defBody s_law_pick) (tGS ⟨K, ce⟩ (fun _ => E) (B_law_pick c)) := by
  have S := sc_law_pick
  exact (psm_one (psm_ret (pm_ix og_ix (pm_v 1) (pm_call (G 12) hr hgd rfl T.m_law_draw T.k_law_draw ⟨_, .nil, T.b_law_draw⟩ (fun _ _ => rvs_nil) px0 (pam_cons (pm_v 0) (pam_cons (pm_cb cg_len rfl T.z_len (by decide +kernel) (pam_cons (pm_v 1) pam_nil)) pam_nil))) (fun _ _ => rfl))))
theorem sc_law_same : FnScope ["_law_found", "_law_due_here"] (ps 14) (defScope s_law_same) := ⟨rfl, rfl, rfl, by decide +kernel, rfl, by decide +kernel, by decide +kernel⟩
set_option maxHeartbeats 16000000 in
theorem d_law_same (T : Txt K mg ad fd) {k : Nat} {c : Nat → Fn} (G : ∀ i, FG P w K mg base CX0 k (ad i) (fd i) (ps i) (spG ⟨K, ce⟩ (c i))) (hnd : base.NoDigits) {f : Addr} (cdv : Value) (A : Around) (out : List PySem.Env) (s : Shared) (H : Hp) (E : XK)
    (hr : Room k (A.deeper (envOfC "_law_same" (defScope s_law_same) s.heap.objs.size f cdv))) (hgd : A.guards = some []) :
    PSs (cxOf CX0 P w K mg base ["_law_found", "_law_due_here"] "_law_same" (defScope s_law_same) f cdv A out s H E) (defBody s_law_same) (tGS ⟨K, ce⟩ (fun _ => E) (B_law_same c)) := by
  have S := sc_law_same
  exact (psm_one (psm_ret (pm_cmp (og_eq hr.units) (pm_cb (cg_repr hgd hr.units hnd) rfl T.z_repr (by decide +kernel) (pam_cons (pm_v 0) pam_nil)) (pm_cb (cg_repr hgd hr.units hnd) rfl T.z_repr (by decide +kernel) (pam_cons (pm_v 1) pam_nil)) (nomark _))))
theorem sc_law_two : FnScope ["_law_width", "_law_found", "_law_turn"] (ps 15) (defScope s_law_two) := ⟨rfl, rfl, rfl, by decide +kernel, rfl, by decide +kernel, by decide +kernel⟩
set_option maxHeartbeats 16000000 in
theorem d_law_two (T : Txt K mg ad fd) {k : Nat} {c : Nat → Fn} (G : ∀ i, FG P w K mg base CX0 k (ad i) (fd i) (ps i) (spG ⟨K, ce⟩ (c i))) (hnd : base.NoDigits) {f : Addr} (cdv : Value) (A : Around) (out : List PySem.Env) (s : Shared) (H : Hp) (E : XK)
    (hr : Room k (A.deeper (envOfC "_law_two" (defScope s_law_two) s.heap.objs.size f cdv))) (hgd : A.guards = some []) :
    PSs (cxOf CX0 P w K mg base ["_law_width", "_law_found", "_law_turn"] "_law_two" (defScope s_law_two) f cdv A out s H E) (defBody s_law_two) (tGS ⟨K, ce⟩ (fun _ => E) (B_law_two c)) := by
  have S := sc_law_two
  exact (psm_cons (psm_set (j := 1) S.nd rfl (Or.inl rfl) (pm_int))
  (psm_cons (psm_for (p := (.nm 2)) (passes_of rfl) rfl (pim_r1 rfl T.z_range (pm_v 0)) (pg_name (i := 2) S.nd rfl (Or.inl rfl))
  (psm_one (psm_set (j := 1) S.nd rfl (Or.inl rfl) (pm_op og_mul (pm_v 1) (pm_int)))))
  (psm_one (psm_ret (pm_v 1)))))
theorem sc_law_numbers : FnScope ["_law_pen_here", "_law_width", "_law_far", "_law_these", "_law_turn"] (ps 16) (defScope s_law_numbers) := ⟨rfl, rfl, rfl, by decide +kernel, rfl, by decide +kernel, by decide +kernel⟩
set_option maxHeartbeats 16000000 in
theorem d_law_numbers (T : Txt K mg ad fd) {k : Nat} {c : Nat → Fn} (G : ∀ i, FG P w K mg base CX0 k (ad i) (fd i) (ps i) (spG ⟨K, ce⟩ (c i))) (hnd : base.NoDigits) {f : Addr} (cdv : Value) (A : Around) (out : List PySem.Env) (s : Shared) (H : Hp) (E : XK)
    (hr : Room k (A.deeper (envOfC "_law_numbers" (defScope s_law_numbers) s.heap.objs.size f cdv))) (hgd : A.guards = some []) :
    PSs (cxOf CX0 P w K mg base ["_law_pen_here", "_law_width", "_law_far", "_law_these", "_law_turn"] "_law_numbers" (defScope s_law_numbers) f cdv A out s H E) (defBody s_law_numbers) (tGS ⟨K, ce⟩ (fun _ => E) (B_law_numbers c)) := by
  have S := sc_law_numbers
  exact (psm_cons (psm_set (j := 2) S.nd rfl (Or.inl rfl) (pm_call (G 15) hr hgd rfl T.m_law_two T.k_law_two ⟨_, .nil, T.b_law_two⟩ (fun _ _ => rvs_nil) px0 (pam_cons (pm_v 1) pam_nil)))
  (psm_cons (psm_set (j := 3) S.nd rfl (Or.inr rfl) (pm_lst (pam_cons (pm_int) (pam_cons (pm_int) (pam_cons (pm_op og_sub (pm_v 2) (pm_int)) (pam_cons (pm_op og_div (pm_v 2) (pm_int)) (pam_cons (pm_call (G 12) hr hgd rfl T.m_law_draw T.k_law_draw ⟨_, .nil, T.b_law_draw⟩ (fun _ _ => rvs_nil) px0 (pam_cons (pm_v 0) (pam_cons (pm_v 2) pam_nil))) (pam_cons (pm_call (G 12) hr hgd rfl T.m_law_draw T.k_law_draw ⟨_, .nil, T.b_law_draw⟩ (fun _ _ => rvs_nil) px0 (pam_cons (pm_v 0) (pam_cons (pm_v 2) pam_nil))) (pam_cons (pm_op og_sub (pm_int) (pm_call (G 12) hr hgd rfl T.m_law_draw T.k_law_draw ⟨_, .nil, T.b_law_draw⟩ (fun _ _ => rvs_nil) px0 (pam_cons (pm_v 0) (pam_cons (pm_v 2) pam_nil)))) pam_nil)))))))))
  (psm_one (psm_ret (pm_ct cg_tuple rfl T.z_tuple (by decide +kernel) (pam_cons (pm_lc (own := [("_law_turn", 4)]) (p := (.nm 4)) rfl S.nd (pim_r1 rfl T.z_range (pm_int)) (blkOk_by (N := ["_law_pen_here", "_law_width", "_law_far", "_law_these", "_law_turn"]) (sc := defScope s_law_numbers) (own := [("_law_turn", 4)]) (by decide +kernel)) (by decide) (fun _ _ _ _ _ => (pg_name (i := 4) S.nd rfl (Or.inl rfl))) (fun _ _ _ _ _ => ptsm_nil) (fun _ _ _ _ _ => (pm_call (G 13) hr hgd rfl T.m_law_pick T.k_law_pick ⟨_, .nil, T.b_law_pick⟩ (fun _ _ => rvs_nil) px0 (pam_cons (pm_v 0) (pam_cons (pm_v 3) pam_nil))))) pam_nil))))))
theorem sc_law_due : FnScope ["_law_made", "_law_numbers_here", "_law_width", "_law_at", "_law_bits", "_law_rest", "_law_place", "_law_letter", "_law_number", "_law_found", "_law_bit"] (ps 17) (defScope s_law_due) := ⟨rfl, rfl, rfl, by decide +kernel, rfl, by decide +kernel, by decide +kernel⟩
set_option maxHeartbeats 16000000 in
theorem d_law_due (T : Txt K mg ad fd) {k : Nat} {c : Nat → Fn} (G : ∀ i, FG P w K mg base CX0 k (ad i) (fd i) (ps i) (spG ⟨K, ce⟩ (c i))) (hnd : base.NoDigits) {f : Addr} (cdv : Value) (A : Around) (out : List PySem.Env) (s : Shared) (H : Hp) (E : XK)
    (hr : Room k (A.deeper (envOfC "_law_due" (defScope s_law_due) s.heap.objs.size f cdv))) (hgd : A.guards = some []) :
    PSs (cxOf CX0 P w K mg base ["_law_made", "_law_numbers_here", "_law_width", "_law_at", "_law_bits", "_law_rest", "_law_place", "_law_letter", "_law_number", "_law_found", "_law_bit"] "_law_due" (defScope s_law_due) f cdv A out s H E) (defBody s_law_due) (tGS ⟨K, ce⟩ (fun _ => E) (B_law_due c)) := by
  have S := sc_law_due
  exact (psm_cons (psm_par3 (j := 3) (k := 4) (l := 5) rfl S.nd rfl rfl rfl (by decide) (by decide) (by decide) rfl rfl rfl (pam_cons (pm_int) (pam_cons (pm_lst pam_nil) (pam_cons (pm_ct cg_list rfl T.z_list (by decide +kernel) (pam_cons (pm_v 1) pam_nil)) pam_nil))) (by rfl))
  (psm_cons (psm_for (p := (.nm 6)) (passes_of rfl) rfl (pim_r1 rfl T.z_range (pm_v 2)) (pg_name (i := 6) S.nd rfl (Or.inl rfl))
  (psm_cons (psm_set (j := 7) S.nd rfl (Or.inl rfl) (pm_op og_add (pm_op og_add (pm_op og_mul (pm_op og_mod (pm_ix og_ix (pm_v 5) (pm_int) (fun _ _ => rfl)) (pm_int)) (pm_int)) (pm_op og_mul (pm_op og_mod (pm_ix og_ix (pm_v 5) (pm_int) (fun _ _ => rfl)) (pm_int)) (pm_int))) (pm_op og_mod (pm_ix og_ix (pm_v 5) (pm_int) (fun _ _ => rfl)) (pm_int))))
  (psm_cons (psm_expr (pm_ml PySem.F.slot_list_append PySem.F.type_list_append mg_append (pm_v 4) (pam_cons (pm_ix og_ix (pm_ix og_ix (pm_ix og_ix (pm_v 0) (pm_v 3) (fun _ _ => rfl)) (pm_v 7) (fun _ _ => rfl)) (pm_int) (fun _ _ => rfl)) pam_nil)))
  (psm_one (psm_par (j := 3) (k := 5) rfl S.nd rfl rfl (by decide) rfl rfl (pam_cons (pm_ix og_ix (pm_ix og_ix (pm_ix og_ix (pm_v 0) (pm_v 3) (fun _ _ => rfl)) (pm_v 7) (fun _ _ => rfl)) (pm_int) (fun _ _ => rfl)) (pam_cons (pm_lc (own := [("_law_number", 8)]) (p := (.nm 8)) rfl S.nd (pim_e (pm_v 5)) (blkOk_by (N := ["_law_made", "_law_numbers_here", "_law_width", "_law_at", "_law_bits", "_law_rest", "_law_place", "_law_letter", "_law_number", "_law_found", "_law_bit"]) (sc := defScope s_law_due) (own := [("_law_number", 8)]) (by decide +kernel)) (by decide) (fun _ _ _ _ _ => (pg_name (i := 8) S.nd rfl (Or.inl rfl))) (fun _ _ _ _ _ => ptsm_nil) (fun _ _ _ _ _ => (pm_op og_div (pm_v 8) (pm_int)))) pam_nil)) (by rfl))))))
  (psm_cons (psm_set (j := 9) S.nd rfl (Or.inl rfl) (pm_int))
  (psm_cons (psm_for (p := (.nm 10)) (passes_of rfl) rfl (pim_e (pm_revL (pm_v 4))) (pg_name (i := 10) S.nd rfl (Or.inl rfl))
  (psm_one (psm_set (j := 9) S.nd rfl (Or.inl rfl) (pm_op og_add (pm_op og_mul (pm_int) (pm_v 9)) (pm_v 10)))))
  (psm_one (psm_ret (pm_v 9)))))))
theorem sc_law : FnScope ["_law_script", "_law_k", "_law_pen_here", "_law_lap", "_law_many", "_law_made", "_law_at", "_law_letter", "_law_width", "_law_numbers_here", "_law_kept", "_law_due_here", "_law_turn"] (ps 18) (defScope s_law) := ⟨rfl, rfl, rfl, by decide +kernel, rfl, by decide +kernel, by decide +kernel⟩
set_option maxHeartbeats 16000000 in
theorem d_law (T : Txt K mg ad fd) {k : Nat} {c : Nat → Fn} (G : ∀ i, FG P w K mg base CX0 k (ad i) (fd i) (ps i) (spG ⟨K, ce⟩ (c i))) (hnd : base.NoDigits) {f : Addr} (cdv : Value) (A : Around) (out : List PySem.Env) (s : Shared) (H : Hp) (E : XK)
    (hr : Room k (A.deeper (envOfC "law" (defScope s_law) s.heap.objs.size f cdv))) (hgd : A.guards = some []) :
    PSs (cxOf CX0 P w K mg base ["_law_script", "_law_k", "_law_pen_here", "_law_lap", "_law_many", "_law_made", "_law_at", "_law_letter", "_law_width", "_law_numbers_here", "_law_kept", "_law_due_here", "_law_turn"] "law" (defScope s_law) f cdv A out s H E) (defBody s_law) (tGS ⟨K, ce⟩ (fun _ => E) (B_law c)) := by
  have S := sc_law
  exact (psm_cons (psm_for (p := (.nm 1)) (passes_of rfl) rfl (pim_r1 rfl T.z_range (pm_cb cg_max rfl T.z_max (by decide +kernel) (pam_cons (pm_int) (pam_cons (pm_cb cg_min rfl T.z_min (by decide +kernel) (pam_cons (pm_cb cg_len rfl T.z_len (by decide +kernel) (pam_cons (pm_v 0) pam_nil)) (pam_cons (pm_int) pam_nil))) pam_nil)))) (pg_name (i := 1) S.nd rfl (Or.inl rfl))
  (psm_cons (psm_set (j := 2) S.nd rfl (Or.inr rfl) (pm_call (G 11) hr hgd rfl T.m_law_pen T.k_law_pen ⟨_, .nil, T.b_law_pen⟩ (fun _ _ => rvs_nil) px0 (pam_cons (pm_call (G 10) hr hgd rfl T.m_law_cell T.k_law_cell ⟨_, .nil, T.b_law_cell⟩ (fun _ _ => rvs_nil) px0 (pam_cons (pm_v 0) (pam_cons (pm_v 1) pam_nil))) pam_nil)))
  (psm_one (psm_for (p := (.nm 3)) (passes_of rfl) rfl (pim_r1 rfl T.z_range (pm_int)) (pg_name (i := 3) S.nd rfl (Or.inl rfl))
  (psm_cons (psm_asg (p := (.tp [4, 5])) (pm_tup (pam_cons (pm_op og_add (pm_int) (pm_call (G 12) hr hgd rfl T.m_law_draw T.k_law_draw ⟨_, .nil, T.b_law_draw⟩ (fun _ _ => rvs_nil) px0 (pam_cons (pm_v 2) (pam_cons (pm_int) pam_nil)))) (pam_cons (pm_lst pam_nil) pam_nil))) (pg_tup rfl (pgs_cons (pg_name (i := 4) S.nd rfl (Or.inr rfl)) (pgs_cons (pg_name (i := 5) S.nd rfl (Or.inl rfl)) pgs_nil))))
  (psm_cons (psm_for (p := (.nm 6)) (passes_of rfl) rfl (pim_r1 rfl T.z_range (pm_v 4)) (pg_name (i := 6) S.nd rfl (Or.inl rfl))
  (psm_one (psm_expr (pm_ml PySem.F.slot_list_append PySem.F.type_list_append mg_append (pm_v 5) (pam_cons (pm_ct cg_tuple rfl T.z_tuple (by decide +kernel) (pam_cons (pm_lc (own := [("_law_letter", 7)]) (p := (.nm 7)) rfl S.nd (pim_r1 rfl T.z_range (pm_int)) (blkOk_by (N := ["_law_script", "_law_k", "_law_pen_here", "_law_lap", "_law_many", "_law_made", "_law_at", "_law_letter", "_law_width", "_law_numbers_here", "_law_kept", "_law_due_here", "_law_turn"]) (sc := defScope s_law) (own := [("_law_letter", 7)]) (by decide +kernel)) (by decide) (fun _ _ _ _ _ => (pg_name (i := 7) S.nd rfl (Or.inl rfl))) (fun _ _ _ _ _ => ptsm_nil) (fun _ _ _ _ _ => (pm_tup (pam_cons (pm_call (G 12) hr hgd rfl T.m_law_draw T.k_law_draw ⟨_, .nil, T.b_law_draw⟩ (fun _ _ => rvs_nil) px0 (pam_cons (pm_v 2) (pam_cons (pm_int) pam_nil))) (pam_cons (pm_call (G 12) hr hgd rfl T.m_law_draw T.k_law_draw ⟨_, .nil, T.b_law_draw⟩ (fun _ _ => rvs_nil) px0 (pam_cons (pm_v 2) (pam_cons (pm_v 4) pam_nil))) pam_nil))))) pam_nil)) pam_nil)))))
  (psm_cons (psm_par (j := 5) (k := 8) rfl S.nd rfl rfl (by decide) rfl rfl (pam_cons (pm_ct cg_tuple rfl T.z_tuple (by decide +kernel) (pam_cons (pm_v 5) pam_nil)) (pam_cons (pm_ix og_ix (pm_lst (pam_cons (pm_int) (pam_cons (pm_int) (pam_cons (pm_int) (pam_cons (pm_int) (pam_cons (pm_op og_add (pm_int) (pm_call (G 12) hr hgd rfl T.m_law_draw T.k_law_draw ⟨_, .nil, T.b_law_draw⟩ (fun _ _ => rvs_nil) px0 (pam_cons (pm_v 2) (pam_cons (pm_int) pam_nil)))) (pam_cons (pm_int) pam_nil))))))) (pm_op og_mod (pm_v 3) (pm_int)) (fun _ _ => rfl)) pam_nil)) (by rfl))
  (psm_cons (psm_set (j := 9) S.nd rfl (Or.inl rfl) (pm_call (G 16) hr hgd rfl T.m_law_numbers T.k_law_numbers ⟨_, .nil, T.b_law_numbers⟩ (fun _ _ => rvs_nil) px0 (pam_cons (pm_v 2) (pam_cons (pm_v 8) pam_nil))))
  (psm_cons (psm_par (j := 10) (k := 11) rfl S.nd rfl rfl (by decide) rfl rfl (pam_cons (pm_cb (cg_repr hgd hr.units hnd) rfl T.z_repr (by decide +kernel) (pam_cons (pm_tup (pam_cons (pm_v 5) (pam_cons (pm_v 9) pam_nil))) pam_nil)) (pam_cons (pm_call (G 17) hr hgd rfl T.m_law_due T.k_law_due ⟨_, .nil, T.b_law_due⟩ (fun _ _ => rvs_nil) px0 (pam_cons (pm_v 5) (pam_cons (pm_v 9) (pam_cons (pm_v 8) pam_nil)))) pam_nil)) (by rfl))
  (psm_one (psm_for (p := (.nm 12)) (passes_of rfl) rfl (pim_r1 rfl T.z_range (pm_int)) (pg_name (i := 12) S.nd rfl (Or.inl rfl))
  (psm_one (psm_if (PW.pt (pwm_or (ptm_not (pt_tru (pm_call (G 14) hr hgd rfl T.m_law_same T.k_law_same ⟨_, .nil, T.b_law_same⟩ (fun _ _ => rvs_nil) px0 (pam_cons (pm_call (G 9) hr hgd rfl T.m_run T.k_run ⟨_, .nil, T.b_run⟩ (fun _ _ => rvs_nil) px0 (pam_cons (pm_v 5) (pam_cons (pm_v 9) (pam_cons (pm_v 8) pam_nil)))) (pam_cons (pm_v 11) pam_nil))))) (pwm_or1 (pt_cm (og_ne hr.units) (pm_cb (cg_repr hgd hr.units hnd) rfl T.z_repr (by decide +kernel) (pam_cons (pm_tup (pam_cons (pm_v 5) (pam_cons (pm_v 9) pam_nil))) pam_nil)) (pm_v 10) (nomark _)))))
  (psm_one (psm_ret (pm_bl)))
  psm_nil)))))))))))))
  (psm_one (psm_ret (pm_bl))))
theorem all_ok (T : Txt K mg ad fd) (hnd : base.NoDigits) : ∀ (k i : Nat), FG P w K mg base CX0 k (ad i) (fd i) (ps i) (spG ⟨K, ce⟩ (run k i))
  | 0, i => fg_none fun _ _ => rfl
  | k + 1, 0 => fg_fun T.f_is_integer sc_is_integer fun cdv A out s H E room gd => d_is_integer T (all_ok T hnd k) hnd cdv A out s H E room gd
  | k + 1, 1 => fg_fun T.f_is_between sc_is_between fun cdv A out s H E room gd => d_is_between T (all_ok T hnd k) hnd cdv A out s H E room gd
  | k + 1, 2 => fg_fun T.f_need_values sc_need_values fun cdv A out s H E room gd => d_need_values T (all_ok T hnd k) hnd cdv A out s H E room gd
  | k + 1, 3 => fg_fun T.f_need_width sc_need_width fun cdv A out s H E room gd => d_need_width T (all_ok T hnd k) hnd cdv A out s H E room gd
  | k + 1, 4 => fg_fun T.f_is_pair sc_is_pair fun cdv A out s H E room gd => d_is_pair T (all_ok T hnd k) hnd cdv A out s H E room gd
  | k + 1, 5 => fg_fun T.f_is_row sc_is_row fun cdv A out s H E room gd => d_is_row T (all_ok T hnd k) hnd cdv A out s H E room gd
  | k + 1, 6 => fg_fun T.f_is_table sc_is_table fun cdv A out s H E room gd => d_is_table T (all_ok T hnd k) hnd cdv A out s H E room gd
  | k + 1, 7 => fg_fun T.f_need_table sc_need_table fun cdv A out s H E room gd => d_need_table T (all_ok T hnd k) hnd cdv A out s H E room gd
  | k + 1, 8 => fg_fun T.f_letter_at sc_letter_at fun cdv A out s H E room gd => d_letter_at T (all_ok T hnd k) hnd cdv A out s H E room gd
  | k + 1, 9 => fg_fun T.f_run sc_run fun cdv A out s H E room gd => d_run T (all_ok T hnd k) hnd cdv A out s H E room gd
  | k + 1, 10 => fg_fun T.f_law_cell sc_law_cell fun cdv A out s H E room gd => d_law_cell T (all_ok T hnd k) hnd cdv A out s H E room gd
  | k + 1, 11 => fg_fun T.f_law_pen sc_law_pen fun cdv A out s H E room gd => d_law_pen T (all_ok T hnd k) hnd cdv A out s H E room gd
  | k + 1, 12 => fg_fun T.f_law_draw sc_law_draw fun cdv A out s H E room gd => d_law_draw T (all_ok T hnd k) hnd cdv A out s H E room gd
  | k + 1, 13 => fg_fun T.f_law_pick sc_law_pick fun cdv A out s H E room gd => d_law_pick T (all_ok T hnd k) hnd cdv A out s H E room gd
  | k + 1, 14 => fg_fun T.f_law_same sc_law_same fun cdv A out s H E room gd => d_law_same T (all_ok T hnd k) hnd cdv A out s H E room gd
  | k + 1, 15 => fg_fun T.f_law_two sc_law_two fun cdv A out s H E room gd => d_law_two T (all_ok T hnd k) hnd cdv A out s H E room gd
  | k + 1, 16 => fg_fun T.f_law_numbers sc_law_numbers fun cdv A out s H E room gd => d_law_numbers T (all_ok T hnd k) hnd cdv A out s H E room gd
  | k + 1, 17 => fg_fun T.f_law_due sc_law_due fun cdv A out s H E room gd => d_law_due T (all_ok T hnd k) hnd cdv A out s H E room gd
  | k + 1, 18 => fg_fun T.f_law sc_law fun cdv A out s H E room gd => d_law T (all_ok T hnd k) hnd cdv A out s H E room gd
  | k + 1, _ + 19 => fg_none fun _ _ => rfl
theorem top_mk {l : PySem.W.OpenLaw} {w : World} {K : PySem.W.Frag} {h : Heap} {mg : Str → Option Value} {fa : Addr} (X : K.In h) (G : h.Ns mainGlobals mg) (hfa : mg "law" = some (.ref fa))
    {f0 : Addr} {od0 an0 : Option Addr} {sl0 : Array (Option Value)} {oc0 kV0 dc0 pm0 cd0 ct0 : Value}
    {f1 : Addr} {od1 an1 : Option Addr} {sl1 : Array (Option Value)} {oc1 kV1 dc1 pm1 cd1 ct1 : Value}
    {f2 : Addr} {od2 an2 : Option Addr} {sl2 : Array (Option Value)} {oc2 kV2 dc2 pm2 cd2 ct2 : Value}
    {td2 : Addr} {ot2 : Obj} {it2 : List Value} {nt2 : Nat}
    {f3 : Addr} {od3 an3 : Option Addr} {sl3 : Array (Option Value)} {oc3 kV3 dc3 pm3 cd3 ct3 : Value}
    {td3 : Addr} {ot3 : Obj} {it3 : List Value} {nt3 : Nat}
    {f4 : Addr} {od4 an4 : Option Addr} {sl4 : Array (Option Value)} {oc4 kV4 dc4 pm4 cd4 ct4 : Value}
    {f5 : Addr} {od5 an5 : Option Addr} {sl5 : Array (Option Value)} {oc5 kV5 dc5 pm5 cd5 ct5 : Value}
    {f6 : Addr} {od6 an6 : Option Addr} {sl6 : Array (Option Value)} {oc6 kV6 dc6 pm6 cd6 ct6 : Value}
    {f7 : Addr} {od7 an7 : Option Addr} {sl7 : Array (Option Value)} {oc7 kV7 dc7 pm7 cd7 ct7 : Value}
    {f8 : Addr} {od8 an8 : Option Addr} {sl8 : Array (Option Value)} {oc8 kV8 dc8 pm8 cd8 ct8 : Value}
    {f9 : Addr} {od9 an9 : Option Addr} {sl9 : Array (Option Value)} {oc9 kV9 dc9 pm9 cd9 ct9 : Value}
    {f10 : Addr} {od10 an10 : Option Addr} {sl10 : Array (Option Value)} {oc10 kV10 dc10 pm10 cd10 ct10 : Value}
    {f11 : Addr} {od11 an11 : Option Addr} {sl11 : Array (Option Value)} {oc11 kV11 dc11 pm11 cd11 ct11 : Value}
    {f12 : Addr} {od12 an12 : Option Addr} {sl12 : Array (Option Value)} {oc12 kV12 dc12 pm12 cd12 ct12 : Value}
    {f13 : Addr} {od13 an13 : Option Addr} {sl13 : Array (Option Value)} {oc13 kV13 dc13 pm13 cd13 ct13 : Value}
    {f14 : Addr} {od14 an14 : Option Addr} {sl14 : Array (Option Value)} {oc14 kV14 dc14 pm14 cd14 ct14 : Value}
    {f15 : Addr} {od15 an15 : Option Addr} {sl15 : Array (Option Value)} {oc15 kV15 dc15 pm15 cd15 ct15 : Value}
    {f16 : Addr} {od16 an16 : Option Addr} {sl16 : Array (Option Value)} {oc16 kV16 dc16 pm16 cd16 ct16 : Value}
    {f17 : Addr} {od17 an17 : Option Addr} {sl17 : Array (Option Value)} {oc17 kV17 dc17 pm17 cd17 ct17 : Value}
    {f18 : Addr} {od18 an18 : Option Addr} {sl18 : Array (Option Value)} {oc18 kV18 dc18 pm18 cd18 ct18 : Value}
    {cu_LETTERS : Value}
    {cu_VARIABLES : Value}
    (a0 : PySem.W.nsIn K mainGlobals "is_integer" = some (some (.ref f0)))
    (l0 : K.lookup f0 = some ⟨oc0, od0, .func (PySem.W.fnOf "is_integer" "is_integer" (defArgs s_is_integer) (defBody s_is_integer) (defScope s_is_integer) .none kV0 dc0 pm0 an0 cd0 ct0), sl0⟩)
    (c0 : PySem.W.codeIn K cd0 "is_integer" = true) (k0 : PySem.W.keepIn K (.ref f0) = true)
    (a1 : PySem.W.nsIn K mainGlobals "is_between" = some (some (.ref f1)))
    (l1 : K.lookup f1 = some ⟨oc1, od1, .func (PySem.W.fnOf "is_between" "is_between" (defArgs s_is_between) (defBody s_is_between) (defScope s_is_between) .none kV1 dc1 pm1 an1 cd1 ct1), sl1⟩)
    (c1 : PySem.W.codeIn K cd1 "is_between" = true) (k1 : PySem.W.keepIn K (.ref f1) = true)
    (a2 : PySem.W.nsIn K mainGlobals "need_values" = some (some (.ref f2)))
    (l2 : K.lookup f2 = some ⟨oc2, od2, .func (PySem.W.fnOf "need_values" "need_values" (defArgs s_need_values) (defBody s_need_values) (defScope s_need_values) (.ref td2) kV2 dc2 pm2 an2 cd2 ct2), sl2⟩)
    (c2 : PySem.W.codeIn K cd2 "need_values" = true) (k2 : PySem.W.keepIn K (.ref f2) = true)
    (t2 : K.lookup td2 = some ot2) (u2 : ot2.data = .seq it2.toArray nt2) (v2 : Vals [.int 3] it2)
    (a3 : PySem.W.nsIn K mainGlobals "need_width" = some (some (.ref f3)))
    (l3 : K.lookup f3 = some ⟨oc3, od3, .func (PySem.W.fnOf "need_width" "need_width" (defArgs s_need_width) (defBody s_need_width) (defScope s_need_width) (.ref td3) kV3 dc3 pm3 an3 cd3 ct3), sl3⟩)
    (c3 : PySem.W.codeIn K cd3 "need_width" = true) (k3 : PySem.W.keepIn K (.ref f3) = true)
    (t3 : K.lookup td3 = some ot3) (u3 : ot3.data = .seq it3.toArray nt3) (v3 : Vals [.int 2000] it3)
    (a4 : PySem.W.nsIn K mainGlobals "is_pair" = some (some (.ref f4)))
    (l4 : K.lookup f4 = some ⟨oc4, od4, .func (PySem.W.fnOf "is_pair" "is_pair" (defArgs s_is_pair) (defBody s_is_pair) (defScope s_is_pair) .none kV4 dc4 pm4 an4 cd4 ct4), sl4⟩)
    (c4 : PySem.W.codeIn K cd4 "is_pair" = true) (k4 : PySem.W.keepIn K (.ref f4) = true)
    (a5 : PySem.W.nsIn K mainGlobals "is_row" = some (some (.ref f5)))
    (l5 : K.lookup f5 = some ⟨oc5, od5, .func (PySem.W.fnOf "is_row" "is_row" (defArgs s_is_row) (defBody s_is_row) (defScope s_is_row) .none kV5 dc5 pm5 an5 cd5 ct5), sl5⟩)
    (c5 : PySem.W.codeIn K cd5 "is_row" = true) (k5 : PySem.W.keepIn K (.ref f5) = true)
    (a6 : PySem.W.nsIn K mainGlobals "is_table" = some (some (.ref f6)))
    (l6 : K.lookup f6 = some ⟨oc6, od6, .func (PySem.W.fnOf "is_table" "is_table" (defArgs s_is_table) (defBody s_is_table) (defScope s_is_table) .none kV6 dc6 pm6 an6 cd6 ct6), sl6⟩)
    (c6 : PySem.W.codeIn K cd6 "is_table" = true) (k6 : PySem.W.keepIn K (.ref f6) = true)
    (a7 : PySem.W.nsIn K mainGlobals "need_table" = some (some (.ref f7)))
    (l7 : K.lookup f7 = some ⟨oc7, od7, .func (PySem.W.fnOf "need_table" "need_table" (defArgs s_need_table) (defBody s_need_table) (defScope s_need_table) .none kV7 dc7 pm7 an7 cd7 ct7), sl7⟩)
    (c7 : PySem.W.codeIn K cd7 "need_table" = true) (k7 : PySem.W.keepIn K (.ref f7) = true)
    (a8 : PySem.W.nsIn K mainGlobals "letter_at" = some (some (.ref f8)))
    (l8 : K.lookup f8 = some ⟨oc8, od8, .func (PySem.W.fnOf "letter_at" "letter_at" (defArgs s_letter_at) (defBody s_letter_at) (defScope s_letter_at) .none kV8 dc8 pm8 an8 cd8 ct8), sl8⟩)
    (c8 : PySem.W.codeIn K cd8 "letter_at" = true) (k8 : PySem.W.keepIn K (.ref f8) = true)
    (a9 : PySem.W.nsIn K mainGlobals "run" = some (some (.ref f9)))
    (l9 : K.lookup f9 = some ⟨oc9, od9, .func (PySem.W.fnOf "run" "run" (defArgs s_run) (defBody s_run) (defScope s_run) .none kV9 dc9 pm9 an9 cd9 ct9), sl9⟩)
    (c9 : PySem.W.codeIn K cd9 "run" = true) (k9 : PySem.W.keepIn K (.ref f9) = true)
    (a10 : PySem.W.nsIn K mainGlobals "_law_cell" = some (some (.ref f10)))
    (l10 : K.lookup f10 = some ⟨oc10, od10, .func (PySem.W.fnOf "_law_cell" "_law_cell" (defArgs s_law_cell) (defBody s_law_cell) (defScope s_law_cell) .none kV10 dc10 pm10 an10 cd10 ct10), sl10⟩)
    (c10 : PySem.W.codeIn K cd10 "_law_cell" = true) (k10 : PySem.W.keepIn K (.ref f10) = true)
    (a11 : PySem.W.nsIn K mainGlobals "_law_pen" = some (some (.ref f11)))
    (l11 : K.lookup f11 = some ⟨oc11, od11, .func (PySem.W.fnOf "_law_pen" "_law_pen" (defArgs s_law_pen) (defBody s_law_pen) (defScope s_law_pen) .none kV11 dc11 pm11 an11 cd11 ct11), sl11⟩)
    (c11 : PySem.W.codeIn K cd11 "_law_pen" = true) (k11 : PySem.W.keepIn K (.ref f11) = true)
    (a12 : PySem.W.nsIn K mainGlobals "_law_draw" = some (some (.ref f12)))
    (l12 : K.lookup f12 = some ⟨oc12, od12, .func (PySem.W.fnOf "_law_draw" "_law_draw" (defArgs s_law_draw) (defBody s_law_draw) (defScope s_law_draw) .none kV12 dc12 pm12 an12 cd12 ct12), sl12⟩)
    (c12 : PySem.W.codeIn K cd12 "_law_draw" = true) (k12 : PySem.W.keepIn K (.ref f12) = true)
    (a13 : PySem.W.nsIn K mainGlobals "_law_pick" = some (some (.ref f13)))
    (l13 : K.lookup f13 = some ⟨oc13, od13, .func (PySem.W.fnOf "_law_pick" "_law_pick" (defArgs s_law_pick) (defBody s_law_pick) (defScope s_law_pick) .none kV13 dc13 pm13 an13 cd13 ct13), sl13⟩)
    (c13 : PySem.W.codeIn K cd13 "_law_pick" = true) (k13 : PySem.W.keepIn K (.ref f13) = true)
    (a14 : PySem.W.nsIn K mainGlobals "_law_same" = some (some (.ref f14)))
    (l14 : K.lookup f14 = some ⟨oc14, od14, .func (PySem.W.fnOf "_law_same" "_law_same" (defArgs s_law_same) (defBody s_law_same) (defScope s_law_same) .none kV14 dc14 pm14 an14 cd14 ct14), sl14⟩)
    (c14 : PySem.W.codeIn K cd14 "_law_same" = true) (k14 : PySem.W.keepIn K (.ref f14) = true)
    (a15 : PySem.W.nsIn K mainGlobals "_law_two" = some (some (.ref f15)))
    (l15 : K.lookup f15 = some ⟨oc15, od15, .func (PySem.W.fnOf "_law_two" "_law_two" (defArgs s_law_two) (defBody s_law_two) (defScope s_law_two) .none kV15 dc15 pm15 an15 cd15 ct15), sl15⟩)
    (c15 : PySem.W.codeIn K cd15 "_law_two" = true) (k15 : PySem.W.keepIn K (.ref f15) = true)
    (a16 : PySem.W.nsIn K mainGlobals "_law_numbers" = some (some (.ref f16)))
    (l16 : K.lookup f16 = some ⟨oc16, od16, .func (PySem.W.fnOf "_law_numbers" "_law_numbers" (defArgs s_law_numbers) (defBody s_law_numbers) (defScope s_law_numbers) .none kV16 dc16 pm16 an16 cd16 ct16), sl16⟩)
    (c16 : PySem.W.codeIn K cd16 "_law_numbers" = true) (k16 : PySem.W.keepIn K (.ref f16) = true)
    (a17 : PySem.W.nsIn K mainGlobals "_law_due" = some (some (.ref f17)))
    (l17 : K.lookup f17 = some ⟨oc17, od17, .func (PySem.W.fnOf "_law_due" "_law_due" (defArgs s_law_due) (defBody s_law_due) (defScope s_law_due) .none kV17 dc17 pm17 an17 cd17 ct17), sl17⟩)
    (c17 : PySem.W.codeIn K cd17 "_law_due" = true) (k17 : PySem.W.keepIn K (.ref f17) = true)
    (a18 : PySem.W.nsIn K mainGlobals "law" = some (some (.ref f18)))
    (l18 : K.lookup f18 = some ⟨oc18, od18, .func (PySem.W.fnOf "law" "law" (defArgs s_law) (defBody s_law) (defScope s_law) .none kV18 dc18 pm18 an18 cd18 ct18), sl18⟩)
    (c18 : PySem.W.codeIn K cd18 "law" = true) (k18 : PySem.W.keepIn K (.ref f18) = true)
    (g_LETTERS : PySem.W.nsIn K mainGlobals "LETTERS" = some (some cu_LETTERS)) (r_LETTERS : RelV (.int 8) cu_LETTERS)
    (g_VARIABLES : PySem.W.nsIn K mainGlobals "VARIABLES" = some (some cu_VARIABLES)) (r_VARIABLES : RelV (.int 3) cu_VARIABLES)
    (z_all : PySem.W.nsIn K mainGlobals "all" = some none)
    (z_bool : PySem.W.nsIn K mainGlobals "bool" = some none)
    (z_int : PySem.W.nsIn K mainGlobals "int" = some none)
    (z_isinstance : PySem.W.nsIn K mainGlobals "isinstance" = some none)
    (z_len : PySem.W.nsIn K mainGlobals "len" = some none)
    (z_list : PySem.W.nsIn K mainGlobals "list" = some none)
    (z_max : PySem.W.nsIn K mainGlobals "max" = some none)
    (z_min : PySem.W.nsIn K mainGlobals "min" = some none)
    (z_range : PySem.W.nsIn K mainGlobals "range" = some none)
    (z_repr : PySem.W.nsIn K mainGlobals "repr" = some none)
    (z_tuple : PySem.W.nsIn K mainGlobals "tuple" = some none)
    : ∃ (fd : FuncData) (ce : Nat → Addr × List Str), (∀ (s : Shared) (v : Value), BindsTo s fd ⟨[v], []⟩ [("_law_script", v)]) ∧ ∀ base : Heap, K.In base → base.Ns mainGlobals mg → base.NoDigits → FG l.prog w K mg base CX0 60 fa fd ["_law_script"] (spG ⟨K, ce⟩ (run 60 i_law)) := by
  have e := hfa.symm.trans (PySem.W.mg_of X G a18)
  cases e
  have F0 := fun_mk (st := s_is_integer) l0 c0 k0
  have b0 := F0.binds (ps := ps 0) fun _ _ _ _ _ _ us hl => match us, hl with | [_], _ => rfl
  have F1 := fun_mk (st := s_is_between) l1 c1 k1
  have b1 := F1.binds (ps := ps 1) fun _ _ _ _ _ _ us hl => match us, hl with | [_, _, _], _ => rfl
  have F2 := fd_dfl (st := s_need_values) l2 c2 k2 t2 u2 v2 (by intro z; cases z)
  have b2 := F2.binds1 (ps := ps 2) 2 1 (by intro z; cases z) rfl fun _ _ _ _ _ _ _ us its hl hi => match us, its, hl, hi with | [_, _], [_], _, _ => ⟨_, rfl, rfl⟩
  have F3 := fd_dfl (st := s_need_width) l3 c3 k3 t3 u3 v3 (by intro z; cases z)
  have b3 := F3.binds1 (ps := ps 3) 2 1 (by intro z; cases z) rfl fun _ _ _ _ _ _ _ us its hl hi => match us, its, hl, hi with | [_, _], [_], _, _ => ⟨_, rfl, rfl⟩
  have b3_1 := F3.binds1 (ps := ps 3) 1 0 (by intro z; cases z) rfl fun _ _ _ _ _ _ _ us its hl hi => match us, its, hl, hi with | [_], [_], _, _ => ⟨_, rfl, rfl⟩
  have F4 := fun_mk (st := s_is_pair) l4 c4 k4
  have b4 := F4.binds (ps := ps 4) fun _ _ _ _ _ _ us hl => match us, hl with | [_, _], _ => rfl
  have F5 := fun_mk (st := s_is_row) l5 c5 k5
  have b5 := F5.binds (ps := ps 5) fun _ _ _ _ _ _ us hl => match us, hl with | [_, _], _ => rfl
  have F6 := fun_mk (st := s_is_table) l6 c6 k6
  have b6 := F6.binds (ps := ps 6) fun _ _ _ _ _ _ us hl => match us, hl with | [_], _ => rfl
  have F7 := fun_mk (st := s_need_table) l7 c7 k7
  have b7 := F7.binds (ps := ps 7) fun _ _ _ _ _ _ us hl => match us, hl with | [_], _ => rfl
  have F8 := fun_mk (st := s_letter_at) l8 c8 k8
  have b8 := F8.binds (ps := ps 8) fun _ _ _ _ _ _ us hl => match us, hl with | [_, _], _ => rfl
  have F9 := fun_mk (st := s_run) l9 c9 k9
  have b9 := F9.binds (ps := ps 9) fun _ _ _ _ _ _ us hl => match us, hl with | [_, _, _], _ => rfl
  have F10 := fun_mk (st := s_law_cell) l10 c10 k10
  have b10 := F10.binds (ps := ps 10) fun _ _ _ _ _ _ us hl => match us, hl with | [_, _], _ => rfl
  have F11 := fun_mk (st := s_law_pen) l11 c11 k11
  have b11 := F11.binds (ps := ps 11) fun _ _ _ _ _ _ us hl => match us, hl with | [_], _ => rfl
  have F12 := fun_mk (st := s_law_draw) l12 c12 k12
  have b12 := F12.binds (ps := ps 12) fun _ _ _ _ _ _ us hl => match us, hl with | [_, _], _ => rfl
  have F13 := fun_mk (st := s_law_pick) l13 c13 k13
  have b13 := F13.binds (ps := ps 13) fun _ _ _ _ _ _ us hl => match us, hl with | [_, _], _ => rfl
  have F14 := fun_mk (st := s_law_same) l14 c14 k14
  have b14 := F14.binds (ps := ps 14) fun _ _ _ _ _ _ us hl => match us, hl with | [_, _], _ => rfl
  have F15 := fun_mk (st := s_law_two) l15 c15 k15
  have b15 := F15.binds (ps := ps 15) fun _ _ _ _ _ _ us hl => match us, hl with | [_], _ => rfl
  have F16 := fun_mk (st := s_law_numbers) l16 c16 k16
  have b16 := F16.binds (ps := ps 16) fun _ _ _ _ _ _ us hl => match us, hl with | [_, _], _ => rfl
  have F17 := fun_mk (st := s_law_due) l17 c17 k17
  have b17 := F17.binds (ps := ps 17) fun _ _ _ _ _ _ us hl => match us, hl with | [_, _, _], _ => rfl
  have F18 := fun_mk (st := s_law) l18 c18 k18
  have b18 := F18.binds (ps := ps 18) fun _ _ _ _ _ _ us hl => match us, hl with | [_], _ => rfl
  let ad : Nat → Addr := fun i => match i with | 0 => f0 | 1 => f1 | 2 => f2 | 3 => f3 | 4 => f4 | 5 => f5 | 6 => f6 | 7 => f7 | 8 => f8 | 9 => f9 | 10 => f10 | 11 => f11 | 12 => f12 | 13 => f13 | 14 => f14 | 15 => f15 | 16 => f16 | 17 => f17 | 18 => fa | _ => 0
  let fd : Nat → FuncData := fun i => match i with
    | 0 => PySem.W.fnOf "is_integer" "is_integer" (defArgs s_is_integer) (defBody s_is_integer) (defScope s_is_integer) .none kV0 dc0 pm0 an0 cd0 ct0
    | 1 => PySem.W.fnOf "is_between" "is_between" (defArgs s_is_between) (defBody s_is_between) (defScope s_is_between) .none kV1 dc1 pm1 an1 cd1 ct1
    | 2 => PySem.W.fnOf "need_values" "need_values" (defArgs s_need_values) (defBody s_need_values) (defScope s_need_values) (.ref td2) kV2 dc2 pm2 an2 cd2 ct2
    | 3 => PySem.W.fnOf "need_width" "need_width" (defArgs s_need_width) (defBody s_need_width) (defScope s_need_width) (.ref td3) kV3 dc3 pm3 an3 cd3 ct3
    | 4 => PySem.W.fnOf "is_pair" "is_pair" (defArgs s_is_pair) (defBody s_is_pair) (defScope s_is_pair) .none kV4 dc4 pm4 an4 cd4 ct4
    | 5 => PySem.W.fnOf "is_row" "is_row" (defArgs s_is_row) (defBody s_is_row) (defScope s_is_row) .none kV5 dc5 pm5 an5 cd5 ct5
    | 6 => PySem.W.fnOf "is_table" "is_table" (defArgs s_is_table) (defBody s_is_table) (defScope s_is_table) .none kV6 dc6 pm6 an6 cd6 ct6
    | 7 => PySem.W.fnOf "need_table" "need_table" (defArgs s_need_table) (defBody s_need_table) (defScope s_need_table) .none kV7 dc7 pm7 an7 cd7 ct7
    | 8 => PySem.W.fnOf "letter_at" "letter_at" (defArgs s_letter_at) (defBody s_letter_at) (defScope s_letter_at) .none kV8 dc8 pm8 an8 cd8 ct8
    | 9 => PySem.W.fnOf "run" "run" (defArgs s_run) (defBody s_run) (defScope s_run) .none kV9 dc9 pm9 an9 cd9 ct9
    | 10 => PySem.W.fnOf "_law_cell" "_law_cell" (defArgs s_law_cell) (defBody s_law_cell) (defScope s_law_cell) .none kV10 dc10 pm10 an10 cd10 ct10
    | 11 => PySem.W.fnOf "_law_pen" "_law_pen" (defArgs s_law_pen) (defBody s_law_pen) (defScope s_law_pen) .none kV11 dc11 pm11 an11 cd11 ct11
    | 12 => PySem.W.fnOf "_law_draw" "_law_draw" (defArgs s_law_draw) (defBody s_law_draw) (defScope s_law_draw) .none kV12 dc12 pm12 an12 cd12 ct12
    | 13 => PySem.W.fnOf "_law_pick" "_law_pick" (defArgs s_law_pick) (defBody s_law_pick) (defScope s_law_pick) .none kV13 dc13 pm13 an13 cd13 ct13
    | 14 => PySem.W.fnOf "_law_same" "_law_same" (defArgs s_law_same) (defBody s_law_same) (defScope s_law_same) .none kV14 dc14 pm14 an14 cd14 ct14
    | 15 => PySem.W.fnOf "_law_two" "_law_two" (defArgs s_law_two) (defBody s_law_two) (defScope s_law_two) .none kV15 dc15 pm15 an15 cd15 ct15
    | 16 => PySem.W.fnOf "_law_numbers" "_law_numbers" (defArgs s_law_numbers) (defBody s_law_numbers) (defScope s_law_numbers) .none kV16 dc16 pm16 an16 cd16 ct16
    | 17 => PySem.W.fnOf "_law_due" "_law_due" (defArgs s_law_due) (defBody s_law_due) (defScope s_law_due) .none kV17 dc17 pm17 an17 cd17 ct17
    | 18 => PySem.W.fnOf "law" "law" (defArgs s_law) (defBody s_law) (defScope s_law) .none kV18 dc18 pm18 an18 cd18 ct18
    | _ => PySem.W.fnOf "law" "law" (defArgs s_law) (defBody s_law) (defScope s_law) .none kV18 dc18 pm18 an18 cd18 ct18
  have T : Txt K mg ad fd := {
    m_is_integer := PySem.W.mg_of X G a0
    k_is_integer := k0
    b_is_integer := b0
    f_is_integer := fd_fun F0
    m_is_between := PySem.W.mg_of X G a1
    k_is_between := k1
    b_is_between := b1
    f_is_between := fd_fun F1
    m_need_values := PySem.W.mg_of X G a2
    k_need_values := k2
    b_need_values := bfull b2
    f_need_values := F2
    m_need_width := PySem.W.mg_of X G a3
    k_need_width := k3
    b_need_width := bfull b3
    f_need_width := F3
    m_is_pair := PySem.W.mg_of X G a4
    k_is_pair := k4
    b_is_pair := b4
    f_is_pair := fd_fun F4
    m_is_row := PySem.W.mg_of X G a5
    k_is_row := k5
    b_is_row := b5
    f_is_row := fd_fun F5
    m_is_table := PySem.W.mg_of X G a6
    k_is_table := k6
    b_is_table := b6
    f_is_table := fd_fun F6
    m_need_table := PySem.W.mg_of X G a7
    k_need_table := k7
    b_need_table := b7
    f_need_table := fd_fun F7
    m_letter_at := PySem.W.mg_of X G a8
    k_letter_at := k8
    b_letter_at := b8
    f_letter_at := fd_fun F8
    m_run := PySem.W.mg_of X G a9
    k_run := k9
    b_run := b9
    f_run := fd_fun F9
    m_law_cell := PySem.W.mg_of X G a10
    k_law_cell := k10
    b_law_cell := b10
    f_law_cell := fd_fun F10
    m_law_pen := PySem.W.mg_of X G a11
    k_law_pen := k11
    b_law_pen := b11
    f_law_pen := fd_fun F11
    m_law_draw := PySem.W.mg_of X G a12
    k_law_draw := k12
    b_law_draw := b12
    f_law_draw := fd_fun F12
    m_law_pick := PySem.W.mg_of X G a13
    k_law_pick := k13
    b_law_pick := b13
    f_law_pick := fd_fun F13
    m_law_same := PySem.W.mg_of X G a14
    k_law_same := k14
    b_law_same := b14
    f_law_same := fd_fun F14
    m_law_two := PySem.W.mg_of X G a15
    k_law_two := k15
    b_law_two := b15
    f_law_two := fd_fun F15
    m_law_numbers := PySem.W.mg_of X G a16
    k_law_numbers := k16
    b_law_numbers := b16
    f_law_numbers := fd_fun F16
    m_law_due := PySem.W.mg_of X G a17
    k_law_due := k17
    b_law_due := b17
    f_law_due := fd_fun F17
    m_law := PySem.W.mg_of X G a18
    k_law := k18
    b_law := b18
    f_law := fd_fun F18
    b_need_width_1 := b3_1
    g_LETTERS := ⟨_, _, PySem.W.mg_of X G g_LETTERS, r_LETTERS, fun _ _ => rv_int _⟩
    g_VARIABLES := ⟨_, _, PySem.W.mg_of X G g_VARIABLES, r_VARIABLES, fun _ _ => rv_int _⟩
    z_all := PySem.W.mg_none_of X G z_all
    z_bool := PySem.W.mg_none_of X G z_bool
    z_int := PySem.W.mg_none_of X G z_int
    z_isinstance := PySem.W.mg_none_of X G z_isinstance
    z_len := PySem.W.mg_none_of X G z_len
    z_list := PySem.W.mg_none_of X G z_list
    z_max := PySem.W.mg_none_of X G z_max
    z_min := PySem.W.mg_none_of X G z_min
    z_range := PySem.W.mg_none_of X G z_range
    z_repr := PySem.W.mg_none_of X G z_repr
    z_tuple := PySem.W.mg_none_of X G z_tuple
  }
  exact ⟨fd i_law, fun _ => (0, []), fun s v => .of_eq rfl, fun base _ _ nd => all_ok T nd 60 i_law⟩
end Lw

open PySem PySem.W PyProof.Rows in
set_option maxRecDepth 100000 in
set_option maxHeartbeats 0 in
theorem PySem.Challenge.cw_anywidth_k05_tables_run_holds : PySem.Challenge.rw_anywidth_k05_tables_run.Holds := by
  w_on; o_law; k_head; (case hw => w_witness2)
  k_fill
  refine G.walk_go (l := PySem.Challenge.rw_anywidth_k05_tables_run) (k := 60) (fn := Lw.run 60 Lw.i_law) (x := "_law_script") rfl (by decide) rfl ⟨rfl, by decide, by decide⟩ (fun w h Y => PySem.W.kIn_of Y) ?F (fun ns hl => Lw.good ns hl)
  case F =>
    intro w mg fa h KX G hmg
    refine' Lw.top_mk KX G hmg ?a0 ?l0 ?c0 ?k0 ?a1 ?l1 ?c1 ?k1 ?a2 ?l2 ?c2 ?k2 ?t2 ?u2 ?v2 ?a3 ?l3 ?c3 ?k3 ?t3 ?u3 ?v3 ?a4 ?l4 ?c4 ?k4 ?a5 ?l5 ?c5 ?k5 ?a6 ?l6 ?c6 ?k6 ?a7 ?l7 ?c7 ?k7 ?a8 ?l8 ?c8 ?k8 ?a9 ?l9 ?c9 ?k9 ?a10 ?l10 ?c10 ?k10 ?a11 ?l11 ?c11 ?k11 ?a12 ?l12 ?c12 ?k12 ?a13 ?l13 ?c13 ?k13 ?a14 ?l14 ?c14 ?k14 ?a15 ?l15 ?c15 ?k15 ?a16 ?l16 ?c16 ?k16 ?a17 ?l17 ?c17 ?k17 ?a18 ?l18 ?c18 ?k18 ?g_LETTERS ?r_LETTERS ?g_VARIABLES ?r_VARIABLES ?z_all ?z_bool ?z_int ?z_isinstance ?z_len ?z_list ?z_max ?z_min ?z_range ?z_repr ?z_tuple
    (case a0 => k_is)
    (case l0 => k_is)
    (case c0 => k_is)
    (case k0 => k_is)
    (case a1 => k_is)
    (case l1 => k_is)
    (case c1 => k_is)
    (case k1 => k_is)
    (case a2 => k_is)
    (case l2 => k_is)
    (case c2 => k_is)
    (case k2 => k_is)
    (case t2 => k_is)
    (case u2 => rfl)
    (case v2 => exact (.cons ⟨_, rfl⟩ .nil))
    (case a3 => k_is)
    (case l3 => k_is)
    (case c3 => k_is)
    (case k3 => k_is)
    (case t3 => k_is)
    (case u3 => rfl)
    (case v3 => exact (.cons ⟨_, rfl⟩ .nil))
    (case a4 => k_is)
    (case l4 => k_is)
    (case c4 => k_is)
    (case k4 => k_is)
    (case a5 => k_is)
    (case l5 => k_is)
    (case c5 => k_is)
    (case k5 => k_is)
    (case a6 => k_is)
    (case l6 => k_is)
    (case c6 => k_is)
    (case k6 => k_is)
    (case a7 => k_is)
    (case l7 => k_is)
    (case c7 => k_is)
    (case k7 => k_is)
    (case a8 => k_is)
    (case l8 => k_is)
    (case c8 => k_is)
    (case k8 => k_is)
    (case a9 => k_is)
    (case l9 => k_is)
    (case c9 => k_is)
    (case k9 => k_is)
    (case a10 => k_is)
    (case l10 => k_is)
    (case c10 => k_is)
    (case k10 => k_is)
    (case a11 => k_is)
    (case l11 => k_is)
    (case c11 => k_is)
    (case k11 => k_is)
    (case a12 => k_is)
    (case l12 => k_is)
    (case c12 => k_is)
    (case k12 => k_is)
    (case a13 => k_is)
    (case l13 => k_is)
    (case c13 => k_is)
    (case k13 => k_is)
    (case a14 => k_is)
    (case l14 => k_is)
    (case c14 => k_is)
    (case k14 => k_is)
    (case a15 => k_is)
    (case l15 => k_is)
    (case c15 => k_is)
    (case k15 => k_is)
    (case a16 => k_is)
    (case l16 => k_is)
    (case c16 => k_is)
    (case k16 => k_is)
    (case a17 => k_is)
    (case l17 => k_is)
    (case c17 => k_is)
    (case k17 => k_is)
    (case a18 => k_is)
    (case l18 => k_is)
    (case c18 => k_is)
    (case k18 => k_is)
    (case g_LETTERS => k_is)
    (case r_LETTERS => first | exact ⟨_, rfl⟩ | rfl)
    (case g_VARIABLES => k_is)
    (case r_VARIABLES => first | exact ⟨_, rfl⟩ | rfl)
    (case z_all => k_is)
    (case z_bool => k_is)
    (case z_int => k_is)
    (case z_isinstance => k_is)
    (case z_len => k_is)
    (case z_list => k_is)
    (case z_max => k_is)
    (case z_min => k_is)
    (case z_range => k_is)
    (case z_repr => k_is)
    (case z_tuple => k_is)
